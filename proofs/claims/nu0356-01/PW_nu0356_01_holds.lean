import PyProof.Rows.All
import Wide.All
import OpenK.AllK
import Wide.FinOn
import Lean
import PySem.Challenge.RW_nu0356_01
open PySem PySem.W PySem.Calls PyProof.Rows
set_option Elab.async false
set_option maxRecDepth 100000
namespace Mine
local macro_rules | `(tactic| walk_at $s:str) => `(tactic| k_extra $s)
inductive All4 (a0 a1 a2 a3 : Prop) : Prop
  | mk (h0 : a0) (h1 : a1) (h2 : a2) (h3 : a3) : All4 a0 a1 a2 a3
inductive All5 (a0 a1 a2 a3 a4 : Prop) : Prop
  | mk (h0 : a0) (h1 : a1) (h2 : a2) (h3 : a3) (h4 : a4) : All5 a0 a1 a2 a3 a4
inductive All6 (a0 a1 a2 a3 a4 a5 : Prop) : Prop
  | mk (h0 : a0) (h1 : a1) (h2 : a2) (h3 : a3) (h4 : a4) (h5 : a5) : All6 a0 a1 a2 a3 a4 a5
inductive All7 (a0 a1 a2 a3 a4 a5 a6 : Prop) : Prop
  | mk (h0 : a0) (h1 : a1) (h2 : a2) (h3 : a3) (h4 : a4) (h5 : a5) (h6 : a6) : All7 a0 a1 a2 a3 a4 a5 a6
inductive All8 (a0 a1 a2 a3 a4 a5 a6 a7 : Prop) : Prop
  | mk (h0 : a0) (h1 : a1) (h2 : a2) (h3 : a3) (h4 : a4) (h5 : a5) (h6 : a6) (h7 : a7) : All8 a0 a1 a2 a3 a4 a5 a6 a7
inductive All9 (a0 a1 a2 a3 a4 a5 a6 a7 a8 : Prop) : Prop
  | mk (h0 : a0) (h1 : a1) (h2 : a2) (h3 : a3) (h4 : a4) (h5 : a5) (h6 : a6) (h7 : a7) (h8 : a8) : All9 a0 a1 a2 a3 a4 a5 a6 a7 a8
inductive All10 (a0 a1 a2 a3 a4 a5 a6 a7 a8 a9 : Prop) : Prop
  | mk (h0 : a0) (h1 : a1) (h2 : a2) (h3 : a3) (h4 : a4) (h5 : a5) (h6 : a6) (h7 : a7) (h8 : a8) (h9 : a9) : All10 a0 a1 a2 a3 a4 a5 a6 a7 a8 a9
inductive All11 (a0 a1 a2 a3 a4 a5 a6 a7 a8 a9 a10 : Prop) : Prop
  | mk (h0 : a0) (h1 : a1) (h2 : a2) (h3 : a3) (h4 : a4) (h5 : a5) (h6 : a6) (h7 : a7) (h8 : a8) (h9 : a9) (h10 : a10) : All11 a0 a1 a2 a3 a4 a5 a6 a7 a8 a9 a10
inductive All12 (a0 a1 a2 a3 a4 a5 a6 a7 a8 a9 a10 a11 : Prop) : Prop
  | mk (h0 : a0) (h1 : a1) (h2 : a2) (h3 : a3) (h4 : a4) (h5 : a5) (h6 : a6) (h7 : a7) (h8 : a8) (h9 : a9) (h10 : a10) (h11 : a11) : All12 a0 a1 a2 a3 a4 a5 a6 a7 a8 a9 a10 a11
inductive All13 (a0 a1 a2 a3 a4 a5 a6 a7 a8 a9 a10 a11 a12 : Prop) : Prop
  | mk (h0 : a0) (h1 : a1) (h2 : a2) (h3 : a3) (h4 : a4) (h5 : a5) (h6 : a6) (h7 : a7) (h8 : a8) (h9 : a9) (h10 : a10) (h11 : a11) (h12 : a12) : All13 a0 a1 a2 a3 a4 a5 a6 a7 a8 a9 a10 a11 a12
inductive All14 (a0 a1 a2 a3 a4 a5 a6 a7 a8 a9 a10 a11 a12 a13 : Prop) : Prop
  | mk (h0 : a0) (h1 : a1) (h2 : a2) (h3 : a3) (h4 : a4) (h5 : a5) (h6 : a6) (h7 : a7) (h8 : a8) (h9 : a9) (h10 : a10) (h11 : a11) (h12 : a12) (h13 : a13) : All14 a0 a1 a2 a3 a4 a5 a6 a7 a8 a9 a10 a11 a12 a13
inductive All17 (a0 a1 a2 a3 a4 a5 a6 a7 a8 a9 a10 a11 a12 a13 a14 a15 a16 : Prop) : Prop
  | mk (h0 : a0) (h1 : a1) (h2 : a2) (h3 : a3) (h4 : a4) (h5 : a5) (h6 : a6) (h7 : a7) (h8 : a8) (h9 : a9) (h10 : a10) (h11 : a11) (h12 : a12) (h13 : a13) (h14 : a14) (h15 : a15) (h16 : a16) : All17 a0 a1 a2 a3 a4 a5 a6 a7 a8 a9 a10 a11 a12 a13 a14 a15 a16
inductive All18 (a0 a1 a2 a3 a4 a5 a6 a7 a8 a9 a10 a11 a12 a13 a14 a15 a16 a17 : Prop) : Prop
  | mk (h0 : a0) (h1 : a1) (h2 : a2) (h3 : a3) (h4 : a4) (h5 : a5) (h6 : a6) (h7 : a7) (h8 : a8) (h9 : a9) (h10 : a10) (h11 : a11) (h12 : a12) (h13 : a13) (h14 : a14) (h15 : a15) (h16 : a16) (h17 : a17) : All18 a0 a1 a2 a3 a4 a5 a6 a7 a8 a9 a10 a11 a12 a13 a14 a15 a16 a17
inductive Ex2 {t0 t1 : Type} (p : t0 → t1 → Prop) : Prop
  | mk (x0 : t0) (x1 : t1) (h : p x0 x1) : Ex2 p
inductive Ex3 {t0 t1 t2 : Type} (p : t0 → t1 → t2 → Prop) : Prop
  | mk (x0 : t0) (x1 : t1) (x2 : t2) (h : p x0 x1 x2) : Ex3 p
inductive Ex4 {t0 t1 t2 t3 : Type} (p : t0 → t1 → t2 → t3 → Prop) : Prop
  | mk (x0 : t0) (x1 : t1) (x2 : t2) (x3 : t3) (h : p x0 x1 x2 x3) : Ex4 p
inductive Ex5 {t0 t1 t2 t3 t4 : Type} (p : t0 → t1 → t2 → t3 → t4 → Prop) : Prop
  | mk (x0 : t0) (x1 : t1) (x2 : t2) (x3 : t3) (x4 : t4) (h : p x0 x1 x2 x3 x4) : Ex5 p
inductive Ex6 {t0 t1 t2 t3 t4 t5 : Type} (p : t0 → t1 → t2 → t3 → t4 → t5 → Prop) : Prop
  | mk (x0 : t0) (x1 : t1) (x2 : t2) (x3 : t3) (x4 : t4) (x5 : t5) (h : p x0 x1 x2 x3 x4 x5) : Ex6 p
inductive Ex7 {t0 t1 t2 t3 t4 t5 t6 : Type} (p : t0 → t1 → t2 → t3 → t4 → t5 → t6 → Prop) : Prop
  | mk (x0 : t0) (x1 : t1) (x2 : t2) (x3 : t3) (x4 : t4) (x5 : t5) (x6 : t6) (h : p x0 x1 x2 x3 x4 x5 x6) : Ex7 p
inductive Ex8 {t0 t1 t2 t3 t4 t5 t6 t7 : Type} (p : t0 → t1 → t2 → t3 → t4 → t5 → t6 → t7 → Prop) : Prop
  | mk (x0 : t0) (x1 : t1) (x2 : t2) (x3 : t3) (x4 : t4) (x5 : t5) (x6 : t6) (x7 : t7) (h : p x0 x1 x2 x3 x4 x5 x6 x7) : Ex8 p
inductive Ex9 {t0 t1 t2 t3 t4 t5 t6 t7 t8 : Type} (p : t0 → t1 → t2 → t3 → t4 → t5 → t6 → t7 → t8 → Prop) : Prop
  | mk (x0 : t0) (x1 : t1) (x2 : t2) (x3 : t3) (x4 : t4) (x5 : t5) (x6 : t6) (x7 : t7) (x8 : t8) (h : p x0 x1 x2 x3 x4 x5 x6 x7 x8) : Ex9 p
inductive Ex11 {t0 t1 t2 t3 t4 t5 t6 t7 t8 t9 t10 : Type} (p : t0 → t1 → t2 → t3 → t4 → t5 → t6 → t7 → t8 → t9 → t10 → Prop) : Prop
  | mk (x0 : t0) (x1 : t1) (x2 : t2) (x3 : t3) (x4 : t4) (x5 : t5) (x6 : t6) (x7 : t7) (x8 : t8) (x9 : t9) (x10 : t10) (h : p x0 x1 x2 x3 x4 x5 x6 x7 x8 x9 x10) : Ex11 p
inductive Ex12 {t0 t1 t2 t3 t4 t5 t6 t7 t8 t9 t10 t11 : Type} (p : t0 → t1 → t2 → t3 → t4 → t5 → t6 → t7 → t8 → t9 → t10 → t11 → Prop) : Prop
  | mk (x0 : t0) (x1 : t1) (x2 : t2) (x3 : t3) (x4 : t4) (x5 : t5) (x6 : t6) (x7 : t7) (x8 : t8) (x9 : t9) (x10 : t10) (x11 : t11) (h : p x0 x1 x2 x3 x4 x5 x6 x7 x8 x9 x10 x11) : Ex12 p
inductive Ex13 {t0 t1 t2 t3 t4 t5 t6 t7 t8 t9 t10 t11 t12 : Type} (p : t0 → t1 → t2 → t3 → t4 → t5 → t6 → t7 → t8 → t9 → t10 → t11 → t12 → Prop) : Prop
  | mk (x0 : t0) (x1 : t1) (x2 : t2) (x3 : t3) (x4 : t4) (x5 : t5) (x6 : t6) (x7 : t7) (x8 : t8) (x9 : t9) (x10 : t10) (x11 : t11) (x12 : t12) (h : p x0 x1 x2 x3 x4 x5 x6 x7 x8 x9 x10 x11 x12) : Ex13 p
inductive Ex14 {t0 t1 t2 t3 t4 t5 t6 t7 t8 t9 t10 t11 t12 t13 : Type} (p : t0 → t1 → t2 → t3 → t4 → t5 → t6 → t7 → t8 → t9 → t10 → t11 → t12 → t13 → Prop) : Prop
  | mk (x0 : t0) (x1 : t1) (x2 : t2) (x3 : t3) (x4 : t4) (x5 : t5) (x6 : t6) (x7 : t7) (x8 : t8) (x9 : t9) (x10 : t10) (x11 : t11) (x12 : t12) (x13 : t13) (h : p x0 x1 x2 x3 x4 x5 x6 x7 x8 x9 x10 x11 x12 x13) : Ex14 p
inductive Ex15 {t0 t1 t2 t3 t4 t5 t6 t7 t8 t9 t10 t11 t12 t13 t14 : Type} (p : t0 → t1 → t2 → t3 → t4 → t5 → t6 → t7 → t8 → t9 → t10 → t11 → t12 → t13 → t14 → Prop) : Prop
  | mk (x0 : t0) (x1 : t1) (x2 : t2) (x3 : t3) (x4 : t4) (x5 : t5) (x6 : t6) (x7 : t7) (x8 : t8) (x9 : t9) (x10 : t10) (x11 : t11) (x12 : t12) (x13 : t13) (x14 : t14) (h : p x0 x1 x2 x3 x4 x5 x6 x7 x8 x9 x10 x11 x12 x13 x14) : Ex15 p

noncomputable abbrev baObj (b : Array UInt8) : Obj := { cls := .type "bytearray", data := .bytearray b 0 }

theorem ba_mro : mroOf (.type "bytearray") = pure [.type "bytearray", .type "object"] := by rw [mroOf_type]; kernel_rfl
theorem ba_lookup_new : typeLookup (.type "bytearray") "__new__" = pure (some (.builtin "bytearray.__new__")) := by rw [typeLookup_type, builtinLookup_eq_fast]; kernel_rfl
theorem ba_slot_init : Slot "bytearray" "__init__" "bytearray.__init__" :=
  .of (owner := "bytearray") (n := "__init__") (by rw [typeLookup_type, builtinLookup_eq_fast]; kernel_rfl) (by decide +kernel) (by decide +kernel) (by decide +kernel)
    (by first | exact .inl (by decide +kernel) | exact .inr (by decide +kernel)) (by rw [isSubtype_type]; kernel_rfl)
theorem ba_called : TypeCalled "bytearray" "bytearray.__new__" "bytearray.__init__" :=
  ⟨by decide +kernel, by decide +kernel, ⟨_, _, ba_mro⟩, madeBy_type ba_mro ba_lookup_new (by decide +kernel), by decide +kernel, by rw [isSubtype_type]; kernel_rfl, ba_slot_init⟩
theorem ba_typeCall (a : Value) : checkTypeCall "bytearray" ⟨[a], []⟩ = pure () := by kernel_rfl
theorem ba_newCall (a : Value) : checkBuiltinCall "bytearray.__new__" ⟨[.type "bytearray", a], []⟩ = pure () := by kernel_rfl
theorem ba_plain_new : plainId "bytearray.__new__" = true := by decide +kernel
theorem ba_entry_new : entryFor table "bytearray.__new__" = some Builtin.«list.__new__» :=
  entryFor_alias (id' := "list.__new__") (by kernel_rfl) (by decide +kernel) (by decide +kernel) (by kernel_rfl)
theorem ba_entry_init : entryFor table "bytearray.__init__" = some Builtin.«bytearray.__init__» := by first | exact entryFor_of_fast (by kernel_rfl) | exact entryFor_of_tree (by kernel_rfl)
theorem ba_sub_self : isSubtype (.type "bytearray") (.type "bytearray") = pure true := by rw [isSubtype_type]; kernel_rfl
set_option maxRecDepth 1000000 in
set_option maxHeartbeats 4000000 in
theorem ba_owner : ("bytearray.__new__".splitOn ".__new__").headD "" = "bytearray" := by simp +decide [String.splitOn, String.splitOnAux]

section
variable {prog : Program} {w : World} {A : Around} {E : Value → Shared → Prop} {s : Shared}

set_option maxHeartbeats 4000000 in
theorem ba_code_new (a : Value) {Q₁ : Value → Shared → Prop}
    (h : Q₁ (.ref s.heap.objs.size) { s with heap := s.heap.push { cls := .type "bytearray", data := .bytearray #[] } }) :
    codeAny (model prog w) A (.call (.builtin "bytearray.__new__") ⟨[.type "bytearray", a], []⟩) (wants Q₁ E) s := by
  refine codeAny_of_tree ?_
  show wpAny _ A.in1 (do checkBuiltinCall "bytearray.__new__" ⟨[.type "bytearray", a], []⟩; again (.builtin "bytearray.__new__" ⟨[.type "bytearray", a], []⟩)) _ _ s
  refine wpAny_bind (wpAny_of_eq (ba_newCall a) (wpAny_pure ⟨plainId_quiet ba_plain_new _, codeAny_builtin_stack ba_entry_new rfl fun p st => ?_⟩))
  rw [Around.under_plainId ba_plain_new _]
  have hsub := ba_sub_self
  have hown := ba_owner
  obtain ⟨hp, g, d, tk, os⟩ := s
  simp only [hown]
  wp_walk
  exact h
end

/-- the codes that may hold a bytearray's memory -/
noncomputable def holderIds : List String := ["bytearray.__contains__", "bytearray.__mod__", "bytearray.__rmod__", "_struct.pack_into.held", "bytearray.find.held"] ++ Builtin.Bytes.decodersThatHold
noncomputable def holder : Code → Bool
  | .builtin id _ => holderIds.contains id
  | _ => false
/-- no code that holds a bytearray stands in the context -/
noncomputable def Tm (Γ : Ctx) : Prop := holder Γ.code = false ∧ ∀ x ∈ Γ.below, holder x.1 = false

/-- b true: in contexts without such codes; b false: in all contexts -/
noncomputable def wpX (b : Bool) {α : Type} (M : Model) (A : Around) (t : Sem α) (Q : α → Shared → Prop) (E : Value → Shared → Prop) (s : Shared) : Prop :=
  ∀ Γ p, Γ.In A → (b = true → Tm Γ) → Sem.wp M Γ t (fun a _ s' => Q a s') (fun e _ s' => E e s') p s
noncomputable def codeX (b : Bool) (M : Model) (A : Around) (c : Code) (R : Result → Shared → Prop) (s : Shared) : Prop :=
  ∀ Γ p, Γ.code = c → Γ.Below A → (b = true → ∀ x ∈ Γ.below, holder x.1 = false) → wpCode M Γ R p s
noncomputable abbrev wpT {α : Type} (M : Model) (A : Around) (t : Sem α) (Q : α → Shared → Prop) (E : Value → Shared → Prop) (s : Shared) : Prop := wpX true M A t Q E s
noncomputable abbrev codeT (M : Model) (A : Around) (c : Code) (R : Result → Shared → Prop) (s : Shared) : Prop := codeX true M A c R s

theorem Tm.enter {Γ : Ctx} (h : Tm Γ) (c : Code) (hd : Option Value) (p : Pos) : ∀ x ∈ (Γ.enter c hd p).below, holder x.1 = false := by
  intro x hx
  rcases List.mem_cons.mp hx with rfl | hx
  · exact h.1
  · exact h.2 x hx

section
variable {b : Bool} {α β : Type} {M : Model} {A : Around} {E : Value → Shared → Prop} {s : Shared}

theorem wpX.of {t : Sem α} {Q : α → Shared → Prop} (h : wpAny M A t Q E s) : wpX b M A t Q E s := fun Γ p hΓ _ => h Γ p hΓ
theorem codeX.of {c : Code} {R : Result → Shared → Prop} (h : codeAny M A c R s) : codeX b M A c R s := fun Γ p hc hΓ _ => h Γ p hc hΓ
theorem wpT_pure {a : α} {Q : α → Shared → Prop} (h : Q a s) : wpX b M A (pure a) Q E s := fun _ _ _ _ => h
theorem wpT_mono {t : Sem α} {Q Q' : α → Shared → Prop} {E' : Value → Shared → Prop} (h : wpX b M A t Q E s)
    (hQ : ∀ a s, Q a s → Q' a s) (hE : ∀ e s, E e s → E' e s) : wpX b M A t Q' E' s :=
  fun Γ p hΓ hT => Sem.wp_mono M Γ t (fun a _ s => hQ a s) (fun e _ s => hE e s) p s (h Γ p hΓ hT)
theorem codeT_mono {c : Code} {R R' : Result → Shared → Prop} (h : codeX b M A c R s) (hR : ∀ r s, R r s → R' r s) : codeX b M A c R' s :=
  fun Γ p hc hΓ hT => wpCode_mono hR (h Γ p hc hΓ hT)
theorem wpT_bind {m : Sem α} {f : α → Sem β} {Q : β → Shared → Prop} (h : wpX b M A m (fun a s' => wpX b M A (f a) Q E s') E s) : wpX b M A (m >>= f) Q E s := fun Γ p hΓ hT => by
  rw [Sem.wp_bind']
  exact Sem.wp_mono M Γ m (fun a p' s' h' => h' Γ p' hΓ hT) (fun _ _ _ h' => h') p s (h Γ p hΓ hT)
/-- the first step writes no bytearray -/
theorem wpT_bindA {m : Sem α} {f : α → Sem β} {Q : β → Shared → Prop} (h : wpAny M A m (fun a s' => wpX b M A (f a) Q E s') E s) : wpX b M A (m >>= f) Q E s := wpT_bind (wpX.of h)
theorem wpT_holding {vs : List Value} {m : Sem α} {Q : α → Shared → Prop} (h : wpX b M A m Q E s) : wpX b M A (holding vs m) Q E s :=
  fun Γ p hΓ hT => by rw [Sem.wp_holding]; exact h Γ p hΓ hT
theorem wpT_keep {vs : List Value} {m : Sem α} {Q : α → Shared → Prop} (h : wpX b M A m Q E s) : wpX b M A (m.keep vs) Q E s :=
  fun Γ p hΓ hT => by rw [Sem.wp_keep]; exact h Γ p hΓ hT
theorem wpT_onRaise {m : Sem α} {k : Value → Sem Unit} {Q : α → Shared → Prop} (h : wpX b M A m Q (fun e s' => wpX b M A (k e) (fun _ s'' => E e s'') E s') s) : wpX b M A (m.onRaise k) Q E s := fun Γ p hΓ hT => by
  rw [Sem.wp_onRaise]
  exact Sem.wp_mono M Γ m (fun _ _ _ h' => h') (fun e p' s' h' => h' Γ p' hΓ hT) p s (h Γ p hΓ hT)
theorem wpT_tryCatch {m : Sem α} {k : Value → Sem α} {Q : α → Shared → Prop} (h : wpX b M A m Q (fun e s' => wpX b M A (k e) Q E s') s) : wpX b M A (tryCatch m k) Q E s := fun Γ p hΓ hT => by
  rw [Sem.wp_tryCatch']
  exact Sem.wp_mono M Γ m (fun _ _ _ h' => h') (fun e p' s' h' => h' Γ p' hΓ hT) p s (h Γ p hΓ hT)
theorem wpT_run {c : Code} {h : Option Value} {Q : Flow → Shared → Prop}
    (hc : codeX b M (A.mark h) c (fun r s' => match r with | .ok f => Q f s' | .error e => E e s') s) (hnb : h ≠ some byPass) : wpX b M A (run c h) Q E s :=
  fun Γ p hΓ hT => by rw [Sem.wp_run]; exact hc _ p rfl (hΓ.enter c h p hnb) (fun e => (hT e).enter c h p)
theorem wpT_runValue {c : Code} {Q : Value → Shared → Prop}
    (hc : codeX b M A c (fun r s' => match r with | .ok (.ret v) => Q v s' | .ok _ => False | .error e => E e s') s) : wpX b M A (runValue c) Q E s :=
  fun Γ p hΓ hT => by rw [Sem.wp_runValue]; exact hc _ p rfl (hΓ.enter c none p (by intro x; cases x)) (fun e => (hT e).enter c none p)
theorem wpT_call {f : Value} {pos : List Value} {kw : List (Str × Value)} {Q : Value → Shared → Prop}
    (hc : codeX b M A (.call f ⟨pos, kw⟩) (fun r s' => match r with | .ok (.ret v) => Q v s' | .ok _ => False | .error e => E e s') s) : wpX b M A (call f pos kw) Q E s := wpT_runValue hc
theorem codeT_of_tree {c : Code} {R : Result → Shared → Prop} (hc0 : holder c = false)
    (h : wpX b M (A.under c) (M.den c) (fun fin s' => match fin with | .done f => R (.ok f) s' | .again c' => c'.quiet = true ∧ codeX b M A c' R s')
      (fun e s' => R (.error e) s') s) : codeX b M A c R s := fun Γ p hc hΓ hT => by
  rw [wpCode_iff_wp, hc]
  refine Sem.wp_mono M Γ _ (fun fin p' s' h' => ?_) (fun _ _ _ h' => h') p s (h Γ p (hc ▸ hΓ.in) fun e => ⟨hc ▸ hc0, hT e⟩)
  cases fin with
  | done f => exact h'
  | again c' => exact ⟨h'.1, h'.2 (Γ.goto c') p' rfl (hΓ.goto c') hT⟩
theorem wpT_ite {c : Prop} [Decidable c] {a d : Sem α} {Q : α → Shared → Prop} (h : if c then wpX b M A a Q E s else wpX b M A d Q E s) :
    wpX b M A (if c then a else d) Q E s := by split <;> simp_all
theorem wpT_false {c : Bool} {a d : Sem α} {Q : α → Shared → Prop} (hc : c = false) (h : wpX b M A d Q E s) : wpX b M A (if c = true then a else d) Q E s := by subst hc; exact h
theorem wpT_true {c : Bool} {a d : Sem α} {Q : α → Shared → Prop} (hc : c = true) (h : wpX b M A a Q E s) : wpX b M A (if c = true then a else d) Q E s := by subst hc; exact h
theorem wpT_eq {t : Sem α} {a : α} {Q : α → Shared → Prop} (h : t = pure a) (hQ : Q a s) : wpX b M A t Q E s := h ▸ wpT_pure hQ
end

theorem wpX.any {α : Type} {M : Model} {A : Around} {E : Value → Shared → Prop} {s : Shared} {t : Sem α} {Q : α → Shared → Prop} (h : wpX false M A t Q E s) : wpAny M A t Q E s := fun Γ p hΓ => h Γ p hΓ fun e => nomatch e
theorem codeX.any {M : Model} {A : Around} {s : Shared} {c : Code} {R : Result → Shared → Prop} (h : codeX false M A c R s) : codeAny M A c R s := fun Γ p hc hΓ => h Γ p hc hΓ fun e => nomatch e
section
variable {b : Bool} {prog : Program} {w : World} {A : Around} {E : Value → Shared → Prop} {s : Shared}
theorem codeT_builtin {R : Result → Shared → Prop} {id : String} {args : Args} {B : Builtin} (hb : entryFor table id = some B) (hi : holderIds.contains id = false)
    (h : wpX b (model prog w) (A.under (.builtin id args)) (B args) (fun fin s' => match fin with | .done f => R (.ok f) s' | .again c' => c'.quiet = true ∧ codeX b (model prog w) A c' R s') (fun e s' => R (.error e) s') s) :
    codeX b (model prog w) A (.builtin id args) R s := by
  refine codeT_of_tree hi ?_
  have hden : (model prog w).den (.builtin id args) = B args := by
    show (match entryFor table id with | some B => B args | none => unsupported ((withoutEnding? id "#data").getD id)) = _
    rw [hb]
  rw [hden]; exact h

theorem exported_off {c : Code} {p' : Pos} {self : Value} (hc : holder c = false) :
    Builtin.Bytes.exported.match_1 (motive := fun _ => Bool) (c, p') (fun v _ _ _ => Builtin.Bytes.sameRef v self) (fun v _ _ _ => Builtin.Bytes.sameRef v self) (fun _ v _ _ _ => Builtin.Bytes.sameRef v self)
      (fun v _ _ _ => Builtin.Bytes.sameRef v self) (fun _ _ held _ _ => held.any (Builtin.Bytes.sameRef self)) (fun id v _ _ _ => Builtin.Bytes.sameRef v self && Builtin.Bytes.decodersThatHold.contains id) (fun _ => false) = false := by
  cases c with
  | builtin id args =>
    obtain ⟨pos, kw⟩ := args
    have no : ∀ x, holderIds.contains x = true → id ≠ x := fun x hx e => by
      rw [← e] at hx; exact Bool.noConfusion (hc.symm.trans hx)
    delta Builtin.Bytes.exported.match_1
    refine (dif_neg (no "bytearray.__contains__" (by decide +kernel))).trans ?_
    refine (dif_neg (no "bytearray.__mod__" (by decide +kernel))).trans ?_
    refine (dif_neg (no "bytearray.__rmod__" (by decide +kernel))).trans ?_
    refine (dif_neg (no "_struct.pack_into.held" (by decide +kernel))).trans ?_
    refine (dif_neg (no "bytearray.find.held" (by decide +kernel))).trans ?_
    cases pos with
    | nil => rfl
    | cons v tl =>
      have h2 : Builtin.Bytes.decodersThatHold.contains id = false := by
        cases h : Builtin.Bytes.decodersThatHold.contains id with
        | false => rfl
        | true =>
          exfalso
          have h3 : holderIds.contains id = true := by
            rw [List.contains_iff_mem] at h ⊢
            exact List.mem_append_right _ h
          exact Bool.noConfusion (hc.symm.trans h3)
      exact (congrArg (Builtin.Bytes.sameRef v self && ·) h2).trans (Bool.and_false _)
  | _ => rfl
theorem wpT_exported {M : Model} {self : Value} {Q : Bool → Shared → Prop} (h : Q false s) : wpT M A (Builtin.Bytes.exported self) Q E s := fun Γ p _ hT => by
  unfold Builtin.Bytes.exported
  rw [Sem.wp_bind']
  unfold stack
  rw [Sem.wp_stack]
  show Q (List.any ((Γ.code, p) :: Γ.below) _) s
  rw [List.any_eq_false.mpr]
  · exact h
  · rintro ⟨c, p'⟩ hx
    have hc : holder c = false := by
      rcases List.mem_cons.mp hx with e | hx
      · cases e; exact (hT rfl).1
      · exact (hT rfl).2 _ hx
    exact ne_true_of_eq_false (exported_off hc)
end
/-- what is asked of the law's call: in contexts that hold no bytearray -/
noncomputable abbrev WalkT (q : Program) (loose : List Str) (XP : (Str → Option Value) → Heap → Prop) (YP : World → Heap → Prop) (r : RowW) (d : DefRec) (kwd : List (Str × PySem.Expr)) : Prop :=
  ∀ (w : World) (s₀ s₁ : Shared) (mg mb : Str → Option Value), Ground q loose r.records XP w s₀ mg mb s₁.heap → YP w s₁.heap → ∀ (a : Addr) (o : Obj) (pm cd doc dV kV : Value), s₁.heap.get? a = some o →
    o.data = .func { docDef d.name d.params d.body d.scope pm cd doc with defaults := dV, kwdefaults := kV } → s₁.heap.CodeRec cd d.name → Dflts mg s₁.heap d.params kwd dV kV → mg d.name = some (.ref a) → s₁.gens = #[] →
    ∀ (args : List WData) (vals : List Value) (as : List Addr), r.claim.pre args = true → WData.layableAll args = true → ReadsAllW r.records (classAt s₀.heap) s₁.heap vals args as → WellAll w.params s₁.heap vals args → (∀ a ∈ as, (a == sysModules) = false) →
      wpX true (model r.prog w) callerA (PySem.call (.ref a) vals) (fun v s' => GoodWG r.claim (classAt s₀.heap) (ExcName.means s₀.heap) args s₁ (.ok (.ret v)) s')
        (fun e s' => GoodWG r.claim (classAt s₀.heap) (ExcName.means s₀.heap) args s₁ (.error e) s') s₁

theorem caller_tame : Tm ⟨.builtin "claim.caller" {}, none, none, [], none⟩ := ⟨by decide +kernel, fun _ hx => nomatch hx⟩

theorem ends_tame {prog : Program} {w : World} {t : Sem Fin} {s : Shared} {R : Result → Shared → Prop} (hreg : s.asleep)
    (h : wpX true (model prog w) callerA t (fun fin s' => ∃ f, fin = .done f ∧ (R (.ok f) s' ∧ AllBare s'.gens)) (fun e s' => R (.error e) s' ∧ AllBare s'.gens) s) :
    (Ex4 fun n r s' s'' => All4 (runN (denote table) prog w n s ⟨t, .builtin "claim.caller" {}, default, []⟩ = .halted (outcomeOf r) s') (schedN (denote table) prog w n (.single s ⟨t, .builtin "claim.caller" {}, default, []⟩) = .halted (outcomeOf r) s') (s'.forget = s''.forget) (R r s'')) := by
  obtain ⟨n, r, s₁, s₂, hs, hn, hfo, hR⟩ := wp_halts_full (M := model prog w) (R := R) (p := default) hreg
    (Sem.wp_mono _ _ t (fun fin p' s' h' => by
      obtain ⟨f, rfl, a, b⟩ := h'
      exact ⟨a, leftWithCleanup_false_of_bare b⟩) (fun e _ s' h' => ⟨h'.1, leftWithCleanup_false_of_bare h'.2⟩) default s (h _ default caller_in fun _ => caller_tame))
  exact ⟨n, r, s₂, s₁, hn, hs, hfo, hR⟩

theorem ex26 {α β : Type} {P : Prop} {A B : α → Prop} {C D E F G H : α → β → Prop} (h : Exists fun a => A a ∧ B a ∧ Exists fun b => C a b ∧ D a b ∧ E a b ∧ F a b ∧ G a b ∧ H a b)
    (k : ∀ a b, A a → B a → C a b → D a b → E a b → F a b → G a b → H a b → P) : P := by
  obtain ⟨a, h1, h2, b, h3, h4, h5, h6, h7, h8⟩ := h
  exact k a b h1 h2 h3 h4 h5 h6 h7 h8
theorem ex75 {t1 t2 t3 t4 t5 t6 t7 : Type} {P : Prop} {A B C D E : t1 → t2 → t3 → t4 → t5 → t6 → t7 → Prop}
    (h : Exists fun a => Exists fun b => Exists fun c => Exists fun d => Exists fun e => Exists fun f => Exists fun g => A a b c d e f g ∧ B a b c d e f g ∧ C a b c d e f g ∧ D a b c d e f g ∧ E a b c d e f g)
    (k : ∀ a b c d e f g, A a b c d e f g → B a b c d e f g → C a b c d e f g → D a b c d e f g → E a b c d e f g → P) : P := by
  obtain ⟨a, b, c, d, e, f, g, h1, h2, h3, h4, h5⟩ := h
  exact k a b c d e f g h1 h2 h3 h4 h5
theorem PySem.W.holds_open {r : OpenRow} {q : Program} {loose : List Str} {Xt : Shared → Bool} {XP : (Str → Option Value) → Heap → Prop} {α : Type} {Yf : Shared → α} {Ya : World → α} {YP : World → Heap → Prop} {d : DefRec} {kwd : List (Str × PySem.Expr)} {N : Nat}
    (left : LeftO r.prog q loose Xt Yf Ya N) (hY : ∀ w s, Yf s = Ya w → YP w s.heap) (hYk : ∀ w h h', YP w h → (∀ b o, h.get? b = some o → h'.get? b = some o) → YP w h')
    (hX : ∀ s, Xt s = true → XP (s.heap.nsMap mainGlobals) s.heap) (hXk : ∀ mg h h', XP mg h → (∀ b o, h.get? b = some o → h'.get? b = some o) → XP mg h')
    (hdef : defOf q r.name = some (d, kwd)) (hp : r.prog.theDef r.name = some (d.params, d.body, d.scope)) (hk : kwWritten? d.params.kwonlyargs d.params.kw_defaults = some kwd) (hRf : ∀ s, Xt s = true → RecFacts r.records s.heap) (hwr : (!r.writes || r.records.isEmpty) = true)
    (k1 : r.wellSaid = true) (ok : (chainsOk q && opensWell r.prog && (frees r.toRowW && r.within.isEmpty)) = true) (hb : r.prog.bare) (hw : r.toRowW.promised)
    (call : WalkT q loose XP YP r.toRowW d kwd) : r.Holds := by
  refine ⟨k1, hw, ?_⟩
  have ok1 := Bool.and_eq_true_iff.mp ok
  have ok2 := Bool.and_eq_true_iff.mp ok1.1
  have ok3 := Bool.and_eq_true_iff.mp ok1.2
  obtain ⟨hsame, hu, ha, hap, hm⟩ := frees_parts ok3.1
  have hwi : r.toRowW.claim.within = [] := List.isEmpty_iff.mp ok3.2
  have hi := ident_freeW hu ha hap
  refine ⟨⟨hb, ok2.2, by show r.toRowW.makers.map _ = []; rw [hm]; rfl⟩, hw.witness, fun w => ⟨(left.behind hX ok2.1 w).1, fun s' hs' => ?_⟩⟩
  refine ex26 ((left.behind (XP := fun mg h => XP mg h ∧ RecFacts r.records h) (fun s hs => ⟨hX s hs, hRf s hs⟩) ok2.1 w).2 s' hs') fun s₀ s hf hg0 hT hz hgens hg Ga y => ?_
  obtain ⟨gx, RF⟩ := Ga.X
  have G0 : Ground q loose [] XP w s (s.heap.nsMap mainGlobals) (s.heap.nsMap builtinsNs) s.heap := ⟨Ga.T, Ga.B, Ga.D, Ga.TE, Ga.TD, Ga.W, gx, Ga.cls, Ga.has, Ga.apart, Ga.once, Ga.K⟩
  have hpin : isTheDefsW r.toRowW.prog s.heap r.name := pinned_of_view hg G0 hdef hp hk
  refine ⟨s₀, hf, hg0, s, hT, fun n hn => ?_, RF.1, RF.2.1, ?_⟩
  · obtain rfl : n = r.name := by split at hn <;> simp_all
    exact hpin
  have hge : s.gens = #[] := Array.eq_empty_of_size_eq_zero (beq_iff_eq.mp hgens)
  have G : Ground q loose r.records XP w s _ _ s.heap := RF.ground G0
  intro args hpre hlay ord hord
  obtain ⟨⟨vs, s₁⟩, hlaid⟩ := Option.isSome_iff_exists.mp (layAllW_isSome (P := w.params) (ord := ord) G.has args r.toRowW.args s (pre_splitW hpre).1)
  have keeps := layAllW_keeps _ _ _ hlaid
  have hal := layAllW_rest _ _ _ hlaid
  obtain ⟨as, hrd, hin, hold⟩ := reads_layAllW hord _ _ _ hlaid hlay s₁.heap (fun _ _ e => e)
  have L : Laid r.records w s s₁ args vs as := ⟨⟨ord, hord, hlaid⟩, hrd, hin, hold, keeps, hal.1.trans hge, hal.2.2.1⟩
  have G₁ := G.keeps hXk keeps
  refine ex75 (G₁.fn hdef) fun a o pm cd doc dV kV h1 h2 h3 h4 h5 => ?_
  have hcall := call w s s₁ _ _ G₁ (hYk _ _ _ (hY w s y) keeps) a o pm cd doc dV kV h2 h3 h4 h5 (defOf_name hdef ▸ h1) L.gens args vs as hpre hlay L.reads L.well (L.low G.low)
  have fin : ∀ {res : Result} {s' : Shared}, GoodWG r.toRowW.claim (classAt s.heap) (ExcName.means s.heap) args s₁ res s' →
      (r.toRowW.claim.Ends s args vs s₁ res s' ∧ s'.os = s.os ∧ (r.writes = true → namesKept r.toRowW.claim.prog r.keeps s.heap s'.heap ∧ ∀ x ∈ r.toRowW.claim.records, ∀ a, classAt s.heap x.1 = some a → recordClass s'.heap a x.1 (x.2.map (·.1)) = true)) ∧ AllBare s'.gens := fun g =>
    have z := g.laid (c := r.toRowW.claim) hsame hwi hi L
    ⟨⟨z.1, z.2.1, fun q => ⟨namesKept_of hT hg _ keeps g.2.1.old, noTable hwr q⟩⟩, z.2.2⟩
  obtain ⟨n, res, s', s'', hrun, hsched, hfo, hends, hos, hkp⟩ := ends_tame (prog := r.toRowW.prog) (w := w) (R := fun res s' => r.toRowW.claim.Ends s args vs s₁ res s' ∧ s'.os = s.os ∧ (r.writes = true → namesKept r.toRowW.claim.prog r.keeps s.heap s'.heap ∧ ∀ x ∈ r.toRowW.claim.records, ∀ a, classAt s.heap x.1 = some a → recordClass s'.heap a x.1 (x.2.map (·.1)) = true))
    (t := do match ← nsGet mainNs r.name with
      | some f => do ret (← PySem.call f vs)
      | none => unsupported "claim.caller:no-such-global") (Shared.asleep_of_life hal.2.2.2 hz)
    (wpT_bindA (wpAny_nsGet G₁.T.g (by
      rw [h1]
      exact wpT_bind (wpT_mono hcall (fun v s' g => wpT_pure ⟨_, rfl, fin g⟩) fun e s' g => fin g))))
  obtain ⟨eh, _, _, eo, _⟩ := Shared.forget_eq hfo
  have hends := hends.congr eh
  refine ⟨vs, s₁, hlaid, n, _, s', hsched, ?_, (fun _ i x hx => by rw [hge] at hx; simp at hx), by rw [eh]; exact hkp, by rw [(runN_life _ _ _ hrun).trans hal.2.2.2], Shared.rest_eq (eo ▸ hos)⟩
  rcases hends with ⟨v, rfl, d1, d2, d3, d4, d5⟩ | ⟨e, ob, cls, rfl, d1, d2, d3, d4, d5⟩
  · exact .inl ⟨v, rfl, d1, d2, d3, fun b o y _ => d4 b o y, d5⟩
  · exact .inr ⟨e, ob, cls, rfl, d1, d2, d3, d4, fun b o y _ => d5 b o y⟩
set_option maxHeartbeats 0 in
theorem law_said : OpenLaw.wellSaid PySem.Challenge.rw_nu0356_01 = true := by
  rw [PySem.W.Fast.te9446332074065402090]
  kernel_rfl
noncomputable def topRunQ (den : Code → Sem Fin) (p : Program) (w : World) (n₀ : Nat) (ann : Option Value) : Nat → SharedT → Thread → Option SharedT
  | 0, _, _ => none
  | n + 1, s, t => match through t with
    | true => some s
    | false => match stepOk n₀ ann t with
      | false => none
      | true => match PySem.W.Fast.tw10156331382660048174 den p w s t with
        | some (s', t') => topRunQ den p w n₀ ann n s' t'
        | none => none
theorem topRun_ofQ {tb : String → Option Builtin} {p : Program} {w : World} {n₀ : Nat} {ann : Option Value} : ∀ {n : Nat} {s s' : SharedT} {t : Thread}, topRunQ (denote tb) p w n₀ ann n s t = some s' → topRun tb p w n₀ ann n s.abs t = some s'.abs
  | 0, _, _, _, h => by cases h
  | n + 1, s, s', t, h => by
    unfold topRunQ at h
    rw [← PySem.W.Fast.te10156331382660048174] at h
    unfold topRun
    cases he : through t with
    | true => rw [he] at h; cases h; rfl
    | false =>
      rw [he] at h
      cases hk : stepOk n₀ ann t with
      | false => rw [hk] at h; cases h
      | true =>
        rw [hk] at h
        cases hs : stepT (denote tb) p w s t with
        | none => rw [hs] at h; cases h
        | some r => obtain ⟨s₂, t₂⟩ := r; rw [hs] at h; rw [stepT_spec hs]; exact topRun_ofQ h
theorem den_quick : denote treeTable = PySem.W.Fast.tw11892475500146522536 PySem.W.Fast.tw14364793385576792824 := by
  rw [PySem.W.Fast.te11892475500146522536, PySem.W.Fast.te14364793385576792824]
theorem left_of_tree {p q : Program} {loose : List Str} {Xt : Shared → Bool} {α : Type} {Yf : Shared → α} {Ya : World → α} {N : Nat} {g0 : Bool} {H₀ : Params → Heap} {gs₀ : Array GenState} {d₀ : Drawn} {k₀ : Nat}
    {T₀ : Params → BT} {n₀ : Nat} {life : Params → Life} {ann : Option Value}
    (open_ : ∀ w : World, (fencedOpening treeTable p w N).map (fun s => (s.heap, s.gens, s.drawn, s.toks)) = some (H₀ w.params, gs₀, d₀, k₀))
    (heap : ∀ P : Params, absHeap (T₀ P) n₀ (life P) = H₀ P)
    (size : ∀ w : World, ((H₀ w.params).isNs mainGlobals && gs₀.size == 0, (H₀ w.params).objs.size, (H₀ w.params).nsMap mainGlobals "__annotations__") = (true, n₀, ann))
    (run : ∀ (w : World) (os : OsState), (topRunQ (PySem.W.Fast.tw11892475500146522536 PySem.W.Fast.tw14364793385576792824) p w n₀ ann N ⟨T₀ w.params, n₀, life w.params, gs₀, d₀, k₀, os⟩ (topStub p)).map (fun s =>
        ((staticsOk (importedModules p.main.body) (H₀ w.params) s.abs.heap && namesBound p s.abs.heap && gensDone s.abs && laidKept (H₀ w.params) s.abs.heap),
        PySem.W.Fast.tw4187177175401517315 q loose (importedModules p.main.body) Xt g0 s.abs, Yf s.abs)) = some (true, openGood q loose, Ya w)) :
    LeftO p q loose Xt Yf Ya N g0 := fun w => by
  obtain ⟨⟨h, gs, d, k, os⟩, e, e'⟩ := Option.map_eq_some_iff.mp (open_ w)
  obtain ⟨rfl, rfl, rfl, rfl⟩ : h = H₀ w.params ∧ gs = gs₀ ∧ d = d₀ ∧ k = k₀ := by simpa using e'
  obtain ⟨z1, z2, z3⟩ : _ ∧ _ ∧ _ := by simpa only [Prod.mk.injEq] using size w
  obtain ⟨s₁, r, l⟩ := Option.map_eq_some_iff.mp (run w os)
  obtain ⟨l1, l2, l3⟩ : _ ∧ _ ∧ _ := by simpa only [Prod.mk.injEq] using l
  rw [← den_quick] at r
  have r' := topRun_ofQ r
  rw [← PySem.W.Fast.te4187177175401517315] at l2
  have hA : SharedT.abs ⟨T₀ w.params, n₀, life w.params, gs, d, k, os⟩ = ⟨H₀ w.params, gs, d, k, os⟩ := by unfold SharedT.abs; rw [heap]
  rw [hA] at r'
  have t : topFrom treeTable p w N ⟨H₀ w.params, gs, d, k, os⟩ = some s₁.abs := by
    unfold topFrom
    dsimp only
    rw [z1, z2, z3, r']
    show (match staticsOk (importedModules p.main.body) (H₀ w.params) s₁.abs.heap && namesBound p s₁.abs.heap && gensDone s₁.abs && laidKept (H₀ w.params) s₁.abs.heap with | true => _ | false => _) = _
    rw [l1]
  unfold openEnds
  rw [e]
  show (topFrom treeTable p w N _).map _ = _
  rw [t]
  exact congrArg some (Prod.ext l2 l3)
noncomputable def tree0 : Params → BT := fun P => .node (boot_o_0 P) (.node (boot_o_1 P) (.node (boot_o_3 P) (.node (boot_o_7 P) .nil .nil) .nil) (.node (boot_o_5 P) (.node (boot_o_9 P) .nil .nil) .nil)) (.node (boot_o_2 P) (.node (boot_o_4 P) (.node (boot_o_8 P) .nil .nil) .nil) (.node (boot_o_6 P) (.node (boot_o_10 P) .nil .nil) .nil))
section
local macro_rules | `(tactic| o_law) => `(tactic| refine PySem.W.holds_law Mine.law_said fun said => ?_)
local macro_rules
  | `(tactic| refine $e:term) => do
    unless e.raw.getKind == ``Lean.Parser.Term.app && e.raw[0].getId.eraseMacroScopes == `PySem.W.holds_open do Lean.Macro.throwUnsupported
    let hl := Lean.mkIdent `hl
    `(tactic| (refine' $e; (case $hl:ident => exact Mine.left_of_tree (T₀ := Mine.tree0) (n₀ := 11) (life := fun P => Heap.life (boot_heap P)) (ann := some (Value.ref 6)) (PySem.W.boot_open (by kernel_rfl) (by decide) (by intro s; kernel_rfl)) (by intro w; kernel_rfl) (by intro w; kernel_rfl) (by intro w os; kernel_rfl))))
set_option maxHeartbeats 0 in
open_top hd for PySem.Challenge.rw_nu0356_01
end

theorem ba_no_bytes : typeLookup (.type "bytearray") "__bytes__" = pure none := by rw [typeLookup_type, builtinLookup_eq_fast]; kernel_rfl
theorem ba_no_index : typeLookup (.type "bytearray") "__index__" = pure none := by rw [typeLookup_type, builtinLookup_eq_fast]; kernel_rfl
theorem by_no_index : typeLookup (.type "bytes") "__index__" = pure none := by rw [typeLookup_type, builtinLookup_eq_fast]; kernel_rfl
theorem by_no_int : typeLookup (.type "bytes") "__int__" = pure none := by rw [typeLookup_type, builtinLookup_eq_fast]; kernel_rfl
theorem by_no_float : typeLookup (.type "bytes") "__float__" = pure none := by rw [typeLookup_type, builtinLookup_eq_fast]; kernel_rfl
theorem ba_buffer : typeLookup (.type "bytearray") "__buffer__" = pure (some (.builtin "bytearray.__buffer__")) := by rw [typeLookup_type, builtinLookup_eq_fast]; kernel_rfl
theorem ba_release : typeLookup (.type "bytearray") "__release_buffer__" = pure (some (.builtin "bytearray.__release_buffer__")) := by rw [typeLookup_type, builtinLookup_eq_fast]; kernel_rfl
theorem ba_bind (v : Value) : Builtin.Bytes.bindOptional "bytearray.__init__" "bytearray" ["source", "encoding", "errors"] [v] [] = pure [some v, none, none] := by kernel_rfl
theorem by_bytes : typeLookup (.type "bytes") "__bytes__" = pure (some (.builtin "bytes.__bytes__")) := by rw [typeLookup_type, builtinLookup_eq_fast]; kernel_rfl

theorem owner_bytearray : Manifest.owners.lookup (String.ofList ['y', 'a', 'r', 'r', 'a', 'e', 't', 'y', 'b'].reverse) = some Manifest.sig_bytearray := by kernel_rfl
theorem ba_args_init (a b : Value) : argsOk "bytearray.__init__" ⟨[a, b], []⟩ := by
  unfold argsOk; rw [signature?_of (id := "bytearray.__init__") (n := ['_', '_', 't', 'i', 'n', 'i', '_', '_']) (o := ['y', 'a', 'r', 'r', 'a', 'e', 't', 'y', 'b']) (by kernel_rfl) owner_bytearray]; kernel_rfl
theorem ba_args_setitem (a b c : Value) : argsOk "bytearray.__setitem__" ⟨[a, b, c], []⟩ := by
  unfold argsOk; rw [signature?_of (id := "bytearray.__setitem__") (n := ['_', '_', 'm', 'e', 't', 'i', 't', 'e', 's', '_', '_']) (o := ['y', 'a', 'r', 'r', 'a', 'e', 't', 'y', 'b']) (by kernel_rfl) owner_bytearray]; kernel_rfl
theorem ba_slot_setitem : Slot "bytearray" "__setitem__" "bytearray.__setitem__" :=
  .of (owner := "bytearray") (n := "__setitem__") (by rw [typeLookup_type, builtinLookup_eq_fast]; kernel_rfl) (by decide +kernel) (by decide +kernel) (by decide +kernel)
    (by first | exact .inl (by decide +kernel) | exact .inr (by decide +kernel)) (by rw [isSubtype_type]; kernel_rfl)
theorem ba_entry_setitem : entryFor table "bytearray.__setitem__" = some Builtin.«bytearray.__setitem__» := by first | exact entryFor_of_fast (by kernel_rfl) | exact entryFor_of_tree (by kernel_rfl)
theorem int_no_bytes : typeLookup (.type "int") "__bytes__" = pure none := by rw [typeLookup_type, builtinLookup_eq_fast]; kernel_rfl
theorem by_not_ba : isSubtype (.type "bytes") (.type "bytearray") = pure false := by rw [isSubtype_type]; kernel_rfl
theorem by_not_complex : isSubtype (.type "bytes") (.type "complex") = pure false := by rw [isSubtype_type]; kernel_rfl
section
variable {prog : Program} {w : World} {A : Around} {E : Value → Shared → Prop} {s : Shared}

theorem ba_typeIs {a : Addr} {b : Array UInt8} {n : Nat} (h : s.heap.get? a = some { cls := .type "bytearray", data := .bytearray b n }) : s.TypeIs (.ref a) "bytearray" := ⟨_, h, rfl⟩

/-- the asking for a slot that is its type's own -/
theorem ba_own {M : Model} {a : Addr} {b : Array UInt8} {n : Nat} {nm id : String} {Q : Bool → Shared → Prop} (h : s.heap.get? a = some { cls := .type "bytearray", data := .bytearray b n })
    (hl : typeLookup (.type "bytearray") (nm : Str) = pure (some (.builtin id))) (he : (!id.endsWith ("." ++ nm)) = false) (hd : (id.dropRight (nm.length + 1)) = "bytearray") (hQ : Q true s) :
    wpAny M A (Builtin.Bytes.slotIsOwn (.ref a) nm) Q E s := by
  unfold Builtin.Bytes.slotIsOwn
  refine wpAny_bind (wpAny_specialOf (ba_typeIs h) hl ?_)
  dsimp only
  refine bm_if_false he ?_
  rw [hd]
  exact wpAny_isInstance (ba_typeIs h) ba_sub_self hQ
theorem ba_ownRelease {M : Model} {a : Addr} {b : Array UInt8} {n : Nat} {Q : Bool → Shared → Prop} (h : s.heap.get? a = some { cls := .type "bytearray", data := .bytearray b n }) (hQ : Q false s) :
    wpAny M A (Builtin.Bytes.ownRelease (.ref a)) Q E s := by
  unfold Builtin.Bytes.ownRelease
  exact wpAny_bind (ba_own h ba_release (by decide +kernel) (by decide +kernel) (wpAny_pure hQ))
theorem ba_payload {M : Model} {a : Addr} {b : Array UInt8} {n : Nat} {Q : Array UInt8 → Shared → Prop} (h : s.heap.get? a = some { cls := .type "bytearray", data := .bytearray b n }) (hQ : Q b s) :
    wpAny M A (Builtin.Bytes.payload (.ref a)) Q E s := by
  unfold Builtin.Bytes.payload Builtin.Bytes.payload?
  exact wpAny_bind (wpAny_bind (wpAny_load h (wpAny_pure (wpAny_pure hQ))))
theorem ba_bufferQ {M : Model} {a : Addr} {b : Array UInt8} {n : Nat} {id : String} {full : Bool} {Q : Option (Array UInt8) → Shared → Prop} (h : s.heap.get? a = some { cls := .type "bytearray", data := .bytearray b n }) (hQ : Q (some b) s) :
    wpAny M A (Builtin.Bytes.buffer? id (.ref a) full) Q E s := by
  unfold Builtin.Bytes.buffer?
  refine wpAny_bind (wpAny_specialOf (ba_typeIs h) ba_buffer ?_)
  try dsimp only
  refine wpAny_bind (ba_own h ba_buffer (by decide +kernel) (by decide +kernel) ?_)
  refine bm_if_false rfl ?_
  refine wpAny_bind (wpAny_specialOf (ba_typeIs h) ba_buffer ?_)
  try dsimp only
  refine wpAny_bind (ba_ownRelease h ?_)
  refine bm_if_false rfl ?_
  exact wpAny_bind (ba_payload h (wpAny_pure hQ))
theorem ba_write {M : Model} {a : Addr} {b : Array UInt8} {n : Nat} {f : Array UInt8 → Array UInt8} {Q : Unit → Shared → Prop} (h : s.heap.get? a = some { cls := .type "bytearray", data := .bytearray b n }) (hz : (f b).size ≤ sizeLine)
    (hQ : Q () { s with heap := s.heap.update a (Obj.mapBytearray f) }) : wpAny M A (Builtin.Bytes.write (.ref a) f) Q E s := by
  show wpAny _ _ (updateBytearray a f) _ _ _
  unfold updateBytearray
  refine wpAny_bind (wpAny_load h ?_)
  show wpAny _ _ (update a (Obj.mapBytearray f) >>= fun _ => lookBehind a) _ _ _
  refine wpAny_bind (wpAny_update h ?_)
  refine wpAny_lookBehind (Heap.get?_update_self (Obj.mapBytearray f) h rfl) ?_ hQ
  show (if (f b).size > sizeLine then some "bytearray:memory" else none) = none
  rw [if_neg (by omega)]

/-- bytearray.__init__ upon bytes or a bytearray -/
theorem ba_init_bytes {a : Addr} {x : Array UInt8} {t : Tok} {Q : Fin → Shared → Prop} (h : s.heap.get? a = some { cls := .type "bytearray", data := .bytearray #[] }) (hz : x.size ≤ sizeLine)
    (hQ : Q (.done (.ret .none)) { s with heap := (s.heap.update a (Obj.mapBytearray fun _ => #[])).update a (Obj.mapBytearray fun _ => x) }) :
    wpT (model prog w) A (Builtin.«bytearray.__init__» ⟨[.ref a, .bytes x t], []⟩) Q E s := by
  unfold Builtin.«bytearray.__init__»
  refine wpT_bindA (ba_ownRelease h ?_)
  refine wpT_false rfl ?_
  refine wpT_bindA (wpAny_of_eq (ba_bind _) ?_)
  refine wpT_bindA (wpAny_of_eq (a := ()) rfl ?_)
  refine wpT_bindA (wpAny_of_eq (a := ()) rfl ?_)
  refine wpT_bind ?_
  refine wpT_bind (wpT_exported ?_)
  show wpT _ _ (Builtin.Bytes.exportsOf (.ref a) >>= fun r => pure (decide (r > 0))) _ _ _
  refine wpT_bindA ?_
  unfold Builtin.Bytes.exportsOf
  refine wpAny_bind (wpAny_load h (wpAny_pure ?_))
  refine wpT_pure ?_
  refine wpT_false (by decide) ?_
  refine wpT_bindA (ba_write h (by simp [sizeLine]) ?_)
  have h1 : (s.heap.update a (Obj.mapBytearray fun _ => #[])).get? a = some { cls := .type "bytearray", data := .bytearray #[] } := Heap.get?_update_self (Obj.mapBytearray fun _ => #[]) h rfl
  show wpT _ _ (asStr? (.bytes x t) >>= _) _ _ _
  refine wpT_bindA (wpAny_of_eq (a := none) (by rfl) ?_)
  refine wpT_false rfl ?_
  refine wpT_bindA (wpAny_of_eq (a := ()) rfl ?_)
  refine wpT_bindA (wpAny_specialOf (typeIs_bytes _ _ _) by_no_index ?_)
  refine wpT_false rfl ?_
  refine wpT_bindA (wpAny_of_eq KBy.buffer_eq ?_)
  refine wpT_bindA (wpAny_rule ?_)
  refine wpT_bindA (ba_write h1 hz ?_)
  exact wpT_pure hQ

theorem ba_init_ba {a c : Addr} {x : Array UInt8} {n : Nat} {Q : Fin → Shared → Prop} (h : s.heap.get? a = some { cls := .type "bytearray", data := .bytearray #[] }) (hca : a ≠ c)
    (hc : s.heap.get? c = some { cls := .type "bytearray", data := .bytearray x n }) (hz : x.size ≤ sizeLine)
    (hQ : Q (.done (.ret .none)) { s with heap := (s.heap.update a (Obj.mapBytearray fun _ => #[])).update a (Obj.mapBytearray fun _ => x) }) :
    wpT (model prog w) A (Builtin.«bytearray.__init__» ⟨[.ref a, .ref c], []⟩) Q E s := by
  unfold Builtin.«bytearray.__init__»
  refine wpT_bindA (ba_ownRelease h ?_)
  refine wpT_false rfl ?_
  refine wpT_bindA (wpAny_of_eq (ba_bind _) ?_)
  refine wpT_bindA (wpAny_of_eq (a := ()) rfl ?_)
  refine wpT_bindA (wpAny_of_eq (a := ()) rfl ?_)
  refine wpT_bind ?_
  refine wpT_bind (wpT_exported ?_)
  show wpT _ _ (Builtin.Bytes.exportsOf (.ref a) >>= fun r => pure (decide (r > 0))) _ _ _
  refine wpT_bindA ?_
  unfold Builtin.Bytes.exportsOf
  refine wpAny_bind (wpAny_load h (wpAny_pure ?_))
  refine wpT_pure ?_
  refine wpT_false (by decide) ?_
  refine wpT_bindA (ba_write h (by simp [sizeLine]) ?_)
  have h1 : (s.heap.update a (Obj.mapBytearray fun _ => #[])).get? a = some { cls := .type "bytearray", data := .bytearray #[] } := Heap.get?_update_self (Obj.mapBytearray fun _ => #[]) h rfl
  have hc1 : (s.heap.update a (Obj.mapBytearray fun _ => #[])).get? c = some { cls := .type "bytearray", data := .bytearray x n } := (Heap.get?_update_ne _ _ _ _ (Ne.symm hca)).trans hc
  show wpT _ _ (asStr? (.ref c) >>= _) _ _ _
  refine wpT_bindA ?_
  show wpAny _ _ (load c >>= _) _ _ _
  refine wpAny_bind (wpAny_load hc1 (wpAny_pure ?_))
  refine wpT_false rfl ?_
  refine wpT_bindA (wpAny_of_eq (a := ()) rfl ?_)
  refine wpT_bindA (wpAny_specialOf (s := { s with heap := s.heap.update a (Obj.mapBytearray fun _ => #[]) }) (ba_typeIs hc1) ba_no_index ?_)
  refine wpT_false rfl ?_
  refine wpT_bindA (ba_bufferQ hc1 ?_)
  refine wpT_bindA (wpAny_rule ?_)
  refine wpT_bindA (ba_write h1 hz ?_)
  exact wpT_pure hQ

/-- bytearray(v), where its __init__ is known -/
theorem ba_call {v : Value} {Q : Value → Shared → Prop} (hi : ∀ (h' : Heap) (A' : Around), h' = s.heap.push { cls := .type "bytearray", data := .bytearray #[] } → wpT (model prog w) A' (Builtin.«bytearray.__init__» ⟨[.ref s.heap.objs.size, v], []⟩) (fun f s' => f = .done (.ret .none) ∧ Q (.ref s.heap.objs.size) s') (fun _ _ => False) { s with heap := h' }) :
    wpT (model prog w) A (call (.type "bytearray") [v]) Q E s := by
  refine wpT_call (codeT_of_tree rfl ?_)
  show wpT _ _ (callAny (.type "bytearray") _) _ _ _
  refine wpT_pure ⟨Code.quiet_builtin _ (by decide +kernel), codeT_builtin F.entry_type_call (by decide +kernel) ?_⟩
  have hT : ({ s with heap := s.heap.push { cls := .type "bytearray", data := .bytearray #[] } } : Shared).TypeIs (.ref s.heap.objs.size) "bytearray" := ⟨_, Heap.get?_push_size _ rfl, rfl⟩
  unfold Builtin.«type.__call__»
  refine wpT_false (by decide) ?_
  refine wpT_false ba_called.canCreate ?_
  refine wpT_bindA (wpAny_of_eq (ba_typeCall v) ?_)
  refine wpT_bindA (wpAny_of_eq ba_mro ?_)
  refine wpT_false rfl ?_
  refine wpT_bindA (wpAny_of_eq ba_called.made ?_)
  refine wpT_bindA (wpAny_of_eq (a := Value.builtin "bytearray.__new__") rfl ?_)
  refine wpT_bindA (wpAny_holding (wpAny_call (codeAny_mono (ba_code_new v (Q₁ := fun r s' => r = .ref s.heap.objs.size ∧ s' = { s with heap := s.heap.push { cls := .type "bytearray", data := .bytearray #[] } }) (E := fun _ _ => False) ⟨rfl, rfl⟩) ?_)))
  rintro r s₁ hr
  cases r with
  | error e => exact hr.elim
  | ok fl =>
    cases fl with
    | ret obj =>
      obtain ⟨rfl, rfl⟩ := hr
      show wpT _ _ _ _ _ _
      refine wpT_bindA (wpAny_isInstance hT ba_sub_self ?_)
      refine wpT_false rfl ?_
      refine wpT_bind (wpT_holding ?_)
      unfold callSpecial?
      refine wpT_bindA (wpAny_specialOf hT ba_slot_init.lookup ?_)
      dsimp only
      refine wpT_holding ?_
      refine wpT_bindA (wpAny_of_eq (ba_slot_init.bind _) ?_)
      dsimp only
      refine wpT_bind (wpT_call (codeT_of_tree rfl ?_))
      show wpT _ _ (do checkBuiltinCall "bytearray.__init__" ⟨[.ref s.heap.objs.size, v], []⟩; again (.builtin "bytearray.__init__" ⟨[.ref s.heap.objs.size, v], []⟩)) _ _ _
      refine wpT_bindA (ba_slot_init.check _ _ _ _ _ _ _ _ hT ?_ ?_)
      · exact ba_args_init _ _
      · refine wpT_pure ⟨plainId_quiet ba_slot_init.plain _, codeT_builtin ba_entry_init (by decide +kernel) ?_⟩
        refine wpT_mono (hi _ _ rfl) (fun f s' h' => ?_) (fun _ _ h' => h'.elim)
        obtain ⟨rfl, hq⟩ := h'
        show wpT _ _ (pure _) _ _ _
        refine wpT_pure ?_
        exact wpT_false (by decide) (wpT_pure hq)
    | _ => exact hr.elim

theorem ba_two {h : Heap} {b : Array UInt8} {x : Array UInt8} (e : h.get? b.size = none → True) (h' : Heap) (eh : h' = h.push { cls := .type "bytearray", data := .bytearray #[] }) :
    ((h'.update h.objs.size (Obj.mapBytearray fun _ => #[])).update h.objs.size (Obj.mapBytearray fun _ => x)).get? h.objs.size = some { cls := .type "bytearray", data := .bytearray x } := by
  subst eh
  have h0 : (h.push { cls := .type "bytearray", data := .bytearray #[] }).get? h.objs.size = some { cls := .type "bytearray", data := .bytearray #[] } := Heap.get?_push_size _ rfl
  have h1 := Heap.get?_update_self (Obj.mapBytearray fun _ => #[]) h0 rfl
  exact Heap.get?_update_self (Obj.mapBytearray fun _ => x) h1 rfl
theorem ba_keep {h : Heap} {x : Array UInt8} (h' : Heap) (eh : h' = h.push { cls := .type "bytearray", data := .bytearray #[] }) (b : Addr) (o : Obj) (e : h.get? b = some o) :
    ((h'.update h.objs.size (Obj.mapBytearray fun _ => #[])).update h.objs.size (Obj.mapBytearray fun _ => x)).get? b = some o := by
  subst eh
  have ne : b ≠ h.objs.size := Nat.ne_of_lt (Heap.lt_size e)
  rw [Heap.get?_update_other _ _ (Ne.symm ne), Heap.get?_update_other _ _ (Ne.symm ne)]
  exact Heap.get?_push_of_some _ e

/-- bytearray(bytes) -/
theorem ba_of_bytes {x : Array UInt8} {t : Tok} {Q : Value → Shared → Prop} (hz : x.size ≤ sizeLine)
    (hQ : ∀ h' a, a = s.heap.objs.size → h'.get? a = some { cls := .type "bytearray", data := .bytearray x } → (∀ b o, s.heap.get? b = some o → h'.get? b = some o) → Q (.ref a) { s with heap := h' }) :
    wpT (model prog w) A (call (.type "bytearray") [.bytes x t]) Q E s := by
  refine ba_call fun h' A' eh => ?_
  have h0 : h'.get? s.heap.objs.size = some { cls := .type "bytearray", data := .bytearray #[] } := by rw [eh]; exact Heap.get?_push_size _ rfl
  refine ba_init_bytes (s := { s with heap := h' }) h0 hz ⟨rfl, ?_⟩
  exact hQ _ _ rfl (ba_two (b := #[]) (fun _ => trivial) h' eh) (ba_keep h' eh)
/-- bytearray(bytearray) -/
theorem ba_of_ba {c : Addr} {x : Array UInt8} {n : Nat} {Q : Value → Shared → Prop} (hc : s.heap.get? c = some { cls := .type "bytearray", data := .bytearray x n }) (hz : x.size ≤ sizeLine)
    (hQ : ∀ h' a, a = s.heap.objs.size → h'.get? a = some { cls := .type "bytearray", data := .bytearray x } → (∀ b o, s.heap.get? b = some o → h'.get? b = some o) → Q (.ref a) { s with heap := h' }) :
    wpT (model prog w) A (call (.type "bytearray") [.ref c]) Q E s := by
  refine ba_call fun h' A' eh => ?_
  have h0 : h'.get? s.heap.objs.size = some { cls := .type "bytearray", data := .bytearray #[] } := by rw [eh]; exact Heap.get?_push_size _ rfl
  have h1 : h'.get? c = some { cls := .type "bytearray", data := .bytearray x n } := by rw [eh]; exact Heap.get?_push_of_some _ hc
  refine ba_init_ba (s := { s with heap := h' }) h0 (Ne.symm (Nat.ne_of_lt (Heap.lt_size hc))) h1 hz ⟨rfl, ?_⟩
  exact hQ _ _ rfl (ba_two (b := #[]) (fun _ => trivial) h' eh) (ba_keep h' eh)

/-- bytes(bytearray) -/
theorem bytes_of_ba {c : Addr} {x : Array UInt8} {n : Nat} {Q : Value → Shared → Prop} (hc : s.heap.get? c = some { cls := .type "bytearray", data := .bytearray x n }) (hz : x.size ≤ sizeLine)
    (hQ : ∀ t tk, Q (.bytes x t) { s with toks := tk }) :
    wpAny (model prog w) A (call (.type "bytes") [.ref c]) Q E s := by
  refine callType_codes (Q₁ := fun obj s₁ => s₁.TypeIs obj "bytes" ∧ Q obj s₁) PySem.F.bm_called (PySem.F.bm_typeCall _) PySem.F.entry_object_init ?_ fun obj s₁ h₁ => ?_
  · refine codeAny_of_tree ?_
    show wpAny _ _ (do checkBuiltinCall "bytes.__new__" ⟨[.type "bytes", .ref c], []⟩; again (.builtin "bytes.__new__" ⟨[.type "bytes", .ref c], []⟩)) _ _ s
    refine wpAny_bind (wpAny_of_eq (PySem.F.bm_newCall _) (wpAny_pure ⟨plainId_quiet PySem.F.bm_plain _, codeAny_builtin PySem.F.bm_entry ?_⟩))
    unfold Builtin.«bytes.__new__»
    refine wpAny_bind (wpAny_of_eq (a := true) rfl ?_)
    refine bm_if_false rfl ?_
    refine wpAny_bind (wpAny_of_eq PySem.F.bm_sub ?_)
    refine bm_if_false rfl ?_
    refine wpAny_bind (wpAny_of_eq (PySem.F.bm_bind _) ?_)
    refine wpAny_bind (wpAny_of_eq (a := ()) rfl ?_)
    refine wpAny_bind (wpAny_of_eq (a := ()) rfl ?_)
    refine bm_if_false rfl ?_
    refine wpAny_bind (wpAny_specialOf (ba_typeIs hc) ba_no_bytes ?_)
    refine wpAny_bind (wpAny_bind ?_)
    show wpAny _ _ (load c >>= _) _ _ _
    refine wpAny_bind (wpAny_load hc ?_)
    refine wpAny_pure (wpAny_pure ?_)
    refine bm_if_false rfl ?_
    refine wpAny_bind (wpAny_specialOf (ba_typeIs hc) ba_no_index ?_)
    refine bm_if_true rfl ?_
    refine wpAny_bind (ba_bufferQ hc ?_)
    refine wpAny_bind (wpAny_rule ?_)
    refine wpAny_bind (wpAny_mkBytes ?_ hz)
    show wpAny _ _ (if (Value.type "bytes" == Value.type "bytes") = true then _ else _) _ _ _
    refine bm_if_true (by decide) ?_
    first
      | exact wpAny_pure ⟨PySem.W.typeIs_bytes _ _ _, hQ _ _⟩
      | exact wpAny_bind (wpAny_pure (wpAny_pure ⟨PySem.W.typeIs_bytes _ _ _, hQ _ _⟩))
  · exact ⟨h₁.1, PySem.F.args_object_init_2 obj _, object_init_meets PySem.F.bm_called.init.lookup PySem.F.bm_called.made (by decide) prog w A.in1 _ s₁ ⟨h₁.1, rfl, h₁.2⟩⟩

/-- bytes(bytes) -/
theorem bytes_of_bytes {x : Array UInt8} {t : Tok} {Q : Value → Shared → Prop} (hQ : Q (.bytes x t) s) :
    wpAny (model prog w) A (call (.type "bytes") [.bytes x t]) Q E s := by
  refine callType_codes (Q₁ := fun obj s₁ => s₁.TypeIs obj "bytes" ∧ Q obj s₁) PySem.F.bm_called (PySem.F.bm_typeCall _) PySem.F.entry_object_init ?_ fun obj s₁ h₁ => ?_
  · refine codeAny_of_tree ?_
    show wpAny _ _ (do checkBuiltinCall "bytes.__new__" ⟨[.type "bytes", .bytes x t], []⟩; again (.builtin "bytes.__new__" ⟨[.type "bytes", .bytes x t], []⟩)) _ _ s
    refine wpAny_bind (wpAny_of_eq (PySem.F.bm_newCall _) (wpAny_pure ⟨plainId_quiet PySem.F.bm_plain _, codeAny_builtin PySem.F.bm_entry ?_⟩))
    unfold Builtin.«bytes.__new__»
    refine wpAny_bind (wpAny_of_eq (a := true) rfl ?_)
    refine bm_if_false rfl ?_
    refine wpAny_bind (wpAny_of_eq PySem.F.bm_sub ?_)
    refine bm_if_false rfl ?_
    refine wpAny_bind (wpAny_of_eq (PySem.F.bm_bind _) ?_)
    refine wpAny_bind (wpAny_of_eq (a := ()) rfl ?_)
    refine wpAny_bind (wpAny_of_eq (a := ()) rfl ?_)
    refine bm_if_false rfl ?_
    refine wpAny_bind (wpAny_specialOf (typeIs_bytes _ _ _) by_bytes ?_)
    refine wpAny_bind (wpAny_rule ?_)
    refine wpAny_bind (wpAny_typeOf (typeIs_bytes _ _ _) ?_)
    refine bm_if_true (by decide) ?_
    show wpAny _ _ (if (Value.type "bytes" == Value.type "bytes") = true then _ else _) _ _ _
    refine bm_if_true (by decide) ?_
    first
      | exact wpAny_pure ⟨PySem.W.typeIs_bytes _ _ _, hQ⟩
      | exact wpAny_bind (wpAny_pure (wpAny_pure ⟨PySem.W.typeIs_bytes _ _ _, hQ⟩))
  · exact ⟨h₁.1, PySem.F.args_object_init_2 obj _, object_init_meets PySem.F.bm_called.init.lookup PySem.F.bm_called.made (by decide) prog w A.in1 _ s₁ ⟨h₁.1, rfl, h₁.2⟩⟩

/-- bytes(n) -/
theorem bytes_of_int {i : Int} {t : Tok} {Q : Value → Shared → Prop} (h0 : 0 ≤ i) (h1 : i ≤ 16777216)
    (hQ : ∀ t' tk, Q (.bytes (Array.replicate i.toNat 0) t') { s with toks := tk }) :
    wpAny (model prog w) A (call (.type "bytes") [.int i t]) Q E s := by
  refine callType_codes (Q₁ := fun obj s₁ => s₁.TypeIs obj "bytes" ∧ Q obj s₁) PySem.F.bm_called (PySem.F.bm_typeCall _) PySem.F.entry_object_init ?_ fun obj s₁ h₁ => ?_
  · refine codeAny_of_tree ?_
    show wpAny _ _ (do checkBuiltinCall "bytes.__new__" ⟨[.type "bytes", .int i t], []⟩; again (.builtin "bytes.__new__" ⟨[.type "bytes", .int i t], []⟩)) _ _ s
    refine wpAny_bind (wpAny_of_eq (PySem.F.bm_newCall _) (wpAny_pure ⟨plainId_quiet PySem.F.bm_plain _, codeAny_builtin PySem.F.bm_entry ?_⟩))
    unfold Builtin.«bytes.__new__»
    refine wpAny_bind (wpAny_of_eq (a := true) rfl ?_)
    refine bm_if_false rfl ?_
    refine wpAny_bind (wpAny_of_eq PySem.F.bm_sub ?_)
    refine bm_if_false rfl ?_
    refine wpAny_bind (wpAny_of_eq (PySem.F.bm_bind _) ?_)
    refine wpAny_bind (wpAny_of_eq (a := ()) rfl ?_)
    refine wpAny_bind (wpAny_of_eq (a := ()) rfl ?_)
    refine bm_if_false rfl ?_
    refine wpAny_bind (wpAny_specialOf (typeIs_int _ _ _) int_no_bytes ?_)
    refine wpAny_bind (wpAny_of_eq (a := false) rfl ?_)
    refine bm_if_false rfl ?_
    refine wpAny_bind (wpAny_specialOf (typeIs_int _ _ _) PySem.F.slot_int_index.lookup ?_)
    refine bm_if_false rfl ?_
    refine wpAny_bind (wpAny_attempt (wpAny_of_eq (rfl : asIndex (.int i t) = pure i) ?_))
    dsimp only
    refine bm_if_false ?_ ?_
    · have e : (2 : Int) ^ 63 = 9223372036854775808 := by decide
      unfold Builtin.Bytes.fitsIndex
      rw [e]
      simp only [Bool.not_eq_false', Bool.and_eq_true, decide_eq_true_eq]
      omega
    refine wpAny_ite (KBy.ite_no (by omega) ?_)
    refine wpAny_ite (KBy.ite_no (by have e : (2 : Int) ^ 63 = 9223372036854775808 := by decide
                                     rw [e]; omega) ?_)
    refine bm_if_false (KBy.tooLong_not (by omega)) ?_
    refine wpAny_bind (wpAny_rule ?_)
    refine wpAny_bind (wpAny_mkBytes ?_ (by rw [Array.size_replicate, sizeLine_eq]; omega))
    show wpAny _ _ (if (Value.type "bytes" == Value.type "bytes") = true then _ else _) _ _ _
    refine bm_if_true (by decide) ?_
    first
      | exact wpAny_pure ⟨PySem.W.typeIs_bytes _ _ _, hQ _ _⟩
      | exact wpAny_bind (wpAny_pure (wpAny_pure ⟨PySem.W.typeIs_bytes _ _ _, hQ _ _⟩))
  · exact ⟨h₁.1, PySem.F.args_object_init_2 obj _, object_init_meets PySem.F.bm_called.init.lookup PySem.F.bm_called.made (by decide) prog w A.in1 _ s₁ ⟨h₁.1, rfl, h₁.2⟩⟩

/-- a[:] = bytes of a's own length -/
theorem ba_setslice {a c : Addr} {x y : Array UInt8} {t : Tok} {Q : Fin → Shared → Prop} (ha : s.heap.get? a = some { cls := .type "bytearray", data := .bytearray y })
    (hc : s.heap.get? c = some { cls := .type "slice", data := .fields #[.none, .none, .none] }) (hz : x.size ≤ sizeLine) (hs : x.size = y.size)
    (hQ : ∀ h' , h'.get? a = some { cls := .type "bytearray", data := .bytearray x } → (∀ b o, s.heap.get? b = some o → b ≠ a → h'.get? b = some o) → Q (.done (.ret .none)) { s with heap := h' }) :
    wpT (model prog w) A (Builtin.«bytearray.__setitem__» ⟨[.ref a, .ref c, .bytes x t], []⟩) Q E s := by
  have hT : s.TypeIs (.ref c) "slice" := ⟨_, hc, rfl⟩
  unfold Builtin.«bytearray.__setitem__»
  refine wpT_false rfl ?_
  show wpT _ _ (Builtin.Bytes.subscript? (.ref c) >>= _) _ _ _
  refine wpT_bindA ?_
  unfold Builtin.Bytes.subscript?
  refine wpAny_bind (wpAny_specialOf hT slice_no_index (wpAny_pure ?_))
  refine wpT_bindA (wpAny_typeOf hT ?_)
  refine wpT_false (by decide) ?_
  have parts : ∀ {A : Around} {E : Value → Shared → Prop} {s : Shared} {Q : Value × Value × Value → Shared → Prop}, s.heap.get? c = some { cls := .type "slice", data := .fields #[.none, .none, .none] } → Q (.none, .none, .none) s → wpAny (model prog w) A (Builtin.Bytes.sliceParts (.ref c)) Q E s := by
    intro A E s Q hc hQ
    unfold Builtin.Bytes.sliceParts
    refine wpAny_bind (wpAny_field (x := .none) hc rfl rfl ?_)
    kby_none
    refine wpAny_ite (KBy.ite_no (show ¬ ((Value.none == rawInt 0) = true) from Bool.false_ne_true) ?_)
    refine wpAny_bind (wpAny_field (x := .none) hc rfl rfl ?_)
    kby_none
    refine wpAny_bind (wpAny_field (x := .none) hc rfl rfl ?_)
    kby_none
    exact wpAny_pure hQ
  refine wpT_bindA (parts hc ?_)
  show wpT _ _ (isInstance (.bytes x t) (.type "bytearray") >>= _) _ _ _
  refine wpT_bindA (wpAny_isInstance (typeIs_bytes _ _ _) by_not_ba ?_)
  dsimp only
  refine wpT_true rfl ?_
  refine wpT_bindA ?_
  refine wpAny_bind (wpAny_bind (wpAny_specialOf (typeIs_bytes _ _ _) by_no_index (wpAny_pure ?_)))
  show wpAny _ _ ((specialOf (.bytes x t) (Str.ofString "__int__") >>= fun r => pure r.isSome) >>= _) _ _ _
  refine wpAny_bind (wpAny_bind (wpAny_specialOf (typeIs_bytes _ _ _) by_no_int (wpAny_pure ?_)))
  show wpAny _ _ ((specialOf (.bytes x t) (Str.ofString "__float__") >>= fun r => pure r.isSome) >>= _) _ _ _
  refine wpAny_bind (wpAny_bind (wpAny_specialOf (typeIs_bytes _ _ _) by_no_float (wpAny_pure ?_)))
  show wpAny _ _ (isInstance (.bytes x t) (.type "complex")) _ _ _
  refine wpAny_isInstance (typeIs_bytes _ _ _) by_not_complex ?_
  refine wpT_bindA (wpAny_of_eq (a := none) (by rfl) ?_)
  refine wpT_false rfl ?_
  refine wpT_bindA (wpAny_rule ?_)
  refine wpT_bind (ba_of_bytes hz fun h' d ed hd k => ?_)
  have hT' : h'.get? c = some { cls := .type "slice", data := .fields #[.none, .none, .none] } := k _ _ hc
  have ha' := k _ _ ha
  refine wpT_bindA (wpAny_holding (parts hT' ?_))
  dsimp only
  refine wpT_bindA (ba_payload hd ?_)
  refine wpT_bindA (ba_payload ha' ?_)
  refine wpT_bindA (wpAny_of_eq (sliceIndices_raw none none none y.size (fun e => nomatch e)) ?_)
  have sb : sliceBounds none none none y.size = (0, (y.size : Int), 1) := rfl
  simp only [sb]
  refine wpT_true rfl ?_
  refine wpT_bindA (wpAny_rule ?_)
  refine wpT_false (by simp [hs]) ?_
  have ef : (fun b : Array UInt8 => b.extract 0 (0 : Int).toNat ++ x ++ b.extract (max (0 : Int) (y.size : Int)).toNat b.size) y = x := by
    have : (max (0 : Int) (y.size : Int)).toNat = y.size := by omega
    simp [this]
  refine wpT_bindA (ba_write ha' (by have e2 := congrArg Array.size ef; dsimp only at e2; rw [e2]; exact hz) ?_)
  refine wpT_pure (hQ _ ?_ fun b o e hb => ?_)
  · have := Heap.get?_update_self (Obj.mapBytearray fun b : Array UInt8 => b.extract 0 (0 : Int).toNat ++ x ++ b.extract (max (0 : Int) (y.size : Int)).toNat b.size) ha' rfl
    refine this.trans ?_
    show some ({ cls := .type "bytearray", data := .bytearray ((fun b : Array UInt8 => b.extract 0 (0 : Int).toNat ++ x ++ b.extract (max (0 : Int) (y.size : Int)).toNat b.size) y) } : Obj) = _
    rw [ef]
  · rw [Heap.get?_update_other _ _ (Ne.symm hb)]; exact k _ _ e

theorem wpT_callSpecial_slot {self : Value} {T : String} {name : Str} {id : String} {args : List Value} {kw : List (Str × Value)} {Q : Option Value → Shared → Prop} (hT : s.TypeIs self T) (h : Slot T name id)
    (hc : wpT (model prog w) A (call (.builtin id) (self :: args) kw) (fun v => Q (some v)) E s) : wpT (model prog w) A (callSpecial? self name args kw) Q E s := by
  unfold callSpecial?
  refine wpT_bindA (wpAny_specialOf hT h.lookup ?_)
  dsimp only
  refine wpT_holding (wpT_bindA (wpAny_of_eq (h.bind _) ?_))
  dsimp only
  exact wpT_bind (wpT_mono hc (fun v s' h' => wpT_pure h') fun _ _ h' => h')
theorem wpT_call_slot {self : Value} {T : String} {name : Str} {id : String} {B : Builtin} {args : List Value} {Q : Value → Shared → Prop} (hT : s.TypeIs self T) (h : Slot T name id) (he : entryFor table id = some B) (ha : argsOk id ⟨self :: args, []⟩) (hi : holderIds.contains id = false)
    (hc : ∀ A', wpT (model prog w) A' (B ⟨self :: args, []⟩) (fun f s' => ∃ v, f = .done (.ret v) ∧ Q v s') E s) : wpT (model prog w) A (call (.builtin id) (self :: args)) Q E s := by
  refine wpT_call (codeT_of_tree rfl ?_)
  show wpT _ _ (do checkBuiltinCall id ⟨self :: args, []⟩; again (.builtin id ⟨self :: args, []⟩)) _ _ _
  refine wpT_bindA (h.check _ _ _ _ _ _ _ _ hT ha ?_)
  refine wpT_pure ⟨plainId_quiet h.plain _, codeT_builtin he hi ?_⟩
  refine wpT_mono (hc _) (fun f s' h' => ?_) (fun _ _ h' => h')
  obtain ⟨v, rfl, hq⟩ := h'
  exact hq
theorem ba_setItem {a c : Addr} {x y : Array UInt8} {t : Tok} {Q : Unit → Shared → Prop} (ha : s.heap.get? a = some { cls := .type "bytearray", data := .bytearray y })
    (hc : s.heap.get? c = some { cls := .type "slice", data := .fields #[.none, .none, .none] }) (hz : x.size ≤ sizeLine) (hs : x.size = y.size)
    (hQ : ∀ h' , h'.get? a = some { cls := .type "bytearray", data := .bytearray x } → (∀ b o, s.heap.get? b = some o → b ≠ a → h'.get? b = some o) → Q () { s with heap := h' }) :
    wpT (model prog w) A (setItem (.ref a) (.ref c) (.bytes x t)) Q E s := by
  unfold setItem
  refine wpT_holding (wpT_bindA (wpAny_sequenceKey (ba_typeIs ha) (by decide) ?_))
  refine wpT_bind (wpT_callSpecial_slot (ba_typeIs ha) ba_slot_setitem (wpT_call_slot (ba_typeIs ha) ba_slot_setitem ba_entry_setitem (ba_args_setitem _ _ _) (by decide +kernel) fun A' => ?_))
  refine ba_setslice ha hc hz hs fun h' e k => ⟨_, rfl, wpT_pure (hQ h' e k)⟩
end

noncomputable def LO : List Str := looseW hd.view_1 [Str.ofString "GateError", Str.ofString "push_rows", Str.ofString "pour"]

structure Lay (w : World) (mg mb : Str → Option Value) (h : Heap) : Prop where
  X : (hd.heap_1 w.params).In h
  T : TopRead hd.view_1 LO mg mb h

theorem Lay.keeps {w : World} {mg mb : Str → Option Value} {h h' : Heap} (Y : Lay w mg mb h) (k : ∀ b o, h.get? b = some o → h'.get? b = some o) : Lay w mg mb h' :=
  ⟨Y.X.keeps k, Y.T.keeps k⟩

structure Rm (A : Around) (n : Nat) : Prop where
  d : A.depth + n < recursionLimit
  u : A.units + 8 * n < cLine
  hh : A.handled = none

theorem Rm.mono {A : Around} {m n : Nat} (R : Rm A n) (h : m ≤ n) : Rm A m := by
  obtain ⟨d, u, hh⟩ := R; exact ⟨by omega, by omega, hh⟩
theorem Rm.deeper {A : Around} {n : Nat} (R : Rm A (n + 1)) (env : Env) : Rm (A.deeper env) n := by
  obtain ⟨d, u, hh⟩ := R
  refine ⟨?_, ?_, hh⟩
  · show A.depth + 1 + n < recursionLimit; omega
  · show A.units + 3 + 8 * n < cLine; omega
theorem Rm.in1 {A : Around} {n : Nat} (R : Rm A (n + 1)) : Rm A.in1 n := by
  obtain ⟨d, u, hh⟩ := R
  refine ⟨?_, ?_, hh⟩
  · show A.depth + n < recursionLimit; omega
  · show A.units + 1 + 8 * n < cLine; omega

/-- g is h with the addresses as hidden -/
structure Hid (h g : Heap) (as : List Addr) : Prop where
  sub : ∀ b o, g.get? b = some o → h.get? b = some o
  get : ∀ b o, h.get? b = some o → b ∉ as → g.get? b = some o
  none : ∀ b, b ∈ as → g.get? b = none
  size : g.objs.size = h.objs.size

theorem Hid.of (h : Heap) (as : List Addr) : Hid h (hideAll h as) as :=
  ⟨fun _ _ e => of_hideAll as e, fun _ _ e n => hideAll_get as e n, fun _ hb => hideAll_none as hb, hideAll_size as h⟩

section
variable {prog : Program} {w : World} {A : Around} {s : Shared} {mg mb : Str → Option Value} {hB : Heap}

theorem enter {R : Result → Shared → Prop} {name qual : Str} {params : Arguments} {body : List Stmt} {scope : Scope} {dV kV doc pm cdv ct oc : Value} {an od : Option Addr} {osl : Array (Option Value)} {f : Addr} {args : Args} {binds : List (Str × Value)} {n : Nat}
    (ws : List (Addr × Obj)) (hw : ∀ p ∈ ws, s.heap.get? p.1 = some p.2 ∧ hB.get? p.1 = none)
    (R0 : Rm A (n + 1)) (Y : Lay w mg mb hB) (k : ∀ b o, hB.get? b = some o → s.heap.get? b = some o)
    (ho : (hd.heap_1 w.params).lookup f = some ⟨oc, od, .func (fnOf name qual params body scope dV kV doc pm an cdv ct), osl⟩)
    (hcd : codeIn (hd.heap_1 w.params) cdv qual = true)
    (hbind : BindsTo s (fnOf name qual params body scope dV kV doc pm an cdv ct) args binds) (hloc : ∀ y ∈ binds, scope.names.lookup y.1 = some .local)
    (h : ∀ g L h₁, Lay w mg mb g → Hid s.heap g (ws.map (·.1)) → Fr g L h₁ (fun y => binds.reverse.lookup y) → News g L h₁ ws → Rm (A.deeper (envOf qual scope L f cdv)) n →
      wpAny (model prog w) (A.deeper (envOf qual scope L f cdv)) (execs body (envOf qual scope L f cdv))
        (fun fl s' => R (.ok (.ret (match fl with | .ret v => v | _ => .none))) s')
        (fun e s' => wpAny (model prog w) (A.deeper (envOf qual scope L f cdv)) (leaving (envOf qual scope L f cdv) e) (fun _ s'' => R (.error e) s'') (fun e' s'' => R (.error e') s'') s')
        { s with heap := h₁, toks := s.toks + binds.length })
    (hcell : ∀ x ∈ scope.names, x.2 ≠ .cell) (hco : scope.isCoroutine = false) (hgen : scope.isGenerator = false) (hk : scope.kind = .function) :
    codeAny (model prog w) A (.call (.ref f) args) R s := by
  have Xs := Y.X.keeps k
  refine codeAny_call_def (fd := fnOf name qual params body scope dV kV doc pm an cdv ct) (body := body) (binds := binds) (by have := R0.d; omega) (Xs _ _ ho) rfl (Y.T.nolimit.keeps k) (codeRec_of Xs hcd) rfl hbind hcell hloc (fun h₁ hns hk₁ => ?_) hco hgen hk
  have H := Hid.of s.heap (ws.map (·.1))
  have ng : ∀ b o, hB.get? b = some o → b ∉ ws.map (·.1) := fun b o e q => by
    obtain ⟨p, hp, rfl⟩ := List.mem_map.mp q
    rw [(hw p hp).2] at e; cases e
  exact h _ s.heap.objs.size h₁ (Y.keeps fun b o e => H.get b o (k b o e) (ng b o e)) H
    ⟨hns, fun b o e => hk₁ b o (H.sub b o e), Nat.le_of_eq H.size⟩
    (fun p hp => ⟨hk₁ _ _ (hw p hp).1, Nat.ne_of_lt (Heap.lt_size (hw p hp).1), H.none _ (List.mem_map_of_mem hp)⟩)
    (R0.deeper _)

/-- a call that writes nothing that stood -/
theorem enter0 {R : Result → Shared → Prop} {name qual : Str} {params : Arguments} {body : List Stmt} {scope : Scope} {dV kV doc pm cdv ct oc : Value} {an od : Option Addr} {osl : Array (Option Value)} {f : Addr} {args : Args} {binds : List (Str × Value)} {n : Nat}
    (R0 : Rm A (n + 1)) (Y : Lay w mg mb s.heap)
    (ho : (hd.heap_1 w.params).lookup f = some ⟨oc, od, .func (fnOf name qual params body scope dV kV doc pm an cdv ct), osl⟩)
    (hcd : codeIn (hd.heap_1 w.params) cdv qual = true)
    (hbind : BindsTo s (fnOf name qual params body scope dV kV doc pm an cdv ct) args binds) (hloc : ∀ y ∈ binds, scope.names.lookup y.1 = some .local)
    (h : ∀ L h₁, Fr s.heap L h₁ (fun y => binds.reverse.lookup y) → News s.heap L h₁ [] → Rm (A.deeper (envOf qual scope L f cdv)) n →
      wpAny (model prog w) (A.deeper (envOf qual scope L f cdv)) (execs body (envOf qual scope L f cdv))
        (fun fl s' => R (.ok (.ret (match fl with | .ret v => v | _ => .none))) s')
        (fun e s' => wpAny (model prog w) (A.deeper (envOf qual scope L f cdv)) (leaving (envOf qual scope L f cdv) e) (fun _ s'' => R (.error e) s'') (fun e' s'' => R (.error e') s'') s')
        { s with heap := h₁, toks := s.toks + binds.length })
    (hcell : ∀ x ∈ scope.names, x.2 ≠ .cell) (hco : scope.isCoroutine = false) (hgen : scope.isGenerator = false) (hk : scope.kind = .function) :
    codeAny (model prog w) A (.call (.ref f) args) R s := by
  refine codeAny_call_def (fd := fnOf name qual params body scope dV kV doc pm an cdv ct) (body := body) (binds := binds) (by have := R0.d; omega) (Y.X _ _ ho) rfl Y.T.nolimit (codeRec_of Y.X hcd) rfl hbind hcell hloc (fun h₁ hns hk₁ => ?_) hco hgen hk
  exact h s.heap.objs.size h₁ ⟨hns, hk₁, Nat.le_refl _⟩ (fun p hp => nomatch hp) (R0.deeper _)
end

/-- the fields of a queue, in their order -/
structure Qd where
  x : Addr
  dx : Addr
  vd : Addr
  kind : Str
  wd : Int
  most : Int
  hd : Int
  tl : Int
  sl : List (Int × Addr × Array UInt8)


noncomputable abbrev qes (P : Params) (q : Qd) (t : Nat → Tok) : List DictEntry :=
  [⟨PyData.keyHash P (Str.ofString "kind"), .str (Str.ofString "kind") (t 0), .str q.kind (t 1)⟩,
   ⟨PyData.keyHash P (Str.ofString "number"), .str (Str.ofString "number") (t 2), .int 3 (t 3)⟩,
   ⟨PyData.keyHash P (Str.ofString "key_width"), .str (Str.ofString "key_width") (t 4), .int 0 (t 5)⟩,
   ⟨PyData.keyHash P (Str.ofString "value_width"), .str (Str.ofString "value_width") (t 6), .int q.wd (t 7)⟩,
   ⟨PyData.keyHash P (Str.ofString "most"), .str (Str.ofString "most") (t 8), .int q.most (t 9)⟩,
   ⟨PyData.keyHash P (Str.ofString "values"), .str (Str.ofString "values") (t 10), .ref q.vd⟩,
   ⟨PyData.keyHash P (Str.ofString "head"), .str (Str.ofString "head") (t 11), .int q.hd (t 12)⟩,
   ⟨PyData.keyHash P (Str.ofString "tail"), .str (Str.ofString "tail") (t 13), .int q.tl (t 14)⟩]

noncomputable def kvsOf (sl : List (Int × Addr × Array UInt8)) : List (Int × Value) := sl.map fun e => (e.1, .ref e.2.1)

/-- the ledger qs lays out the queue q -/
inductive IsQ (prog : Program) (w : World) (q : Qd) : List (Addr × Obj) → Prop where
  | mk (t : Nat → Tok) (n : Nat) (ov : Obj) (hv : ov.IsDictOf (intKind prog w) (kvsOf q.sl)) (lo : (q.vd == sysModules) = false) :
    IsQ prog w q ((q.x, instObj 412 q.dx) :: (q.dx, dictOf (qes w.params q t) n) :: (q.vd, ov) :: q.sl.map fun e => (e.2.1, baObj e.2.2))

noncomputable def Qd.as (q : Qd) : List Addr := q.x :: q.dx :: q.vd :: q.sl.map (·.2.1)
theorem IsQ.addrs {prog : Program} {w : World} {q : Qd} {qs : List (Addr × Obj)} (H : IsQ prog w q qs) : qs.map (·.1) = q.as := by
  cases H
  simp [Qd.as, Function.comp_def]

noncomputable def QAt (prog : Program) (w : World) (h : Heap) (q : Qd) : Prop := ∃ qs, IsQ prog w q qs ∧ ∀ p ∈ qs, h.get? p.1 = some p.2
theorem QAt.keeps {prog : Program} {w : World} {h h' : Heap} {q : Qd} (H : QAt prog w h q) (k : ∀ b o, h.get? b = some o → h'.get? b = some o) : QAt prog w h' q := by
  obtain ⟨qs, a, b⟩ := H
  exact ⟨qs, a, fun p hp => k _ _ (b p hp)⟩
theorem QAt.inst {prog : Program} {w : World} {h : Heap} {q : Qd} (H : QAt prog w h q) : ∃ t n, InstAt h q.x (instObj 412 q.dx) 412 (some (dictOf (qes w.params q t) n)) := by
  obtain ⟨qs, a, b⟩ := H
  cases a with
  | mk t n ov hv lo => exact ⟨t, n, b _ (.head _), rfl, rfl, b _ (.tail _ (.head _))⟩

section
variable {b : Bool} {prog : Program} {w : World} {A : Around} {E : Value → Shared → Prop} {s : Shared} {env : Env}

/-- what a loop's code hands back -/
noncomputable def LoopR (Q : Flow → Shared → Prop) : Result → Shared → Prop
  | .ok f, s' => Q f s'
  | .error _, _ => False
/-- a turn's end: J again, or out of the loop -/
noncomputable def TurnEnd (J : Shared → Prop) (Q : Flow → Shared → Prop) : Flow → Shared → Prop
  | .next, s' => J s'
  | .cont, s' => J s'
  | .brk, s' => Q .next s'
  | .ret v, s' => Q (.ret v) s'

theorem wpX_runOwn {c : Code} {Q : Flow → Shared → Prop} (hc : codeX b (model prog w) A c (LoopR Q) s) : wpX b (model prog w) A (runOwn c env) Q E s := by
  unfold runOwn
  refine wpT_onRaise (wpT_run (h := none) ?_ nofun)
  refine codeT_mono (A := A) hc fun r s' h' => ?_
  cases r with
  | ok f => exact h'
  | error e => exact h'.elim

theorem codeX_while {test : PySem.Expr} {body : List Stmt} {Q : Flow → Shared → Prop} (I : Nat → Shared → Prop)
    (turn : ∀ n s, I n s → wpX b (model prog w) A (isTrue test env (eval test env)) (fun c s₂ => if c = true then wpX b (model prog w) A (execs body env) (TurnEnd (fun s' => ∃ m, m < n ∧ I m s') Q) (fun _ _ => False) s₂ else Q .next s₂) (fun _ _ => False) s)
    (n : Nat) (h : I n s) : codeX b (model prog w) A (.whileLoop test body [] env) (LoopR Q) s := by
  induction n using Nat.strongRecOn generalizing s with
  | ind n ih =>
    refine codeT_of_tree rfl ?_
    rw [Around.under_of_weight rfl]
    show wpX b _ A ((whileTurn test body [] env).onRaise _) _ _ s
    refine wpT_onRaise ?_
    unfold whileTurn
    refine wpT_bind (wpT_mono (turn n s h) (fun c s₂ h₂ => ?_) fun _ _ e => e.elim)
    cases c with
    | false =>
      simp only [Bool.false_eq_true, if_false] at h₂ ⊢
      exact wpT_bind (wpT_pure (wpT_pure h₂))
    | true =>
      simp only [if_true] at h₂ ⊢
      refine wpT_bind (wpT_mono h₂ (fun f s₃ h₃ => ?_) fun _ _ e => e.elim)
      cases f with
      | next => obtain ⟨m, hm, hI⟩ := h₃; exact wpT_pure ⟨rfl, ih m hm hI⟩
      | cont => obtain ⟨m, hm, hI⟩ := h₃; exact wpT_pure ⟨rfl, ih m hm hI⟩
      | brk => exact wpT_pure h₃
      | ret v => exact wpT_pure h₃
theorem my_While {test : PySem.Expr} {body : List Stmt} {pos : Pos} {Q : Flow → Shared → Prop} (I : Nat → Shared → Prop) (n : Nat) (h : I n s)
    (turn : ∀ n s, I n s → wpX b (model prog w) A (isTrue test env (eval test env)) (fun c s₂ => if c = true then wpX b (model prog w) A (execs body env) (TurnEnd (fun s' => ∃ m, m < n ∧ I m s') Q) (fun _ _ => False) s₂ else Q .next s₂) (fun _ _ => False) s) :
    wpX b (model prog w) A (exec (.While test body [] pos) env) Q E s := by
  rw [arm_exec_While]
  exact wpT_bind (wpX.of (wpAny_standAt (wpX_runOwn (codeX_while I turn n h))))

theorem codeX_for {I : Addr} {fp wr : List Addr} {n : Nat} {P : Nat → Value → Prop} {St : Nat → Heap → Prop} {x : Str} {px : Pos} {body : List Stmt} {Q : Flow → Shared → Prop} (W : Walks prog w A I fp wr n P St) (J : Nat → Shared → Prop)
    (hst : ∀ i s, J i s → St i s.heap)
    (turn : ∀ i v s₁ h' tk, i < n → J i s₁ → P i v → St (i + 1) h' → (∀ a o, a ∉ wr → s₁.heap.get? a = some o → h'.get? a = some o) →
      wpAny (model prog w) A (bindName env x v) (fun _ s₂ => wpX b (model prog w) A (execs body env) (TurnEnd (J (i + 1)) Q) (fun _ _ => False) s₂) (fun _ _ => False) { s₁ with heap := h', toks := tk })
    (done : ∀ s₁ h' tk, J n s₁ → (∀ a o, a ∉ wr → s₁.heap.get? a = some o → h'.get? a = some o) → Q .next { s₁ with heap := h', toks := tk }) :
    ∀ (k i : Nat) (s : Shared), n - i = k → i ≤ n → J i s → codeX b (model prog w) A (.forLoop (.Name x px) (.ref I) body [] env) (LoopR Q) s := by
  intro k
  induction k with
  | zero =>
    intro i s hk hi hJ
    obtain rfl : i = n := by omega
    refine codeT_of_tree rfl ?_
    rw [Around.under_of_weight rfl]
    show wpX b _ A ((forTurn (.Name x px) (.ref I) body [] env).onRaise _) _ _ s
    refine wpT_onRaise ?_
    unfold forTurn
    refine wpT_bind (wpX.of (wpAny_standAt ?_))
    refine wpT_bind (wpX.of (wpAny_onRaise (W.done s _ _ (hst _ _ hJ) fun h' tk hk => ?_)))
    refine wpT_pure ⟨rfl, codeT_of_tree rfl ?_⟩
    rw [Around.under_of_weight rfl]
    show wpX b _ A ((execs [] env).onRaise _ >>= _) _ _ _
    exact wpT_bind (wpT_onRaise (wpT_pure (wpT_pure (done s h' tk hJ hk))))
  | succ k ih =>
    intro i s hk hi hJ
    refine codeT_of_tree rfl ?_
    rw [Around.under_of_weight rfl]
    show wpX b _ A ((forTurn (.Name x px) (.ref I) body [] env).onRaise _) _ _ s
    refine wpT_onRaise ?_
    unfold forTurn
    refine wpT_bind (wpX.of (wpAny_standAt ?_))
    refine wpT_bind (wpX.of (wpAny_onRaise (W.item i s _ _ (by omega) (hst _ _ hJ) fun v h' tk hv hS hk => ?_)))
    show wpX b _ A (letOwnedTupleGo (.Name x px) (.ref I) v >>= _) _ _ _
    refine wpT_bind (wpT_pure ?_)
    show wpX b _ A ((standAt px >>= fun _ => bindName env x v) >>= _) _ _ _
    refine wpT_bind (wpT_bind (wpX.of (wpAny_standAt ?_)))
    refine wpX.of (wpAny_mono (turn i v s h' tk (by omega) hJ hv hS hk) (fun _ s₂ h₂ => ?_) fun _ _ e => e.elim)
    refine wpT_bind (wpT_mono h₂ (fun f s₃ h₃ => ?_) fun _ _ e => e.elim)
    cases f with
    | next => exact wpT_pure ⟨rfl, ih (i + 1) s₃ (by omega) (by omega) h₃⟩
    | cont => exact wpT_pure ⟨rfl, ih (i + 1) s₃ (by omega) (by omega) h₃⟩
    | brk => exact wpT_pure h₃
    | ret v => exact wpT_pure h₃

theorem my_For {x : Str} {px pos : Pos} {iter : PySem.Expr} {body : List Stmt} {Q : Flow → Shared → Prop}
    (h : wpX b (model prog w) A (eval iter env) (fun xv s₁ => wpAny (model prog w) A (pyIter xv) (fun it s₂ => codeX b (model prog w) A (.forLoop (.Name x px) it body [] env) (LoopR Q) s₂) E s₁) E s)
    (hf : ∀ v, foldedSetIterable iter env v = pure v := by intro _; rfl) :
    wpX b (model prog w) A (exec (.For (.Name x px) iter body [] pos) env) Q E s := by
  rw [arm_exec_For]
  refine wpT_bind (wpX.of (wpAny_standAt ?_))
  refine wpT_bind ?_
  refine wpT_mono h (fun xv s₁ h₁ => ?_) fun _ _ e => e
  rw [hf]
  refine wpT_bind (wpT_pure ?_)
  refine wpT_bind (wpX.of (wpAny_standAt ?_))
  exact wpT_bind (wpT_holding (wpX.of (wpAny_mono h₁ (fun it s₂ h₂ => wpX_runOwn h₂) fun _ _ e => e)))

-- statements
theorem wpX_execs_cons {st : Stmt} {rest : List Stmt} {Q : Flow → Shared → Prop}
    (h : wpX b (model prog w) A (exec st env) (fun f s₁ => match f with | .next => wpX b (model prog w) A (execs rest env) Q E s₁ | f => Q f s₁) E s) : wpX b (model prog w) A (execs (st :: rest) env) Q E s := by
  rw [arm_execs_cons]
  refine wpT_bind (wpT_mono h (fun f s₁ h₁ => ?_) fun _ _ e => e)
  cases f with
  | next => exact h₁
  | cont => exact wpT_pure h₁
  | brk => exact wpT_pure h₁
  | ret v => exact wpT_pure h₁
theorem wpX_execs_nil {Q : Flow → Shared → Prop} (h : Q .next s) : wpX b (model prog w) A (execs [] env) Q E s := wpT_pure h
theorem wpX_If {test : PySem.Expr} {body orelse : List Stmt} {pos : Pos} {Q : Flow → Shared → Prop}
    (h : wpX b (model prog w) A (isTrue test env (eval test env)) (fun c s₁ => if c = true then wpX b (model prog w) A (execs body env) Q E s₁ else wpX b (model prog w) A (execs orelse env) Q E s₁) E s) :
    wpX b (model prog w) A (exec (.If test body orelse pos) env) Q E s := by
  rw [arm_exec_If]
  refine wpT_bind (wpX.of (wpAny_standAt ?_))
  refine wpT_bind (wpT_mono h (fun c s₁ h₁ => ?_) fun _ _ e => e)
  cases c <;> simpa using h₁
theorem wpX_Return {e : PySem.Expr} {pos : Pos} {Q : Flow → Shared → Prop} (h : wpX b (model prog w) A (eval e env) (fun v s₁ => Q (.ret v) s₁) E s) : wpX b (model prog w) A (exec (.Return (some e) pos) env) Q E s := by
  rw [arm_exec_Return]
  refine wpT_bind (wpX.of (wpAny_standAt ?_))
  exact wpT_bind (wpT_mono h (fun v s₁ h₁ => wpT_pure h₁) fun _ _ e => e)
end

section
variable {b : Bool} {prog : Program} {w : World} {A : Around} {E : Value → Shared → Prop} {s : Shared} {env : Env} {R : Result → Shared → Prop}
theorem codeX_func {body : List Stmt} (h : wpX b (model prog w) (A.deeper env) (execs body env) (fun f s' => R (.ok (.ret (match f with | .ret v => v | _ => .none))) s') (fun _ _ => False) s) :
    codeX b (model prog w) A (.func body env) R s := by
  refine codeT_of_tree rfl ?_
  show wpX b _ (A.deeper env) (point >>= fun _ => ((execs body env).onRaise (leaving env)) >>= _) _ _ s
  refine wpT_bind (wpX.of (wpAny_point ?_))
  refine wpT_bind (wpT_onRaise (wpT_mono h (fun f s' h' => ?_) fun _ _ e => e.elim))
  cases f <;> exact wpT_pure h'
theorem codeX_call {a : Addr} {args : Args} {o : Obj} {fd : FuncData} {body : List Stmt} (hroom : A.depth < recursionLimit) (ho : s.heap.get? a = some o)
    (hd' : o.data = .func fd) (hco : fd.scope.isCoroutine = false) (hgen : fd.scope.isGenerator = false) (hbody : fd.body = .stmts body) (hcd : s.heap.CodeRec fd.code fd.qualname)
    (h : wpAny (model prog w) A.in1 (bindArgs fd args) (fun binds s₁ =>
      wpAny (model prog w) A.in1 (newFunctionEnv fd.scope fd.globals fd.closure binds (fd.qualname ++ ".<locals>.") (some a) fd.code none fd.builtins)
        (fun env s₂ => s₂.heap.NoLimit ∧ codeX b (model prog w) A (.func body env) R s₂) (fun _ _ => False) s₁) (fun _ _ => False) s) : codeX b (model prog w) A (.call (.ref a) args) R s := by
  refine codeT_of_tree rfl ?_
  show wpX b _ A.in1 (callAny (.ref a) args) _ _ s
  obtain ⟨c, oc, vs, tq, hc, hoc, hdc, hq⟩ := hcd
  simp only [callAny]
  refine wpT_bind (wpX.of (wpAny_load ho ?_))
  simp only [hd', callFunction, hco, hgen, hbody, hc]
  rw [hc] at h
  refine wpT_bind (wpX.of ?_)
  refine wpAny_field hoc hdc hq ?_
  refine wpT_bind (wpT_pure ?_)
  refine wpT_bind (wpX.of (wpAny_mono h (fun binds s₁ h₁ => ?_) fun _ _ e => e.elim))
  refine wpT_bind (wpX.of (wpAny_mono h₁ (fun env s₂ h₂ => ?_) fun _ _ e => e.elim))
  exact wpT_bind (wpX.of (wpAny_enterFrame h₂.1 hroom (wpT_pure ⟨rfl, h₂.2⟩)))
end

/-- a def's call, in either sense -/
theorem enterX {b : Bool} {prog : Program} {w : World} {A : Around} {s : Shared} {mg mb : Str → Option Value} {hB : Heap} {R : Result → Shared → Prop} {name qual : Str} {params : Arguments} {body : List Stmt} {scope : Scope} {dV kV doc pm cdv ct oc : Value} {an od : Option Addr} {osl : Array (Option Value)} {f : Addr} {args : Args} {binds : List (Str × Value)} {n : Nat}
    (ws : List (Addr × Obj)) (hw : ∀ p ∈ ws, s.heap.get? p.1 = some p.2 ∧ hB.get? p.1 = none)
    (R0 : Rm A (n + 1)) (Y : Lay w mg mb hB) (k : ∀ b o, hB.get? b = some o → s.heap.get? b = some o)
    (ho : (hd.heap_1 w.params).lookup f = some ⟨oc, od, .func (fnOf name qual params body scope dV kV doc pm an cdv ct), osl⟩)
    (hcd : codeIn (hd.heap_1 w.params) cdv qual = true)
    (hbind : BindsTo s (fnOf name qual params body scope dV kV doc pm an cdv ct) args binds) (hloc : ∀ y ∈ binds, scope.names.lookup y.1 = some .local)
    (h : ∀ L h₁, Lay w mg mb (hideAll s.heap (ws.map (·.1))) → Hid s.heap (hideAll s.heap (ws.map (·.1))) (ws.map (·.1)) → Fr (hideAll s.heap (ws.map (·.1))) L h₁ (fun y => binds.reverse.lookup y) → News (hideAll s.heap (ws.map (·.1))) L h₁ ws → Rm (A.deeper (envOf qual scope L f cdv)) n →
      wpX b (model prog w) (A.deeper (envOf qual scope L f cdv)) (execs body (envOf qual scope L f cdv))
        (fun fl s' => R (.ok (.ret (match fl with | .ret v => v | _ => .none))) s')
        (fun _ _ => False)
        { s with heap := h₁, toks := s.toks + binds.length })
    (hcell : ∀ x ∈ scope.names, x.2 ≠ .cell) (hco : scope.isCoroutine = false) (hgen : scope.isGenerator = false) (hk : scope.kind = .function) :
    codeX b (model prog w) A (.call (.ref f) args) R s := by
  have Xs := Y.X.keeps k
  refine codeX_call (fd := fnOf name qual params body scope dV kV doc pm an cdv ct) (body := body) (by have := R0.d; omega) (Xs _ _ ho) rfl hco hgen rfl (codeRec_of Xs hcd) (hbind _ _ _ _ ?_)
  refine wpAny_newFunctionEnv hcell hloc (fun h₁ hns hsb => ⟨(Y.T.nolimit.keeps k).fresh _ hsb, codeX_func ?_⟩) hk
  have hk₁ : ∀ b o, s.heap.get? b = some o → h₁.get? b = some o := fun b o e => hsb.extBut b o (Nat.ne_of_lt (Heap.lt_size e)) (Heap.get?_push_of_some _ e)
  have H := Hid.of s.heap (ws.map (·.1))
  have ng : ∀ b o, hB.get? b = some o → b ∉ ws.map (·.1) := fun b o e q => by
    obtain ⟨p, hp, rfl⟩ := List.mem_map.mp q
    rw [(hw p hp).2] at e; cases e
  exact h s.heap.objs.size h₁ (Y.keeps fun b o e => H.get b o (k b o e) (ng b o e)) H
    ⟨hns, fun b o e => hk₁ b o (H.sub b o e), Nat.le_of_eq H.size⟩
    (fun p hp => ⟨hk₁ _ _ (hw p hp).1, Nat.ne_of_lt (Heap.lt_size (hw p hp).1), H.none _ (List.mem_map_of_mem hp)⟩)
    (R0.deeper _)

/-- the same for a def whose block has cells -/
theorem enterXC {b : Bool} {prog : Program} {w : World} {A : Around} {s : Shared} {mg mb : Str → Option Value} {hB : Heap} {R : Result → Shared → Prop} {name qual : Str} {params : Arguments} {body : List Stmt} {scope : Scope} {dV kV doc pm cdv ct oc : Value} {an od : Option Addr} {osl : Array (Option Value)} {f : Addr} {args : Args} {binds : List (Str × Value)} {n : Nat}
    (ws : List (Addr × Obj)) (hw : ∀ p ∈ ws, s.heap.get? p.1 = some p.2 ∧ hB.get? p.1 = none)
    (R0 : Rm A (n + 1)) (Y : Lay w mg mb hB) (k : ∀ b o, hB.get? b = some o → s.heap.get? b = some o)
    (ho : (hd.heap_1 w.params).lookup f = some ⟨oc, od, .func (fnOf name qual params body scope dV kV doc pm an cdv ct), osl⟩)
    (hcd : codeIn (hd.heap_1 w.params) cdv qual = true)
    (hbind : BindsTo s (fnOf name qual params body scope dV kV doc pm an cdv ct) args binds)
    (hkind : (binds.all fun y => scope.names.lookup y.1 == some .local || scope.names.lookup y.1 == some .cell) = true)
    (hnd : ((cellsFrom 0 scope.names []).map (·.1)).Nodup)
    (h : ∀ L h₁ tk cells, Lay w mg mb (hideAll s.heap (ws.map (·.1))) → Hid s.heap (hideAll s.heap (ws.map (·.1))) (ws.map (·.1)) → Fr (hideAll s.heap (ws.map (·.1))) L h₁ (bindL (envOfC qual scope L f cdv).kindOf binds fun _ => none) → News (hideAll s.heap (ws.map (·.1))) L h₁ (cells ++ ws) →
      CellsAre (bindC (envOfC qual scope L f cdv).kindOf binds fun _ => none) (cellsFrom (L + 1) scope.names []) cells → (∀ p ∈ ws, p.1 < L) → Rm (A.deeper (envOfC qual scope L f cdv)) n →
      wpX b (model prog w) (A.deeper (envOfC qual scope L f cdv)) (execs body (envOfC qual scope L f cdv))
        (fun fl s' => R (.ok (.ret (match fl with | .ret v => v | _ => .none))) s')
        (fun _ _ => False)
        { s with heap := h₁, toks := tk })
    (hco : scope.isCoroutine = false) (hgen : scope.isGenerator = false) (hk : scope.kind = .function) :
    codeX b (model prog w) A (.call (.ref f) args) R s := by
  have Xs := Y.X.keeps k
  refine codeX_call (fd := fnOf name qual params body scope dV kV doc pm an cdv ct) (body := body) (by have := R0.d; omega) (Xs _ _ ho) rfl hco hgen rfl (codeRec_of Xs hcd) (hbind _ _ _ _ ?_)
  refine wpAny_newFunctionEnv_cells hk (kindsX hkind _) fun env' he s' x => ?_
  subst he
  refine ⟨(Y.T.nolimit.keeps k).keeps x.toInCall.keep, codeX_func ?_⟩
  obtain ⟨h₁, tk, rfl, _⟩ := x.done
  have hk₁ := x.toInCall.keep
  have H := Hid.of s.heap (ws.map (·.1))
  have ng : ∀ b o, hB.get? b = some o → b ∉ ws.map (·.1) := fun b o e q => by
    obtain ⟨p, hp, rfl⟩ := List.mem_map.mp q
    rw [(hw p hp).2] at e; cases e
  obtain ⟨cells, NC, Yc⟩ := Cl.news (h₀ := s.heap) (Nat.le_refl _) fun n c hm => ⟨x.cell n c (lookup_of_mem_nodup (cellsFrom_names scope.names 0 (s.heap.objs.size + 1) [] [] rfl ▸ hnd) hm), x.above n c hm⟩
  refine h s.heap.objs.size h₁ tk cells (Y.keeps fun b o e => H.get b o (k b o e) (ng b o e)) H ⟨x.toInCall.ns, fun b o e => hk₁ b o (H.sub b o e), Nat.le_of_eq H.size⟩ (fun p hp => ?_) Yc (fun p hp => Heap.lt_size (hw p hp).1) (R0.deeper _)
  rcases List.mem_append.mp hp with hp | hp
  · refine ⟨(NC p hp).1, (NC p hp).2.1, ?_⟩
    cases q : (hideAll s.heap (ws.map (·.1))).get? p.1 with
    | none => rfl
    | some o => have := H.sub _ _ q; rw [(NC p hp).2.2] at this; cases this
  · exact ⟨hk₁ _ _ (hw p hp).1, Nat.ne_of_lt (Heap.lt_size (hw p hp).1), H.none _ (List.mem_map_of_mem hp)⟩

/-- a call that writes nothing that stood and raises nothing -/
theorem enterA {prog : Program} {w : World} {A : Around} {s : Shared} {mg mb : Str → Option Value} {R : Result → Shared → Prop} {name qual : Str} {params : Arguments} {body : List Stmt} {scope : Scope} {dV kV doc pm cdv ct oc : Value} {an od : Option Addr} {osl : Array (Option Value)} {f : Addr} {args : Args} {binds : List (Str × Value)} {n : Nat}
    (R0 : Rm A (n + 1)) (Y : Lay w mg mb s.heap)
    (ho : (hd.heap_1 w.params).lookup f = some ⟨oc, od, .func (fnOf name qual params body scope dV kV doc pm an cdv ct), osl⟩)
    (hcd : codeIn (hd.heap_1 w.params) cdv qual = true)
    (hbind : BindsTo s (fnOf name qual params body scope dV kV doc pm an cdv ct) args binds) (hloc : ∀ y ∈ binds, scope.names.lookup y.1 = some .local)
    (h : ∀ L h₁, Fr s.heap L h₁ (fun y => binds.reverse.lookup y) → News s.heap L h₁ [] → Rm (A.deeper (envOf qual scope L f cdv)) n →
      wpAny (model prog w) (A.deeper (envOf qual scope L f cdv)) (execs body (envOf qual scope L f cdv))
        (fun fl s' => R (.ok (.ret (match fl with | .ret v => v | _ => .none))) s') (fun _ _ => False) { s with heap := h₁, toks := s.toks + binds.length })
    (hcell : ∀ x ∈ scope.names, x.2 ≠ .cell) (hco : scope.isCoroutine = false) (hgen : scope.isGenerator = false) (hk : scope.kind = .function) :
    codeAny (model prog w) A (.call (.ref f) args) R s :=
  enter0 R0 Y ho hcd hbind hloc (fun L h₁ F N R' => wpAny_mono (h L h₁ F N R') (fun _ _ q => q) fun _ _ e => e.elim) hcell hco hgen hk
theorem Fr.congr {h₀ h : Heap} {L : Addr} {m m' : Str → Option Value} (F : Fr h₀ L h m) (e : ∀ y, m y = m' y) : Fr h₀ L h m' := by
  have : m = m' := funext e
  subst this; exact F

/-- a def with cells that writes nothing that stood and raises nothing -/
theorem enterAC {prog : Program} {w : World} {A : Around} {s : Shared} {mg mb : Str → Option Value} {R : Result → Shared → Prop} {name qual : Str} {params : Arguments} {body : List Stmt} {scope : Scope} {dV kV doc pm cdv ct oc : Value} {an od : Option Addr} {osl : Array (Option Value)} {f : Addr} {args : Args} {binds : List (Str × Value)} {n : Nat}
    (R0 : Rm A (n + 1)) (Y : Lay w mg mb s.heap)
    (ho : (hd.heap_1 w.params).lookup f = some ⟨oc, od, .func (fnOf name qual params body scope dV kV doc pm an cdv ct), osl⟩)
    (hcd : codeIn (hd.heap_1 w.params) cdv qual = true)
    (hbind : BindsTo s (fnOf name qual params body scope dV kV doc pm an cdv ct) args binds)
    (hkind : (binds.all fun y => scope.names.lookup y.1 == some .local || scope.names.lookup y.1 == some .cell) = true)
    (hnd : ((cellsFrom 0 scope.names []).map (·.1)).Nodup)
    (h : ∀ L h₁ tk cells, Fr s.heap L h₁ (bindL (envOfC qual scope L f cdv).kindOf binds fun _ => none) → News s.heap L h₁ cells →
      CellsAre (bindC (envOfC qual scope L f cdv).kindOf binds fun _ => none) (cellsFrom (L + 1) scope.names []) cells → Rm (A.deeper (envOfC qual scope L f cdv)) n →
      wpAny (model prog w) (A.deeper (envOfC qual scope L f cdv)) (execs body (envOfC qual scope L f cdv))
        (fun fl s' => R (.ok (.ret (match fl with | .ret v => v | _ => .none))) s') (fun _ _ => False) { s with heap := h₁, toks := tk })
    (hco : scope.isCoroutine = false) (hgen : scope.isGenerator = false) (hk : scope.kind = .function) :
    codeAny (model prog w) A (.call (.ref f) args) R s :=
  (enterXC (b := false) [] (fun _ h => nomatch h) R0 Y (fun _ _ e => e) ho hcd hbind hkind hnd
    (fun L h₁ tk cells _ _ F N Yc _ R' => wpX.of (h L h₁ tk cells F (fun p hp => N p (List.mem_append_left _ hp)) Yc R')) hco hgen hk).any

-- names in a comprehension's block
noncomputable def CellAt (h : Heap) (c : Addr) (v : Value) : Prop := ∃ o, h.get? c = some o ∧ o.data = .cell (some v)
theorem CellAt.keeps {h h' : Heap} {c : Addr} {v : Value} (H : CellAt h c v) (k : ∀ b o, h.get? b = some o → h'.get? b = some o) : CellAt h' c v := let ⟨o, a, b⟩ := H; ⟨o, k _ _ a, b⟩
section
variable {M : Model} {A : Around} {E : Value → Shared → Prop} {s : Shared} {K : Frag} {h₀ : Heap} {L C : Addr} {m mg mb : Str → Option Value} {env : Env} {scope : Scope} {cl : List (Str × Addr)} {p : Program} {loose : List Str} {x : Str} {pos : Pos} {v : Value} {Q : Value → Shared → Prop} {c : Addr}
theorem nameC_L (F : Fr h₀ C s.heap m) (hv : m x = some v) (h : Q v s) (hk : (compEnvC scope cl C env).scope.kind = .function) (hx : (compEnvC scope cl C env).kindOf x = some .local)
    (hd : (x == ("__debug__" : Str)) = false) : wpAny M A (eval (.Name x pos) (compEnvC scope cl C env)) Q E s := wpAny_Name (wpAny_loadName_local hk hx F.ns hv h) hd
theorem nameC_C (hc : cl.lookup x = some c) (H : CellAt s.heap c v) (h : Q v s) (hk : (compEnvC scope cl C env).scope.kind = .function) (hx : (compEnvC scope cl C env).kindOf x = some .cell)
    (hd : (x == ("__debug__" : Str)) = false) : wpAny M A (eval (.Name x pos) (compEnvC scope cl C env)) Q E s := wpAny_Name (wpAny_loadName_cell hk hx hc H h) hd
theorem nameC_K (F : Fr h₀ L s.heap m) (X : K.In h₀) (T : TopRead p loose mg mb h₀) (e : nsIn K mainGlobals x = some (some v)) (h : Q v s) (hg : (compEnvC scope cl C env).globals = mainGlobals)
    (hk : (compEnvC scope cl C env).scope.kind = .function) (hx : (compEnvC scope cl C env).kindOf x = some .globalImplicit) (hd : (x == ("__debug__" : Str)) = false) :
    wpAny M A (eval (.Name x pos) (compEnvC scope cl C env)) Q E s := nameG_K F X T e h hg hk hx hd
theorem nameC_B (F : Fr h₀ L s.heap m) (X : K.In h₀) (T : TopRead p loose mg mb h₀) (e : nsIn K mainGlobals x = some none) (hv : bootBuiltins x = some v) (hn : x ≠ "__name__") (h : Q v s) (hg : (compEnvC scope cl C env).globals = mainGlobals)
    (hb : (compEnvC scope cl C env).builtins = builtinsNs)
    (hk : (compEnvC scope cl C env).scope.kind = .function) (hx : (compEnvC scope cl C env).kindOf x = some .globalImplicit) (hd : (x == ("__debug__" : Str)) = false) :
    wpAny M A (eval (.Name x pos) (compEnvC scope cl C env)) Q E s :=
  Name_function_global hk hx (loadGlobal_builtin (env := compEnvC scope cl C env) (by rw [hg]; exact T.g.keeps F.keep) (mg_none_of X T.g e) (by rw [hb]; exact T.b.keeps F.keep) ((T.builtins x hn).trans hv) h) hd
end
section
variable {b : Bool} {prog : Program} {w : World} {A : Around} {E : Value → Shared → Prop} {s : Shared} {env : Env}

/-- the loop of a list comprehension without tests: J tells what holds ahead of each item; the rule itself keeps the list and the comprehension's names -/
theorem codeX_comp {I C D : Addr} {fp wr : List Addr} {n : Nat} {P : Nat → Value → Prop} {St : Nat → Heap → Prop} {x : Str} {px : Pos} {elt iter : PySem.Expr} {scope : Scope} {pos : Pos} {cenv : Env} {R : Result → Shared → Prop}
    (Wk : Walks prog w A I fp wr n P St) (J : Nat → List Value → Shared → Prop) (hC : cenv.locals = C)
    (hx : cenv.kindOf x = some .local) (hp : (cenv.scope.kind == .class || (cenv.scope.kind == .module && cenv.locals != cenv.globals)) = false)
    (hDC : D ≠ C) (hDw : D ∉ wr) (hCw : C ∉ wr) (hsz : n ≤ sizeLine)
    (hCf : C ∉ fp) (hst : ∀ i ys s, J i ys s → St i s.heap)
    (stable : ∀ i ys s h' tk, J i ys s → (∀ a o, a ≠ C → a ≠ D → s.heap.get? a = some o → h'.get? a = some o) → J i ys { s with heap := h', toks := tk })
    (turn : ∀ i ys v s₁ h' tk (m : Str → Option Value), i < n → J i ys s₁ → P i v → St (i + 1) h' → (∀ a o, a ∉ wr → a ≠ C → s₁.heap.get? a = some o → h'.get? a = some o) → h'.Ns C (fun y => if y = x then some v else m y) → (∃ c, h'.get? D = some (W.listOf (List.toArray ys) c)) →
      wpX b (model prog w) A (eval elt cenv) (fun y s' => J (i + 1) (ys ++ [y]) s' ∧ s'.heap.get? D = h'.get? D ∧ ∃ m', s'.heap.Ns C m') (fun _ _ => False) { s₁ with heap := h', toks := tk })
    (done : ∀ ys c s₁ h' tk m, J n ys s₁ → ys.length = n → (∀ a o, a ∉ wr → s₁.heap.get? a = some o → h'.get? a = some o) → h'.get? D = some (W.listOf (List.toArray ys) c) → h'.Ns C m → R (.ok .next) { s₁ with heap := h', toks := tk }) :
    ∀ (k i : Nat) (s : Shared) (ys : List Value) (c : Nat) (m : Str → Option Value), n - i = k → i ≤ n → ys.length = i → J i ys s → s.heap.get? D = some (W.listOf (List.toArray ys) c) → s.heap.Ns C m →
      codeX b (model prog w) A (.compLoop (.ListComp elt [⟨.Name x px, iter, [], 0⟩] scope pos) 0 (.ref I) (.ref D) cenv) R s := by
  intro k
  induction k with
  | zero =>
    intro i s ys c m hk hi hl hJ hD hN
    obtain rfl : i = n := by omega
    refine codeT_of_tree rfl ?_
    rw [Around.under_of_weight rfl]
    show wpX b _ A ((compTurn _ 0 (.ref I) (.ref D) cenv).onRaise _) _ _ s
    refine wpT_onRaise ?_
    unfold compTurn
    dsimp only [List.getElem?_cons_zero]
    refine wpT_bind (wpX.of (wpAny_standAt ?_))
    refine wpT_bind (wpX.of (Wk.done s _ _ (hst _ _ _ hJ) fun h' tk hk' => ?_))
    exact wpT_pure (done ys c s h' tk m hJ hl hk' (hk' _ _ hDw hD) (hN.at' fun o e => hk' _ _ hCw e))
  | succ k ih =>
    intro i s ys c m hk hi hl hJ hD hN
    refine codeT_of_tree rfl ?_
    rw [Around.under_of_weight rfl]
    show wpX b _ A ((compTurn _ 0 (.ref I) (.ref D) cenv).onRaise _) _ _ s
    refine wpT_onRaise ?_
    unfold compTurn
    dsimp only [List.getElem?_cons_zero]
    refine wpT_bind (wpX.of (wpAny_standAt ?_))
    refine wpT_bind (wpX.of (Wk.item i s _ _ (by omega) (hst _ _ _ hJ) fun v h₁ tk₁ hv hS hk₁ => ?_))
    dsimp only
    show wpX b _ A (letOwnedTupleGo (.Name x px) (.ref I) v >>= _) _ _ _
    refine wpT_bind (wpT_pure ?_)
    show wpX b _ A ((assign (.Name x px) cenv v) >>= _) _ _ _
    refine wpT_bind (wpX.of (wpAny_assign_Name (wpAny_storeName_local hx (hC ▸ hN.at' fun o e => hk₁ _ _ hCw e) (fun h₂ hn₂ hs₂ => ?_) hp)))
    rw [hC] at hn₂ hs₂
    have k₂ : ∀ a o, a ∉ wr → a ≠ C → s.heap.get? a = some o → h₂.get? a = some o := fun a o h1 h2 e => hs₂.extBut a o h2 (hk₁ a o h1 e)
    have hD₂ := k₂ _ _ hDw hDC hD
    show wpX b _ A ((pure true : Sem Bool) >>= _) _ _ _
    refine wpT_bind (wpT_pure ?_)
    refine wpT_true rfl ?_
    show wpX b _ A ((eval elt cenv >>= fun y => call (.builtin "list.append") [.ref D, y] >>= fun _ => pure ()) >>= fun _ => again (.compLoop _ 0 (.ref I) (.ref D) cenv)) _ _ _
    refine wpT_bind (wpT_bind ?_)
    refine wpT_mono (turn i ys v s h₂ _ m (by omega) hJ hv (Wk.frame _ _ _ hS fun a ha o e => hs₂.extBut a o (fun e' => ?_) e) k₂ hn₂ ⟨c, hD₂⟩) (fun y s₃ h₃ => ?_) fun _ _ e => e.elim
    · exact hCf (e' ▸ ha)
    obtain ⟨hJ₃, hD₃, m₃, hN₃⟩ := h₃
    rw [hD₂] at hD₃
    refine wpT_bind (wpX.of (append_at (hsz := by rw [List.size_toArray]; omega) hD₃ fun h₄ hs₄ hD₄ => ?_))
    refine wpT_pure ?_
    refine wpT_pure ⟨rfl, ih (i + 1) { s₃ with heap := h₄ } (ys ++ [y]) (c + 1) m₃ (by omega) (by omega) (by simp [hl]) (stable _ _ s₃ h₄ s₃.toks hJ₃ fun a o _ ha e => hs₄.extBut a o ha e) ?_ (hN₃.sameBut hs₄ (Ne.symm hDC))⟩
    rw [← List.push_toArray]; exact hD₄

theorem ltSz {h : Heap} {a : Nat} {o : Obj} (e : h.get? a = some o) : @LT.lt Nat _ a h.objs.size := Heap.lt_size e
/-- what a comprehension over a walk wants: as is what its elements may write, G what holds of the items so far -/
noncomputable def CompOb (b : Bool) (prog : Program) (w : World) (A : Around) (env : Env) (scope : Scope) (cl : List (Str × Addr)) (x : Str) (elt : PySem.Expr) (Q : Value → Shared → Prop) (s₁ : Shared) (it : Value) (s₂ : Shared) : Prop :=
  (Ex7 fun (I : Addr) (fp : List Addr) (wr : List Addr) (n : Nat) (P : Nat → Value → Prop) (St : Nat → Heap → Prop) (as : List Addr) => All10 (it = .ref I) (Walks prog w A I fp wr n P St) ((∀ a ∈ fp, a < s₂.heap.objs.size)) (St 0 s₂.heap) (n ≤ sizeLine) ((∀ a ∈ wr, s₁.heap.get? a = none)) ((∀ a ∈ as, (s₁.heap.get? a).isSome = true ∧ a ∉ fp)) ((∀ a o, s₁.heap.get? a = some o → s₂.heap.get? a = some o)) (s₁.heap.objs.size ≤ s₂.heap.objs.size) (∀ (D C : Addr) (h₃ : Heap), s₂.heap.objs.size ≤ D → s₂.heap.objs.size ≤ C → D ≠ C → (∀ a o, s₂.heap.get? a = some o → h₃.get? a = some o) →
      ∃ G : Nat → List Value → Heap → Prop, G 0 [] h₃ ∧ (∀ i ys h h', G i ys h → (∀ a o, a ≠ C → a ≠ D → a ∉ wr → h.get? a = some o → h'.get? a = some o) → G i ys h') ∧ (∀ i ys v g h tk (m : Str → Option Value), i < n → ys.length = i → P i v → Hid s₁.heap g as → Fr g C h (fun y => if y = x then some v else m y) → (∀ a o, s₁.heap.get? a = some o → a ∉ as → h.get? a = some o) → G i ys h →
          wpX b (model prog w) A (eval elt (compEnvC scope cl C env)) (fun y s' => ∃ h' tk', s' = { s₂ with heap := h', toks := tk' } ∧ (∀ a o, h.get? a = some o → a ∉ as → h'.get? a = some o) ∧ G (i + 1) (ys ++ [y]) h') (fun _ _ => False) { s₂ with heap := h, toks := tk }) ∧ (∀ ys c h tk, ys.length = n → G n ys h → (∀ a o, s₁.heap.get? a = some o → a ∉ as → h.get? a = some o) → h.get? D = some (PySem.W.listOf (List.toArray ys) c) → Q (.ref D) { s₂ with heap := h, toks := tk })))

theorem wpT_attempt {α : Type} {M : Model} {m : Sem α} {Q : Except Value α → Shared → Prop} (h : wpX b M A m (fun a => Q (.ok a)) (fun e => Q (.error e)) s) : wpX b M A m.attempt Q E s :=
  fun Γ p hΓ hT => by rw [Sem.wp_attempt]; exact h Γ p hΓ hT

theorem my_ListComp {x : Str} {px : Pos} {elt iter : PySem.Expr} {scope : Scope} {pos : Pos} {cl : List (Str × Addr)} {Q : Value → Shared → Prop}
    (hs : ∀ v, foldedSetIterable iter env v = pure v) (hclos : closureFor scope env = pure cl) (hkind : scope.kind = .function) (hcell : ∀ y ∈ scope.names, y.2 ≠ .cell)
    (hnames : ∀ y ∈ scope.names, y.2 = .local → scope.names.lookup y.1 = some .local) (hx : scope.names.lookup x = some .local)
    (h : wpAny (model prog w) A (eval iter env) (fun xv s₁ => wpAny (model prog w) A (pyIter xv) (CompOb b prog w A env scope cl x elt Q s₁) E s₁) E s) :
    wpX b (model prog w) A (eval (.ListComp elt [⟨.Name x px, iter, [], 0⟩] scope pos) env) Q E s := by
  rw [arm_eval_ListComp]
  show wpX b _ _ (comprehension _ scope env _ (newList []) false (eval iter env)) _ _ _
  unfold comprehension
  rw [hclos]
  refine wpT_bind (wpX.of (wpAny_mono h (fun xv s₁ h₁ => ?_) fun _ _ e => e))
  refine wpT_bind (wpX.of (wpAny_standAt ?_))
  refine wpT_bind ?_
  show wpX b _ _ (foldedSetIterable iter env xv) _ _ _
  rw [hs]
  refine wpT_pure ?_
  refine wpT_bind (wpT_holding (wpX.of (wpAny_mono h₁ (fun it s₂ h₂ => ?_) fun _ _ e => e)))
  obtain ⟨I, fp, wr, n, P, St, as, rfl, Wk, hfp, hS0, hsz, hwr, has, k12, z12, h₂⟩ := h₂
  refine wpT_false rfl ?_
  refine wpT_bind (wpX.of (wpAny_newObj_type ?_ (Nat.zero_le _)))
  refine wpT_bind (wpT_pure ?_)
  refine wpT_bind (wpX.of (wpAny_newFunctionEnv hcell (fun _ hx => nomatch hx) (fun h₃ hns hsb => ?_) hkind))
  have hv : ∀ y ∈ (scope.names.filter fun y => (y.2 == .local || y.2 == .cell) && y.1 != (".0" : Str)).reverse, y.2 = .local →
      Env.kindOf (compEnvC scope cl (s₂.heap.push { cls := .type "list", data := .seq #[] }).objs.size env) y.1 = some .local := fun y hy hl => lookup_relabel_local (hnames y (List.mem_filter.mp (List.mem_reverse.mp hy)).1 hl)
  have eC : (s₂.heap.push { cls := .type "list", data := .seq #[] }).objs.size = s₂.heap.objs.size + 1 := Heap.size_push _ _
  have k23 : ∀ a o, s₂.heap.get? a = some o → h₃.get? a = some o := fun a o e => hsb.extBut a o (by rw [eC]; exact Nat.ne_of_lt (Nat.lt_succ_of_lt (Heap.lt_size e))) (Heap.get?_push_of_some _ (Heap.get?_push_of_some _ e))
  have hD3 : h₃.get? s₂.heap.objs.size = some (PySem.W.listOf (List.toArray []) 0) := hsb.extBut _ _ (by rw [eC]; exact Nat.ne_of_lt (Nat.lt_succ_self _)) (Heap.get?_push_of_some _ (Heap.get?_push_size _ rfl))
  obtain ⟨G, hG0, hGs, turn, done⟩ := h₂ s₂.heap.objs.size (s₂.heap.push { cls := .type "list", data := .seq #[] }).objs.size h₃ (Nat.le_refl _) (by rw [eC]; exact Nat.le_succ _) (by rw [eC]; exact Nat.ne_of_lt (Nat.lt_succ_self _)) k23
  generalize eCC : (s₂.heap.push { cls := .type "list", data := .seq #[] }).objs.size = C at *
  generalize eDD : s₂.heap.objs.size = D at *
  have hDC : D ≠ C := by omega
  have asD : D ∉ as := fun h => by
    obtain ⟨o, ho⟩ := Option.isSome_iff_exists.mp (has _ h).1
    have := ltSz (k12 _ _ ho); omega
  have asC : C ∉ as := fun h => by
    obtain ⟨o, ho⟩ := Option.isSome_iff_exists.mp (has _ h).1
    have := ltSz (k12 _ _ ho); omega
  have fpD : D ∉ fp := fun h => by have : @LT.lt Nat _ D D := hfp _ h; omega
  have fpC : C ∉ fp := fun h => by have : @LT.lt Nat _ C D := hfp _ h; omega
  have ltOf : ∀ (a : Nat) o, s₁.heap.get? a = some o → @LT.lt Nat _ a D := fun a o e => by have := ltSz (k12 _ _ e); omega
  dsimp only
  refine wpT_holding (wpT_bind (wpT_attempt (wpT_holding (wpT_run (h := none) ?_ nofun))))
  refine codeT_mono (A := A) (R := fun r s' => (Ex5 fun ys c h₄ tk₄ m₄ => All7 (r = .ok .next) (s' = { s₂ with heap := h₄, toks := tk₄ }) (ys.length = n) (G n ys h₄) ((∀ a o, s₁.heap.get? a = some o → a ∉ as → h₄.get? a = some o)) (h₄.get? D = some (PySem.W.listOf (List.toArray ys) c)) (h₄.Ns C m₄))) ?_ fun r s' hr => ?_
  · refine codeT_of_tree rfl ?_
    rw [Around.under_of_weight rfl]
    show wpX b _ A ((compStart _ 0 (.ref I) (.ref D) _).onRaise _) _ _ _
    refine wpT_onRaise ?_
    unfold compStart
    refine wpT_false rfl ?_
    refine wpT_bind (wpX.of (wpAny_askSetting ?_))
    have loop : ∀ tk, codeX b (model prog w) A (.compLoop (.ListComp elt [⟨.Name x px, iter, [], 0⟩] scope pos) 0 (.ref I) (.ref D) (compEnvC scope cl C env)) (fun r s' => (Ex5 fun ys c h₄ tk₄ m₄ => All7 (r = .ok .next) (s' = { s₂ with heap := h₄, toks := tk₄ }) (ys.length = n) (G n ys h₄) ((∀ a o, s₁.heap.get? a = some o → a ∉ as → h₄.get? a = some o)) (h₄.get? D = some (PySem.W.listOf (List.toArray ys) c)) (h₄.Ns C m₄))) { s₂ with heap := h₃, toks := tk } := by
      intro tk
      refine codeX_comp (C := C) (D := D) Wk (fun i ys s => (Ex2 fun h tk => All5 (s = { s₂ with heap := h, toks := tk }) (St i h) ((∀ a o, s₁.heap.get? a = some o → a ∉ as → h.get? a = some o)) (G i ys h) (ys.length = i))) rfl
        (by show (relabel scope env).names.lookup x = some .local; exact lookup_relabel_local hx) (by show (scope.kind == .class || (scope.kind == .module && _)) = false; rw [hkind]; rfl) hDC (fun h => fpD (Wk.sub _ h)) (fun h => fpC (Wk.sub _ h)) hsz fpC ?_ ?_ ?_ ?_ n 0 _ [] 0 _ rfl (Nat.zero_le _) rfl ⟨h₃, tk, rfl, ?_, fun a o e _ => k23 _ _ (k12 _ _ e), hG0, rfl⟩ hD3 hns
      · rintro i ys s ⟨h, tk, rfl, hS, _⟩; exact hS
      · rintro i ys s h' tk' ⟨h, tk, rfl, hS, hk, hG, hl⟩ hk'
        refine ⟨h', tk', rfl, Wk.frame _ _ _ hS fun a ha o e => hk' a o (fun e' => fpC (e' ▸ ha)) (fun e' => fpD (e' ▸ ha)) e, fun a o e na => hk' a o (Nat.ne_of_lt (Nat.lt_trans (ltOf _ _ e) (by omega))) (Nat.ne_of_lt (ltOf _ _ e)) (hk a o e na), hGs _ _ _ _ hG fun a o h1 h2 _ e => hk' a o h1 h2 e, hl⟩
      · rintro i ys v s' h' tk' m hi ⟨h, tk, rfl, hS, hk, hG, hl⟩ hP hS' hk' hN ⟨c, hDc⟩
        have hkk : ∀ a o, s₁.heap.get? a = some o → a ∉ as → h'.get? a = some o := fun a o e na => hk' a o (fun e' => by rw [hwr _ e'] at e; cases e) (Nat.ne_of_lt (Nat.lt_trans (ltOf _ _ e) (by omega))) (hk a o e na)
        have Hg := Hid.of s₁.heap as
        refine wpT_mono (turn i ys v _ h' tk' m hi hl hP Hg ⟨hN, fun a o e => hkk a o (Hg.sub _ _ e) (fun q => by rw [Hg.none _ q] at e; cases e), by rw [Hg.size]; omega⟩ hkk (hGs _ _ _ _ hG fun a o h1 h2 h3 e => hk' a o h3 h1 e)) (fun y s'' hy => ?_) fun _ _ e => e
        obtain ⟨h'', tk'', rfl, hk'', hG''⟩ := hy
        refine ⟨⟨h'', tk'', rfl, Wk.frame _ _ _ hS' fun a ha o e => hk'' a o e (fun q => (has _ q).2 ha), fun a o e na => hk'' a o (hkk a o e na) na, hG'', by simp [hl]⟩, ?_, ⟨_, hN.at' fun o e => hk'' _ _ e asC⟩⟩
        rw [hDc]; exact hk'' _ _ hDc asD
      · rintro ys c s' h' tk' m ⟨h, tk, rfl, hS, hk, hG, _⟩ hl hk' hD' hN'
        refine ⟨ys, c, h', tk', m, rfl, rfl, hl, hGs _ _ _ _ hG fun a o _ _ h3 e => hk' a o h3 e, fun a o e na => hk' a o (fun e' => by rw [hwr _ e'] at e; cases e) (hk a o e na), hD', hN'⟩
      · exact Wk.frame _ _ _ hS0 fun a _ o e => k23 a o e
    refine wpT_ite ?_
    split
    · exact wpT_bind (wpT_pure (wpT_pure ⟨rfl, loop _⟩))
    · refine wpT_bind (wpX.of (wpAny_rule ?_))
      show wpX b _ A (standAt _ >>= fun _ => pyIter (.ref I) >>= _) _ _ _
      refine wpT_bind (wpX.of (wpAny_standAt ?_))
      refine wpT_bind (wpX.of (Wk.self 0 _ _ _ (Wk.frame _ _ _ hS0 fun a _ o e => k23 a o e) ?_))
      exact wpT_pure ⟨rfl, loop _⟩
  · obtain ⟨ys, c, h₄, tk₄, m₄, rfl, rfl, hl, hG, hk, hD, hN⟩ := hr
    refine wpT_bind (wpT_holding (wpX.of (wpAny_comp_letGo (cenv := compEnvC scope cl _ env) hkind _ _ m₄ hv hN fun h₅ m₅ _ hs₅ => ?_)))
    refine wpT_pure (done ys c h₅ tk₄ hl ?_ ?_ ?_)
    · exact hGs _ _ _ _ hG fun a o h1 _ _ e => hs₅.extBut a o h1 e
    · exact fun a o e na => hs₅.extBut a o (show a ≠ C from Nat.ne_of_lt (Nat.lt_trans (ltOf _ _ e) (by omega))) (hk a o e na)
    · exact hs₅.extBut _ _ hDC hD

/-- a comprehension over a list -/
theorem compOb_list {x : Str} {elt : PySem.Expr} {scope : Scope} {cl : List (Str × Addr)} {Q : Value → Shared → Prop} {l : Addr} {vs : List Value} {c : Nat} (hh : A.handled = none) (hl : s.heap.get? l = some (PySem.W.listOf (List.toArray vs) c)) (hz : vs.length ≤ sizeLine)
    (as : List Addr) (has : ∀ a ∈ as, (s.heap.get? a).isSome = true ∧ a ≠ l)
    (h : ∀ (I D C : Addr) (h₃ : Heap), s.heap.get? I = none → s.heap.get? D = none → s.heap.get? C = none → (∀ a o, s.heap.get? a = some o → h₃.get? a = some o) →
      ∃ G : Nat → List Value → Heap → Prop, G 0 [] h₃ ∧ (∀ i ys h h', G i ys h → (∀ a o, a ≠ C → a ≠ D → a ≠ I → h.get? a = some o → h'.get? a = some o) → G i ys h') ∧
        (∀ i ys v g h tk (m : Str → Option Value), vs[i]? = some v → ys.length = i → Hid s.heap g as → Fr g C h (fun y => if y = x then some v else m y) → (∀ a o, s.heap.get? a = some o → a ∉ as → h.get? a = some o) → G i ys h →
          wpX b (model prog w) A (eval elt (compEnvC scope cl C env)) (fun y s' => ∃ h' tk', s' = { s with heap := h', toks := tk' } ∧ (∀ a o, h.get? a = some o → a ∉ as → h'.get? a = some o) ∧ G (i + 1) (ys ++ [y]) h') (fun _ _ => False) { s with heap := h, toks := tk }) ∧
        (∀ ys c h tk, ys.length = vs.length → G vs.length ys h → (∀ a o, s.heap.get? a = some o → a ∉ as → h.get? a = some o) → h.get? D = some (PySem.W.listOf (List.toArray ys) c) → Q (.ref D) { s with heap := h, toks := tk })) :
    wpAny (model prog w) A (pyIter (.ref l)) (CompOb b prog w A env scope cl x elt Q s) E s := by
  have hL : s.heap.IsList l vs.toArray := ⟨_, hl, rfl, _, rfl⟩
  have hlt := Heap.lt_size hl
  have fresh : ∀ a, s.heap.objs.size ≤ a → s.heap.get? a = none := fun a ha => by
    cases e : s.heap.get? a with
    | none => rfl
    | some o => exact absurd (Heap.lt_size e) (Nat.not_lt.mpr ha)
  refine wpAny_pyIter_list hL ?_
  have sz : (s.heap.push { cls := .type "list_iterator", data := .fields #[.ref l, .int 0 0] }).objs.size = s.heap.objs.size + 1 := Heap.size_push _ _
  refine ⟨s.heap.objs.size, _, _, _, _, _, as, rfl, Walks.list (prog := prog) (w := w) hh s.heap.objs.size l (Nat.ne_of_lt hlt) vs.toArray, ?_, ⟨⟨_, Heap.get?_push_size _ rfl, rfl, rfl⟩, hL.push _⟩, by rw [List.size_toArray]; exact hz, ?_, ?_, fun a o e => Heap.get?_push_of_some _ e, by show _ ≤ (s.heap.push _).objs.size; rw [sz]; exact Nat.le_succ _, ?_⟩
  · intro a ha
    show a < (s.heap.push _).objs.size
    rw [sz]
    rcases List.mem_cons.mp ha with rfl | ha
    · exact Nat.lt_succ_self _
    · rw [List.mem_singleton.mp ha]; exact Nat.lt_succ_of_lt hlt
  · intro a ha
    rw [List.mem_singleton.mp ha]; exact fresh _ (Nat.le_refl _)
  · intro a ha
    obtain ⟨h1, h2⟩ := has a ha
    refine ⟨h1, fun hm => ?_⟩
    rcases List.mem_cons.mp hm with rfl | hm
    · rw [fresh _ (Nat.le_refl _)] at h1; cases h1
    · exact h2 (List.mem_singleton.mp hm)
  · intro D C h₃ hD hC hDC k
    have hD' : s.heap.objs.size ≤ D := Nat.le_trans (by show _ ≤ (s.heap.push _).objs.size; rw [sz]; exact Nat.le_succ _) hD
    have hC' : s.heap.objs.size ≤ C := Nat.le_trans (by show _ ≤ (s.heap.push _).objs.size; rw [sz]; exact Nat.le_succ _) hC
    obtain ⟨G, g0, gs, turn, done⟩ := h s.heap.objs.size D C h₃ (fresh _ (Nat.le_refl _)) (fresh _ hD') (fresh _ hC') fun a o e => k a o (Heap.get?_push_of_some _ e)
    refine ⟨G, g0, fun i ys h h' hg hk => gs i ys h h' hg fun a o h1 h2 h3 e => hk a o h1 h2 (fun hm => h3 (List.mem_singleton.mp hm)) e, fun i ys v g h tk m hi hy hP Hg F hk hG => turn i ys v g h tk m (by simpa using hP) hy Hg F hk hG, fun ys c h tk hy hG hk hD => done ys c h tk (by simpa using hy) (by simpa using hG) hk hD⟩
end
section
open PySem.SeqAt
/-- a list's values are these bytes -/
inductive BytesAre : List Value → List (Array UInt8) → Prop
  | nil : BytesAre [] []
  | cons (b : Array UInt8) (t : Tok) {vs bs} : BytesAre vs bs → BytesAre (.bytes b t :: vs) (b :: bs)
theorem BytesAre.append : ∀ {vs ws : List Value} {bs ds : List (Array UInt8)}, BytesAre vs bs → BytesAre ws ds → BytesAre (vs ++ ws) (bs ++ ds)
  | _, _, _, _, .nil, h => h
  | _, _, _, _, .cons b t r, h => .cons b t (r.append h)
theorem BytesAre.length : ∀ {vs : List Value} {bs : List (Array UInt8)}, BytesAre vs bs → vs.length = bs.length
  | _, _, .nil => rfl
  | _, _, .cons _ _ r => congrArg (· + 1) r.length
theorem BytesAre.get : ∀ {vs : List Value} {bs : List (Array UInt8)}, BytesAre vs bs → ∀ (i : Nat) (v : Value), vs[i]? = some v → ∃ b t, v = .bytes b t ∧ bs[i]? = some b
  | _, _, .cons b t r, 0, v, h => by cases h; exact ⟨b, t, rfl, rfl⟩
  | _, _, .cons _ _ r, i + 1, v, h => r.get i v h
theorem BytesAre.at : ∀ {vs : List Value} {bs : List (Array UInt8)}, BytesAre vs bs → ∀ (i : Nat) (b : Array UInt8), bs[i]? = some b → ∃ t, vs[i]? = some (.bytes b t)
  | _, _, .cons b t r, 0, _, h => by cases h; exact ⟨t, rfl⟩
  | _, _, .cons _ _ r, i + 1, v, h => r.at i v h
theorem BytesAre.take : ∀ {vs : List Value} {bs : List (Array UInt8)}, BytesAre vs bs → ∀ k : Nat, BytesAre (vs.take k) (bs.take k)
  | _, _, .nil, k => by simp; exact .nil
  | _, _, .cons b t r, 0 => .nil
  | _, _, .cons b t r, k + 1 => .cons b t (r.take k)
theorem BytesAre.drop : ∀ {vs : List Value} {bs : List (Array UInt8)}, BytesAre vs bs → ∀ k : Nat, BytesAre (vs.drop k) (bs.drop k)
  | _, _, .nil, k => by simp; exact .nil
  | _, _, .cons b t r, 0 => .cons b t r
  | _, _, .cons b t r, k + 1 => r.drop k
theorem BytesAre.reverse : ∀ {vs : List Value} {bs : List (Array UInt8)}, BytesAre vs bs → BytesAre vs.reverse bs.reverse
  | _, _, .nil => .nil
  | _, _, .cons b t r => by simp only [List.reverse_cons]; exact r.reverse.append (.cons b t .nil)
theorem BytesAre.all : ∀ {vs : List Value} {bs : List (Array UInt8)}, BytesAre vs bs → ∀ v, v ∈ vs → ∃ b t, v = .bytes b t
  | _, _, .cons b t h, v, hv => by
    rcases List.mem_cons.mp hv with rfl | hv
    · exact ⟨b, t, rfl⟩
    · exact h.all v hv

section
variable {prog : Program} {w : World} {A : Around} {E : Value → Shared → Prop} {s : Shared}

theorem EqAt.bytes (x y : Array UInt8) (t u : Tok) : EqAt A s (.bytes x t) (.bytes y u) (decide (x = y)) := by
  intro prog w E Q h
  unfold eqBool
  refine wpAny_holding ?_
  refine wpAny_ite_split (fun hab => ?_) (fun hab => ?_)
  · have e : x = y := by have := eq_of_beq hab; injection this
    subst e
    exact wpAny_bind (wpAny_rule (wpAny_pure (by simpa using h)))
  · refine wpAny_bind ?_
    show wpAny _ _ (compareOp .Eq (.bytes x t) (.bytes y u)) _ _ _
    refine eq_bytes ?_
    have e : (x.toList == y.toList) = decide (x = y) := by
      by_cases e : x = y
      · subst e; simp
      · have : x.toList ≠ y.toList := fun h => e (by cases x; cases y; simp_all)
        simp [e, beq_eq_false_iff_ne.mpr this]
    rw [e]
    exact wpAny_truthy_bool h

theorem all_range_eq {α : Type} [DecidableEq α] (bs cs : List α) (h : bs.length = cs.length) : (List.range bs.length).all (fun j => decide (bs[j]? = cs[j]?)) = decide (bs = cs) := by
  by_cases e : bs = cs
  · subst e; simp
  · rw [decide_eq_false e]
    rw [List.all_eq_false]
    false_or_by_contra
    rename_i hc
    refine e (List.ext_getElem? fun j => ?_)
    by_cases hj : j < bs.length
    · have := not_exists.mp hc j
      simp only [List.mem_range, hj, true_and, decide_eq_true_eq] at this
      exact Classical.not_not.mp this
    · rw [List.getElem?_eq_none (by omega), List.getElem?_eq_none (by omega)]

/-- == of two lists of bytes -/
theorem rcAt_bytes {a b : Addr} {vs us : List Value} {bs cs : List (Array UInt8)} (ha : s.heap.IsList a vs.toArray) (hb : s.heap.IsList b us.toArray) (hi : BytesAre vs bs) (hj : BytesAre us cs) (hu : A.units < cLine) :
    RcAt A s (.ref a) (.ref b) (decide (bs = cs)) := by
  by_cases hl : bs.length = cs.length
  · have hsz : vs.toArray.size = us.toArray.size := by simp [hi.length, hj.length, hl]
    have h := RcAt.lists (A := A) (e := fun j => decide (bs[j]? = cs[j]?)) ha hb hsz hu fun j h1 h2 => by
      obtain ⟨x, t, e1, e2⟩ := hi.get j _ (by rw [← List.getElem?_toArray, Array.getElem?_eq_getElem h1])
      obtain ⟨y, u, e3, e4⟩ := hj.get j _ (by rw [← List.getElem?_toArray, Array.getElem?_eq_getElem h2])
      rw [e1, e3, e2, e4]
      have := EqAt.bytes (A := A.in1) (s := s) x y t u
      simpa using this
    rw [List.size_toArray, hi.length, all_range_eq _ _ hl] at h
    exact h
  · rw [decide_eq_false (fun e => hl (by rw [e]))]
    exact RcAt.lists_lengths ha hb (by simp [hi.length, hj.length, hl]) hu
theorem rcNeAt_bytes {a b : Addr} {vs us : List Value} {bs cs : List (Array UInt8)} (ha : s.heap.IsList a vs.toArray) (hb : s.heap.IsList b us.toArray) (hi : BytesAre vs bs) (hj : BytesAre us cs) (hu : A.units < cLine) :
    RcNeAt A s (.ref a) (.ref b) (!decide (bs = cs)) := by
  by_cases hl : bs.length = cs.length
  · have hsz : vs.toArray.size = us.toArray.size := by simp [hi.length, hj.length, hl]
    have h := RcNeAt.lists (A := A) (e := fun j => decide (bs[j]? = cs[j]?)) ha hb hsz hu fun j h1 h2 => by
      obtain ⟨x, t, e1, e2⟩ := hi.get j _ (by rw [← List.getElem?_toArray, Array.getElem?_eq_getElem h1])
      obtain ⟨y, u, e3, e4⟩ := hj.get j _ (by rw [← List.getElem?_toArray, Array.getElem?_eq_getElem h2])
      rw [e1, e3, e2, e4]
      have := EqAt.bytes (A := A.in1) (s := s) x y t u
      simpa using this
    rw [List.size_toArray, hi.length, all_range_eq _ _ hl] at h
    exact h
  · rw [decide_eq_false (fun e => hl (by rw [e]))]
    exact RcNeAt.lists_lengths ha hb (by simp [hi.length, hj.length, hl]) hu
theorem eqB {a b : Addr} {vs us : List Value} {bs cs : List (Array UInt8)} {Q : Value → Shared → Prop} (ha : s.heap.IsList a vs.toArray) (hb : s.heap.IsList b us.toArray) (hi : BytesAre vs bs) (hj : BytesAre us cs) (hu : A.units < cLine)
    (h : Q (.bool (decide (bs = cs))) s) : wpAny (model prog w) A (compareOp .Eq (.ref a) (.ref b)) Q E s := rcAt_bytes ha hb hi hj hu prog w E Q h
theorem neB {a b : Addr} {vs us : List Value} {bs cs : List (Array UInt8)} {Q : Value → Shared → Prop} (ha : s.heap.IsList a vs.toArray) (hb : s.heap.IsList b us.toArray) (hi : BytesAre vs bs) (hj : BytesAre us cs) (hu : A.units < cLine)
    (h : Q (.bool (!decide (bs = cs))) s) : wpAny (model prog w) A (compareOp .NotEq (.ref a) (.ref b)) Q E s := rcNeAt_bytes ha hb hi hj hu prog w E Q h
end

-- the sorting of bytes
@[reducible] def bytesKind : PyProof.Rows.KeyKind where
  α := List Nat
  blt a b := decide (a < b)
  irrefl a := by simpa using List.lt_irrefl a
  trans a b c h1 h2 := by simp only [decide_eq_true_eq] at *; exact List.lt_trans h1 h2
  negTrans a b c h := by
    simp only [decide_eq_true_eq] at *
    by_cases hab : a < b
    · exact .inl hab
    · exact .inr (List.lt_of_le_of_lt (List.not_lt.mp hab) h)
  total a b h1 h2 := by simp only [decide_eq_false_iff_not] at *; exact List.le_antisymm (List.not_lt.mp h2) (List.not_lt.mp h1)
  keyOf v := match v with | .bytes x _ => some (x.toList.map UInt8.toNat) | _ => none
  dflt := []

theorem order_lt : ∀ a b : List UInt8, (Builtin.Bytes.order a b == .lt) = decide (a.map UInt8.toNat < b.map UInt8.toNat)
  | [], [] => by simp [Builtin.Bytes.order]
  | [], _ :: _ => by simp [Builtin.Bytes.order]
  | _ :: _, [] => by simp [Builtin.Bytes.order]
  | x :: xs, y :: ys => by
    have ih := order_lt xs ys
    unfold Builtin.Bytes.order
    simp only [List.map_cons, List.cons_lt_cons_iff]
    by_cases h1 : x < y
    · have : x.toNat < y.toNat := UInt8.lt_iff_toNat_lt.mp h1
      simp [h1, this]
    · by_cases h2 : x > y
      · have : y.toNat < x.toNat := UInt8.lt_iff_toNat_lt.mp h2
        have n1 : ¬ x.toNat < y.toNat := by omega
        have n2 : ¬ x.toNat = y.toNat := by omega
        have e : (Ordering.gt == Ordering.lt) = false := by decide
        simp [h1, h2, n1, n2, e]
      · have n1 : ¬ x.toNat < y.toNat := fun h => h1 (UInt8.lt_iff_toNat_lt.mpr h)
        have n2 : ¬ y.toNat < x.toNat := fun h => h2 (UInt8.lt_iff_toNat_lt.mpr h)
        have n3 : x.toNat = y.toNat := by omega
        rw [if_neg h1, if_neg h2, ih]
        simp [n3]
theorem slot_bytes_lt : Slot "bytes" "__lt__" "bytes.__lt__" :=
  .of (owner := "bytes") (n := "__lt__") (by rw [typeLookup_type, builtinLookup_eq_fast]; kernel_rfl) (by decide +kernel) (by decide +kernel) (by decide +kernel)
    (by first | exact .inl (by decide +kernel) | exact .inr (by decide +kernel)) (by rw [isSubtype_type]; kernel_rfl)
theorem entry_bytes_lt : entryFor table "bytes.__lt__" = some Builtin.«bytes.__lt__» := by first | exact entryFor_of_fast (by kernel_rfl) | exact entryFor_of_tree (by kernel_rfl)
theorem args_bytes_lt (a b : Value) : argsOk "bytes.__lt__" ⟨[a, b], []⟩ := by
  unfold argsOk; rw [signature?_of (id := "bytes.__lt__") (n := ['_', '_', 't', 'l', '_', '_']) (o := ['s', 'e', 't', 'y', 'b']) (by kernel_rfl) FB.owner_bytes]; kernel_rfl
section
variable {prog : Program} {w : World} {A : Around} {E : Value → Shared → Prop} {s : Shared}
theorem call_bytes_lt {a b : Array UInt8} {t u : Tok} {Q : Value → Shared → Prop} (h : Q (.bool (decide (a.toList.map UInt8.toNat < b.toList.map UInt8.toNat))) s) :
    wpAny (model prog w) A (call (.builtin "bytes.__lt__") [.bytes a t, .bytes b u]) Q E s := by
  refine wpAny_call_entry slot_bytes_lt (typeIs_bytes s a t) entry_bytes_lt ?_ (args_bytes_lt _ _)
  show wpAny _ _ (isInstance (.bytes b u) (.type "bytes") >>= fun r => _) _ _ s
  refine wpAny_bind (wpAny_isInstance (typeIs_bytes s b u) PySem.F.bm_sub ?_)
  show wpAny _ _ (ret (.bool (Builtin.Bytes.holds "__lt__" (Builtin.Bytes.order a.toList b.toList)))) _ _ s
  have e : Builtin.Bytes.holds "__lt__" (Builtin.Bytes.order a.toList b.toList) = decide (a.toList.map UInt8.toNat < b.toList.map UInt8.toNat) := by
    rw [← order_lt]; rfl
  rw [e]
  exact wpAny_pure ⟨_, rfl, h⟩
theorem oneLt_bytes {a b : Array UInt8} {t u : Tok} {Q : Bool → Shared → Prop} (h : Q (decide (a.toList.map UInt8.toNat < b.toList.map UInt8.toNat)) s) : wpAny (model prog w) A (oneLt' true (.bytes a t) (.bytes b u)) Q E s := by
  rw [oneLt'_eq]
  simp only [if_true]
  refine wpAny_bind (wpAny_cRoomFor_byValue rfl ?_)
  refine wpAny_bind (wpAny_callSpecialIfBound?_slot (typeIs_bytes s a t) slot_bytes_lt (call_bytes_lt ?_))
  exact wpAny_truthy_bool h
end
theorem bytesKind_oneLt : bytesKind.OneLt := by
  intro prog w A E s x y a b Q ha hb h
  cases x <;> simp only [bytesKind, reduceCtorEq, Option.some.injEq] at ha
  cases y <;> simp only [bytesKind, reduceCtorEq, Option.some.injEq] at hb
  cases ha; cases hb
  exact oneLt_bytes h
noncomputable def bytesOf : Value → Array UInt8
  | .bytes x _ => x
  | _ => #[]
theorem BytesAre.bytesOf : ∀ {vs : List Value} {ss : List (Array UInt8)}, BytesAre vs ss → vs.map Mine.bytesOf = ss
  | _, _, .nil => rfl
  | _, _, .cons x t h => by rw [List.map_cons, h.bytesOf]; rfl
theorem bytesAre_map : ∀ (vs : List Value), (∀ v, v ∈ vs → ∃ x t, v = .bytes x t) → BytesAre vs (vs.map Mine.bytesOf)
  | [], _ => .nil
  | v :: vs, h => by
    obtain ⟨x, t, rfl⟩ := h v (List.mem_cons_self ..)
    exact .cons x t (bytesAre_map vs fun u hu => h u (List.mem_cons_of_mem _ hu))
theorem BytesAre.keysOf {vs : List Value} {ss : List (Array UInt8)} (hS : BytesAre vs ss) : KeysOf bytesKind (pairsOf vs) := by
  intro p hp
  rw [pairsOf_toList] at hp
  obtain ⟨x, t, e⟩ := hS.all _ (mem_zip_self hp).2
  exact ⟨x.toList.map UInt8.toNat, by rw [e]⟩
theorem mapM_first_bytes : ∀ {vs : List Value} {ss : List (Array UInt8)}, BytesAre vs ss → vs.mapM firstOfTuple' = pure (vs.map fun _ => none)
  | _, _, .nil => by simp
  | _, _, .cons x t h => by rw [List.mapM_cons, show firstOfTuple' (.bytes x t) = pure none from rfl, mapM_first_bytes h]; simp
theorem mapM_typeOf_bytes : ∀ {vs : List Value} {ss : List (Array UInt8)}, BytesAre vs ss → vs.mapM typeOf = pure (vs.map fun _ => Value.type "bytes")
  | _, _, .nil => by simp
  | _, _, .cons x t h => by
    rw [List.mapM_cons, mapM_typeOf_bytes h]
    show (pure (Value.type "bytes") >>= fun b => pure _ >>= fun bs => pure (b :: bs)) = _
    simp
theorem keyKind_bytes {v₁ v₂ : Value} {vs : List Value} {ss : List (Array UInt8)} (hS : BytesAre (v₁ :: v₂ :: vs) ss) : keyKind' (v₁ :: v₂ :: vs).toArray = pure oneType' := by
  rw [keyKind'_eq, List.mapM_toArray, mapM_first_bytes hS]
  simp only [map_pure, pure_bind]
  rw [if_neg (by simp), if_neg (by simp)]
  rw [oneTypeOnly'_eq, List.mapM_toArray, mapM_typeOf_bytes hS]
  simp only [map_pure, pure_bind]
  have hall : ((List.map (fun _ => Value.type "bytes") (v₁ :: v₂ :: vs)).toArray.all fun x => x == Value.type "bytes") = true := by
    simp only [List.all_toArray, List.all_map, List.all_eq_true]
    intro _ _
    rfl
  have h0 : (List.map (fun _ => Value.type "bytes") (v₁ :: v₂ :: vs)).toArray[0]? = some (Value.type "bytes") := by simp
  rw [h0]
  simp only [hall, if_true, pure_bind, Option.isSome_some]
/-- sorted, as a list of bytes -/
noncomputable def SortedB (l : List (Array UInt8)) : Prop := l.Pairwise fun a b => ¬ b.toList.map UInt8.toNat < a.toList.map UInt8.toNat
theorem KK_bytes {xs : Array Keyed} {i : Nat} (hi : i < xs.size) {x : Array UInt8} {t : Tok} {q : Value} (hx : xs[i] = (.bytes x t, q)) : KK bytesKind xs i = x.toList.map UInt8.toNat := by
  unfold KK; rw [getElem?_pos xs i hi, hx]; rfl
theorem sorted_out_bytes {vs : List Value} {ss : List (Array UInt8)} (hS : BytesAre vs ss) {xs : Array Keyed} (hp : xs.Perm (pairsOf vs)) (hs : SortedToK bytesKind xs (pairsOf vs).size) :
    ∃ ss', BytesAre (xs.map (·.2)).toList ss' ∧ ss'.Perm ss ∧ SortedB ss' := by
  have hl : xs.toList.Perm (vs.zip vs) := by rw [← pairsOf_toList]; exact Array.perm_iff_toList_perm.mp hp
  have hmem : ∀ p, p ∈ xs.toList → p.1 = p.2 ∧ p.1 ∈ vs := fun p hp' => mem_zip_self (hl.mem_iff.mp hp')
  refine ⟨xs.toList.map (fun p => Mine.bytesOf p.1), ?_, ?_, ?_⟩
  · have e : (xs.map (·.2)).toList = xs.toList.map (·.1) := by
      rw [Array.toList_map]; exact List.map_congr_left fun p hp' => (hmem p hp').1.symm
    rw [e]
    have h1 := bytesAre_map (xs.toList.map (·.1)) (by
      intro v hv
      obtain ⟨p, hp', rfl⟩ := List.mem_map.mp hv
      exact hS.all _ (hmem p hp').2)
    rwa [List.map_map] at h1
  · have h1 := hl.map (fun p => Mine.bytesOf p.1)
    have e2 : (vs.zip vs).map (fun p => Mine.bytesOf p.1) = ss := by
      have : (vs.zip vs).map (fun p => Mine.bytesOf p.1) = ((vs.zip vs).map Prod.fst).map Mine.bytesOf := by rw [List.map_map]; rfl
      rw [this, List.map_fst_zip (Nat.le_refl _), hS.bytesOf]
    rwa [e2] at h1
  · unfold SortedB
    rw [List.pairwise_iff_getElem]
    intro i j hi hj hij
    have hi' : i < xs.size := by simpa using hi
    have hj' : j < xs.size := by simpa using hj
    have h1 := hs i j (Nat.le_of_lt hij) (by rw [← hp.size_eq]; exact hj')
    obtain ⟨x, t, ex⟩ := hS.all _ (hmem xs[i] (by simp)).2
    obtain ⟨y, u, ey⟩ := hS.all _ (hmem xs[j] (by simp)).2
    rw [KK_bytes hi' (x := x) (t := t) (q := xs[i].2) (Prod.ext ex rfl), KK_bytes hj' (x := y) (t := u) (q := xs[j].2) (Prod.ext ey rfl)] at h1
    change decide (y.toList.map UInt8.toNat < x.toList.map UInt8.toNat) = false at h1
    simp only [List.getElem_map, Array.getElem_toList]
    rw [show Mine.bytesOf xs[i].1 = x by rw [ex]; rfl, show Mine.bytesOf xs[j].1 = y by rw [ey]; rfl]
    exact of_decide_eq_false h1
theorem map_toNat_inj : ∀ {a b : List UInt8}, a.map UInt8.toNat = b.map UInt8.toNat → a = b
  | [], [], _ => rfl
  | [], _ :: _, h => by simp at h
  | _ :: _, [], h => by simp at h
  | x :: xs, y :: ys, h => by
    simp only [List.map_cons, List.cons.injEq] at h
    rw [UInt8.toNat_inj.mp h.1, map_toNat_inj h.2]
/-- two sorted lists of the same bytes are one -/
theorem SortedB.eq {l l' : List (Array UInt8)} (h : SortedB l) (h' : SortedB l') (p : l.Perm l') : l = l' := by
  refine List.Perm.eq_of_pairwise ?_ h h' p
  intro a b _ _ h1 h2
  have : a.toList.map UInt8.toNat = b.toList.map UInt8.toNat := List.le_antisymm (List.not_lt.mp h1) (List.not_lt.mp h2)
  have := map_toNat_inj this
  cases a; cases b; simp_all
section
variable {prog : Program} {w : World} {A : Around} {E : Value → Shared → Prop} {s : Shared}
theorem sorted_bytes0 {l : Addr} {vs : List Value} {ss : List (Array UInt8)} {Q : Value → Shared → Prop} (hl : s.heap.IsList l vs.toArray) (hS : BytesAre vs ss) (h64 : vs.length < 64)
    (h : ∀ (out : Array Value) (ss' : List (Array UInt8)), BytesAre out.toList ss' → ss'.Perm ss → SortedB ss' → Q (.ref (s.heap.objs.size + 1)) { s with heap := sortedAll s.heap vs out }) :
    wpAny (model prog w) A (call (.builtin "sorted") [.ref l]) Q E s := by
  refine sortedK bytesKind_oneLt hl hS.keysOf (fun v₁ v₂ rest e => keyKind_bytes (by rw [← e]; exact hS)) h64 fun st' hp hs => ?_
  obtain ⟨ss', h1, h2, h3⟩ := sorted_out_bytes hS hp hs
  exact h _ ss' h1 h2 h3
theorem sorted_bytes {l : Addr} {vs : List Value} {ss : List (Array UInt8)} {Q : Value → Shared → Prop} (hl : s.heap.IsList l vs.toArray) (hS : BytesAre vs ss) (h64 : vs.length < 64)
    (h : ∀ (vs' : List Value) (ss' : List (Array UInt8)) (r : Addr) (h' : Heap) (c : Nat), (∀ b o, s.heap.get? b = some o → h'.get? b = some o) → s.heap.get? r = none → h'.get? r = some (PySem.W.listOf (List.toArray vs') c) → BytesAre vs' ss' → ss'.Perm ss → SortedB ss' → Q (.ref r) { s with heap := h' }) :
    wpAny (model prog w) A (call (.builtin "sorted") [.ref l]) Q E s := by
  refine sorted_bytes0 hl hS h64 fun out ss' h1 h2 h3 => ?_
  obtain ⟨e, he⟩ := sortedAll_at s.heap vs out
  refine h out.toList ss' _ _ e (fun _ _ => sortedAll_old) ?_ he h1 h2 h3
  cases e : s.heap.get? (s.heap.objs.size + 1) with
  | none => rfl
  | some o => exact absurd (Heap.lt_size e) (Nat.not_lt.mpr (Nat.le_succ _))
end

end
section
variable {b : Bool} {M : Model} {A : Around} {E : Value → Shared → Prop} {s : Shared} {env : Env} {pos : Pos} {f : Value} {first : List Value}

theorem wpX_operate {vs : List Value} {m : Sem Value} {Q : Value → Shared → Prop} (h : wpX b M A m Q E s) : wpX b M A (operate vs m) Q E s := fun Γ p hΓ hT => by
  rw [Sem.wp_operate]; exact h Γ p hΓ hT
theorem wpX_release {vs : List Value} {ks : List Value} {Q : Unit → Shared → Prop} (h : Q () s) : wpX b M A (release vs ks) Q E s := fun Γ p hΓ hT => by
  rw [Sem.wp_release]; exact h

theorem wpX_callWith_of {P : Heap → Prop} {args : List (Bool × Sem Value)} {keywords : List (Option Str × Sem Value)} {Q : Value → Shared → Prop} (hplain : (args.any (·.1) || keywords.any (·.1.isNone)) = false)
    (hk : ∀ h, P h → ∃ k, (k = Keeper.frame ∨ k = Keeper.machine ∨ k = Keeper.boundFrame) ∧ Looks M h (keeperOf f) k)
    (h : wpAny M A (evalArgs f true args keywords) (fun a s₁ => P s₁.heap ∧ wpX b M A (call f (first ++ a.pos) a.kw) Q E s₁) E s) : wpX b M A (callWith pos f first args keywords) Q E s := by
  unfold callWith
  refine wpT_bind (wpT_holding (wpX.of (wpAny_mono h (fun a s₁ h₁ => ?_) fun _ _ x => x)))
  obtain ⟨hP, hc⟩ := h₁
  obtain ⟨k, hk', L⟩ := hk _ hP
  refine wpT_bind (wpX.of (wpAny_standAt ?_))
  simp only [hplain]
  refine wpT_bind (wpX.of (L.here ?_))
  have marked (mk : Value) : wpX b M A (callMarked mk f (first ++ a.pos) a.kw) Q E s₁ := wpT_keep hc
  have tail : ∀ {t : Sem Value}, wpX b M A t Q E s₁ → wpX b M A (t >>= fun r => holding [r] point >>= fun _ => pure r) Q E s₁ :=
    fun ht => wpT_bind (wpT_mono ht (fun r s₂ hr => wpT_bind (wpT_holding (wpX.of (wpAny_point (wpT_pure hr))))) fun _ _ x => x)
  rcases hk' with rfl | rfl | rfl <;> dsimp only <;> first | exact tail hc | (split <;> first | exact tail hc | exact tail (marked _))
theorem wpX_callWith_K {K : Frag} {h₀ : Heap} {e : PySem.Expr} {rest : List PySem.Expr} {Q : Value → Shared → Prop} (_X : K.In h₀) (hk : keepIn K f = true) (h : wpAny M A (spliced (backTo pos (starEach (e :: rest) env))) (fun vs s₁ => K.In s₁.heap ∧ wpX b M A (call f (first ++ vs)) Q E s₁) E s)
    (he : starEach (e :: rest) env = (false, eval e env) :: starEach rest env := by rfl) (hplain : (backTo pos (starEach rest env)).any (·.1) = false := by rfl) :
    wpX b M A (callWith pos f first (backTo pos (starEach (e :: rest) env)) []) Q E s := by
  rw [he] at h ⊢
  exact wpX_callWith_of (by show ((false || (backTo pos (starEach rest env)).any (·.1)) || false) = false; rw [hplain]; rfl) (keeps_K hk) (evalArgs_plain h)
theorem wpX_callWith_K0 {K : Frag} {Q : Value → Shared → Prop} (X : K.In s.heap) (hk : keepIn K f = true) (h : wpX b M A (call f (first ++ [])) Q E s) : wpX b M A (callWith pos f first (backTo pos (starEach [] env)) []) Q E s :=
  wpX_callWith_of rfl (keeps_K hk) (evalArgs_nil3 ⟨X, h⟩)
theorem wpX_callWith_B {e : PySem.Expr} {rest : List PySem.Expr} {Q : Value → Shared → Prop} (hm : keeperOf f = pure Keeper.machine) (h : wpAny M A (spliced (backTo pos (starEach (e :: rest) env))) (fun vs s₁ => wpX b M A (call f (first ++ vs)) Q E s₁) E s)
    (he : starEach (e :: rest) env = (false, eval e env) :: starEach rest env := by rfl) (hplain : (backTo pos (starEach rest env)).any (·.1) = false := by rfl) :
    wpX b M A (callWith pos f first (backTo pos (starEach (e :: rest) env)) []) Q E s := by
  rw [he] at h ⊢
  exact wpX_callWith_of (P := fun _ => True) (by show ((false || (backTo pos (starEach rest env)).any (·.1)) || false) = false; rw [hplain]; rfl) (fun _ _ => ⟨_, .inr (.inl rfl), Looks.of_pure hm⟩)
    (evalArgs_plain (wpAny_mono h (fun _ _ q => ⟨trivial, q⟩) fun _ _ x => x))

theorem wpX_CallMeth {o : PySem.Expr} {name : Str} {apos : Pos} {args : List PySem.Expr} {pl : Sem Bool} {Q : Value → Shared → Prop}
    (h : wpAny M A (eval o env) (fun ov s₁ => wpAny M A (getMethod ov name pl) (fun fx s₂ => wpX b M A (callWith pos fx.1 fx.2 (backTo pos (starEach args env)) []) Q E s₂) E s₁) E s)
    (he : eval (.Call (.Attribute o name apos) args [] pos) env = (do
      let ov ← eval o env
      standAt apos.atName
      let (f, first) ← holding [ov] (getMethod ov name pl)
      callWith pos f first (backTo pos (starEach args env)) []) := by rfl) :
    wpX b M A (eval (.Call (.Attribute o name apos) args [] pos) env) Q E s := by
  rw [he]
  refine wpT_bind (wpX.of (wpAny_mono h (fun ov s₁ h₁ => wpT_bind (wpX.of (wpAny_standAt (wpT_bind (wpT_holding (wpX.of (wpAny_mono h₁ (fun fx s₂ h₂ => ?_) fun _ _ x => x))))))) fun _ _ x => x))
  exact h₂
theorem wpX_CallName {x : Str} {np : Pos} {args : List PySem.Expr} {Q : Value → Shared → Prop}
    (h : wpAny M A (eval (.Name x np) env) (fun f s₁ => wpX b M A (callWith pos f [] (backTo pos (starEach args env)) []) Q E s₁) E s) :
    wpX b M A (eval (.Call (.Name x np) args [] pos) env) Q E s := by
  show wpX b M A (do callWith pos (← eval (.Name x np) env) [] (backTo pos (starEach args env)) (backToKw pos (keywordEach [] env))) Q E s
  exact wpT_bindA h

theorem wpX_Expr {value : PySem.Expr} {spos : Pos} {Q : Flow → Shared → Prop} (h : wpX b M A (eval value env) (fun v s₁ => wpAny M A (dropValue value spos v) Q E s₁) E s)
    (hs : swapsWith value none spos.line env = pure false := by rfl) (hi : interactive env = false := by rfl) : wpX b M A (exec (.Expr value spos) env) Q E s := by
  rw [arm_exec_Expr, hi, hs]
  refine wpT_bind (wpX.of (wpAny_standAt ?_))
  simp only [Bool.false_eq_true, if_false]
  exact wpT_bind (wpT_pure (wpT_bind (wpT_mono h (fun v s₁ h₁ => wpX.of h₁) fun _ _ x => x)))
theorem wpX_Assign {t value : PySem.Expr} {spos : Pos} {Q : Flow → Shared → Prop} (h : wpX b M A (eval value env) (fun v s₁ => wpX b M A (assign t env v) (fun _ => Q .next) E s₁) E s)
    (hs : swapsWith value (some t) spos.line env = pure false := by rfl)
    (he : exec (.Assign [t] value spos) env = (do
      standAt spos
      if ← swapsWith value (some t) spos.line env then
        evalThenUse value env (assign t env)
        return .next
      let v ← eval value env
      assign t env v
      pure .next) := by rfl) : wpX b M A (exec (.Assign [t] value spos) env) Q E s := by
  rw [he, hs]
  refine wpT_bind (wpX.of (wpAny_standAt ?_))
  refine wpT_bind (wpT_pure ?_)
  simp only [Bool.false_eq_true, if_false]
  exact wpT_bind (wpT_mono h (fun v s₁ h₁ => wpT_bind (wpT_mono h₁ (fun _ s₂ h₂ => wpT_pure h₂) fun _ _ x => x)) fun _ _ x => x)
theorem wpX_store {o i : PySem.Expr} {spos : Pos} {v : Value} {Q : Unit → Shared → Prop} (h : wpAny M A (eval o env) (fun ov s₁ => wpAny M A (eval i env) (fun iv s₂ => wpX b M A (setItem ov iv v) Q E s₂) E s₁) E s) :
    wpX b M A (assign (.Subscript o i spos) env v) Q E s := by
  rw [assign_Subscript]
  refine wpT_bind (wpT_holding (wpX.of (wpAny_mono h (fun ov s₁ h₁ => wpT_bind (wpT_holding (wpX.of (wpAny_mono h₁ (fun iv s₂ h₂ => ?_) fun _ _ x => x)))) fun _ _ x => x)))
  refine wpT_bind (wpX.of (wpAny_standAt ?_))
  exact wpT_bind (wpT_holding (wpT_mono h₂ (fun _ s₃ h₃ => wpX_release h₃) fun _ _ x => x))

theorem wpX_isCompare {left r : PySem.Expr} {op : CmpOp} {Q : Bool → Shared → Prop} (h : wpX b M A (eval left env) (fun a s₁ => wpAny M A (eval r env) (fun c s₂ => wpAny M A (compareOp op a c) (fun v s₃ => wpAny M A (truthy v) Q E s₃) E s₂) E s₁) E s)
    (hm : markedEach [op] [r] (evalEach [r] env) = [eval r env] := by rfl) :
    wpX b M A (isTrue (.Compare left [op] [r] pos) env (eval (.Compare left [op] [r] pos) env)) Q E s := by
  show wpX b M A (do testChain pos (← eval left env) [op] (markedEach [op] [r] (evalEach [r] env))) Q E s
  rw [hm]
  refine wpT_bind (wpT_mono h (fun a s₁ h₁ => ?_) fun _ _ x => x)
  refine wpX.of ?_
  show wpAny M A ((holding [a] (eval r env)) >>= _) Q E s₁
  refine wpAny_bind (wpAny_holding (wpAny_mono h₁ (fun c s₂ h₂ => wpAny_bind (wpAny_standAt ?_)) fun _ _ x => x))
  exact wpAny_bind (wpAny_operate' (wpAny_mono h₂ (fun v s₃ h₃ => wpAny_holding h₃) fun _ _ x => x))
theorem wpX_Compare {left r : PySem.Expr} {op : CmpOp} {Q : Value → Shared → Prop} (h : wpX b M A (eval left env) (fun a s₁ => wpAny M A (eval r env) (fun c s₂ => wpAny M A (compareOp op a c) Q E s₂) E s₁) E s)
    (hm : markedEach [op] [r] (evalEach [r] env) = [eval r env] := by rfl) :
    wpX b M A (eval (.Compare left [op] [r] pos) env) Q E s := by
  rw [arm_eval_Compare, hm]
  refine wpT_bind (wpT_mono h (fun a s₁ h₁ => ?_) fun _ _ x => x)
  refine wpX.of ?_
  show wpAny M A ((holding [a] (eval r env)) >>= _) Q E s₁
  refine wpAny_bind (wpAny_holding (wpAny_mono h₁ (fun c s₂ h₂ => wpAny_bind (wpAny_standAt ?_)) fun _ _ x => x))
  exact wpAny_operate' h₂
theorem wpX_isNot {x : PySem.Expr} {Q : Bool → Shared → Prop} {whole : Sem Value} (h : wpX b M A (isTrue x env (eval x env)) (fun c s₁ => Q (!c) s₁) E s) : wpX b M A (isTrue (.UnaryOp .Not x pos) env whole) Q E s := by
  show wpX b M A (do return !(← isTrue x env (eval x env))) Q E s
  exact wpT_bind (wpT_mono h (fun c s₁ h₁ => wpT_pure h₁) fun _ _ x => x)
theorem wpX_isOr2 {x y : PySem.Expr} {Q : Bool → Shared → Prop} {whole : Sem Value} (h : wpX b M A (isTrue x env (eval x env)) (fun c s₁ => if c = true then Q true s₁ else wpX b M A (isTrue y env (eval y env)) Q E s₁) E s) :
    wpX b M A (isTrue (.BoolOp .Or [x, y] pos) env whole) Q E s := by
  show wpX b M A (allTrue .Or [x, y] env) Q E s
  unfold allTrue
  refine wpT_bind (wpT_mono h (fun c s₁ h₁ => ?_) fun _ _ x => x)
  cases c with
  | true => exact wpT_pure (by simpa using h₁)
  | false =>
    simp only [Bool.false_eq_true, if_false] at h₁
    show wpX b M A (allTrue .Or [y] env) Q E s₁
    unfold allTrue
    refine wpT_bind (wpT_mono h₁ (fun c s₂ h₂ => ?_) fun _ _ x => x)
    cases c with
    | true => exact wpT_pure h₂
    | false => exact wpT_pure h₂
theorem wpX_isCall {g : PySem.Expr} {args : List PySem.Expr} {Q : Bool → Shared → Prop} (h : wpX b M A (eval (.Call g args [] pos) env) (fun v s₁ => wpAny M A (truthy v) Q E s₁) E s) :
    wpX b M A (isTrue (.Call g args [] pos) env (eval (.Call g args [] pos) env)) Q E s := by
  show wpX b M A (do let v ← eval (.Call g args [] pos) env; standAt pos; holding [v] (truthy v)) Q E s
  exact wpT_bind (wpT_mono h (fun v s₁ h₁ => wpT_bind (wpX.of (wpAny_standAt (wpX.of (wpAny_holding h₁))))) fun _ _ x => x)
theorem wpX_And2 {x y : PySem.Expr} {rest : List PySem.Expr} {Q : Value → Shared → Prop}
    (h : wpX b M A (eval x env) (fun v s₁ => wpAny M A (truthy v) (fun t s₂ => if t = true then wpX b M A (eval (.BoolOp .And (y :: rest) pos) env) Q E s₂ else Q v s₂) E s₁) E s) :
    wpX b M A (eval (.BoolOp .And (x :: y :: rest) pos) env) Q E s := by
  show wpX b M A (eval x env >>= _) Q E s
  refine wpT_bind (wpT_mono h (fun v s₁ h₁ => wpT_bind (wpX.of (wpAny_standAt ?_))) fun _ _ x => x)
  refine wpT_bind (wpT_holding (wpX.of (wpAny_mono h₁ (fun t s₂ h₂ => ?_) fun _ _ x => x)))
  cases t with
  | true => simp only [if_true] at h₂; exact h₂
  | false => simp only [Bool.false_eq_true, if_false] at h₂; exact wpT_pure h₂
end

noncomputable abbrev AN (dp un : Nat) (fr : Option (List Env)) (gd : Option (List Code)) : Around := { handled := none, depth := dp, frames := fr, guards := gd, units := un }
noncomputable abbrev Kp (h h' : Heap) : Prop := ∀ b o, h.get? b = some o → h'.get? b = some o

structure Qd.Ok (q : Qd) : Prop where
  most0 : 1 ≤ q.most
  most1 : q.most ≤ 6
  hd0 : 0 ≤ q.hd
  hd1 : q.hd ≤ q.most
  tl0 : 0 ≤ q.tl
  tl1 : q.tl ≤ q.most
  wd0 : 1 ≤ q.wd
  wd1 : q.wd ≤ 4
  kd : q.kind = Str.ofString "queue" ∨ q.kind = Str.ofString "stack"
  nodup : (q.sl.map (·.1)).Nodup
  keys : ∀ e ∈ q.sl, 0 ≤ e.1 ∧ e.1 ≤ q.most
  sizes : ∀ e ∈ q.sl, e.2.2.size = q.wd.toNat
  ad : q.as.Nodup

noncomputable def Qd.next (q : Qd) (i : Int) : Int := if i = q.most then 0 else i + 1
noncomputable def Qd.prev (q : Qd) (i : Int) : Int := if i = 0 then q.most else i - 1
noncomputable def Qd.cnt (q : Qd) : Int := if q.hd < q.tl then q.hd - q.tl + q.most + 1 else q.hd - q.tl
noncomputable def Qd.place (q : Qd) (k : Int) : Int := if q.tl + k ≤ q.most then q.tl + k else q.tl + k - (q.most + 1)
theorem fmod_wrap {x r : Int} (h0 : 0 ≤ x) (h1 : x < 2 * r) : x.fmod r = if x < r then x else x - r := by
  have hr : 0 < r := by omega
  rw [Int.fmod_eq_emod_of_nonneg _ (by omega)]
  split
  · exact Int.emod_eq_of_lt h0 ‹_›
  · rw [← Int.sub_emod_right x r]; exact Int.emod_eq_of_lt (by omega) (by omega)
theorem fmod_neg {x r : Int} (h0 : -r ≤ x) (h1 : x < r) : x.fmod r = if x < 0 then x + r else x := by
  have hr : 0 < r := by omega
  rw [Int.fmod_eq_emod_of_nonneg _ (by omega)]
  split
  · rw [← Int.add_emod_right x r]; exact Int.emod_eq_of_lt (by omega) (by omega)
  · exact Int.emod_eq_of_lt (by omega) h1
theorem Qd.fmod_next {q : Qd} {i : Int} (h0 : 0 ≤ i) (h1 : i ≤ q.most) : (i + 1).fmod (q.most + 1) = q.next i := by
  rw [fmod_wrap (by omega) (by omega)]; unfold Qd.next; split <;> split <;> omega
theorem Qd.fmod_prev {q : Qd} {i : Int} (h0 : 0 ≤ i) (h1 : i ≤ q.most) : (i - 1).fmod (q.most + 1) = q.prev i := by
  rw [fmod_neg (by omega) (by omega)]; unfold Qd.prev; split <;> split <;> omega
theorem Qd.fmod_cnt {q : Qd} (h : q.Ok) : (q.hd - q.tl).fmod (q.most + 1) = q.cnt := by
  have := h.hd0; have := h.hd1; have := h.tl0; have := h.tl1
  rw [fmod_neg (by omega) (by omega)]; unfold Qd.cnt; split <;> split <;> omega

section
variable {prog : Program} {w : World} {A : Around} {E : Value → Shared → Prop} {s : Shared} {mg mb : Str → Option Value} {h₀ : Heap} {L : Addr} {m : Str → Option Value} {q : Qd} {dp un : Nat} {fr : Option (List Env)} {gd : Option (List Code)}

theorem q_attr {expr : Bool} {name : Str} {attr : Option Value} {Q : Value → Shared → Prop} {P : Value → Prop} (F : Fr h₀ L s.heap m) (X : (hd.heap_1 w.params).In h₀) (H : QAt prog w s.heap q)
    (hg : plainGet (hd.heap_1 w.params) 412 name = true) (ha : findIn (hd.heap_1 w.params) (.ref 412) name = some attr) (hn : noGet (hd.heap_1 w.params) attr = true)
    (hl : ∀ t, ∃ v, getL name (qes w.params q t) = some (some v) ∧ handedIn v = true ∧ P v) (h : ∀ v, P v → Q v { s with toks := s.toks + 1 }) :
    wpAny (model prog w) A (getAttr (.ref q.x) name expr) Q E s := by
  obtain ⟨t, n, I⟩ := H.inst
  obtain ⟨v, a, b, c⟩ := hl t
  exact get_own F X I hg (by k_is) ha hn a b (h v c)

theorem q_get_kind {expr : Bool} {Q : Value → Shared → Prop} (F : Fr h₀ L s.heap m) (X : (hd.heap_1 w.params).In h₀) (H : QAt prog w s.heap q) (h : ∀ t, Q (.str q.kind t) { s with toks := s.toks + 1 }) :
    wpAny (model prog w) A (getAttr (.ref q.x) (Str.ofString "kind") expr) Q E s :=
  q_attr (P := fun v => ∃ t, v = .str q.kind t) F X H (by k_is) (by k_is) (by k_is) (fun t => ⟨.str q.kind (t 1), by k_get, by k_handed, _, rfl⟩) fun v ⟨t, e⟩ => e ▸ h t
theorem q_get_number {expr : Bool} {Q : Value → Shared → Prop} (F : Fr h₀ L s.heap m) (X : (hd.heap_1 w.params).In h₀) (H : QAt prog w s.heap q) (h : ∀ t, Q (.int 3 t) { s with toks := s.toks + 1 }) :
    wpAny (model prog w) A (getAttr (.ref q.x) (Str.ofString "number") expr) Q E s :=
  q_attr (P := fun v => ∃ t, v = .int 3 t) F X H (by k_is) (by k_is) (by k_is) (fun t => ⟨.int 3 (t 3), by k_get, by k_handed, _, rfl⟩) fun v ⟨t, e⟩ => e ▸ h t
theorem q_get_key_width {expr : Bool} {Q : Value → Shared → Prop} (F : Fr h₀ L s.heap m) (X : (hd.heap_1 w.params).In h₀) (H : QAt prog w s.heap q) (h : ∀ t, Q (.int 0 t) { s with toks := s.toks + 1 }) :
    wpAny (model prog w) A (getAttr (.ref q.x) (Str.ofString "key_width") expr) Q E s :=
  q_attr (P := fun v => ∃ t, v = .int 0 t) F X H (by k_is) (by k_is) (by k_is) (fun t => ⟨.int 0 (t 5), by k_get, by k_handed, _, rfl⟩) fun v ⟨t, e⟩ => e ▸ h t
theorem q_get_value_width {expr : Bool} {Q : Value → Shared → Prop} (F : Fr h₀ L s.heap m) (X : (hd.heap_1 w.params).In h₀) (H : QAt prog w s.heap q) (h : ∀ t, Q (.int q.wd t) { s with toks := s.toks + 1 }) :
    wpAny (model prog w) A (getAttr (.ref q.x) (Str.ofString "value_width") expr) Q E s :=
  q_attr (P := fun v => ∃ t, v = .int q.wd t) F X H (by k_is) (by k_is) (by k_is) (fun t => ⟨.int q.wd (t 7), by k_get, by k_handed, _, rfl⟩) fun v ⟨t, e⟩ => e ▸ h t
theorem q_get_most {expr : Bool} {Q : Value → Shared → Prop} (F : Fr h₀ L s.heap m) (X : (hd.heap_1 w.params).In h₀) (H : QAt prog w s.heap q) (h : ∀ t, Q (.int q.most t) { s with toks := s.toks + 1 }) :
    wpAny (model prog w) A (getAttr (.ref q.x) (Str.ofString "most") expr) Q E s :=
  q_attr (P := fun v => ∃ t, v = .int q.most t) F X H (by k_is) (by k_is) (by k_is) (fun t => ⟨.int q.most (t 9), by k_get, by k_handed, _, rfl⟩) fun v ⟨t, e⟩ => e ▸ h t
theorem q_get_values {expr : Bool} {Q : Value → Shared → Prop} (F : Fr h₀ L s.heap m) (X : (hd.heap_1 w.params).In h₀) (H : QAt prog w s.heap q) (h : Q (.ref q.vd) { s with toks := s.toks + 1 }) :
    wpAny (model prog w) A (getAttr (.ref q.x) (Str.ofString "values") expr) Q E s :=
  q_attr (P := fun v => v = .ref q.vd) F X H (by k_is) (by k_is) (by k_is) (fun t => ⟨.ref q.vd, by k_get, by k_handed, rfl⟩) fun v e => e ▸ h
theorem q_get_head {expr : Bool} {Q : Value → Shared → Prop} (F : Fr h₀ L s.heap m) (X : (hd.heap_1 w.params).In h₀) (H : QAt prog w s.heap q) (h : ∀ t, Q (.int q.hd t) { s with toks := s.toks + 1 }) :
    wpAny (model prog w) A (getAttr (.ref q.x) (Str.ofString "head") expr) Q E s :=
  q_attr (P := fun v => ∃ t, v = .int q.hd t) F X H (by k_is) (by k_is) (by k_is) (fun t => ⟨.int q.hd (t 12), by k_get, by k_handed, _, rfl⟩) fun v ⟨t, e⟩ => e ▸ h t
theorem q_get_tail {expr : Bool} {Q : Value → Shared → Prop} (F : Fr h₀ L s.heap m) (X : (hd.heap_1 w.params).In h₀) (H : QAt prog w s.heap q) (h : ∀ t, Q (.int q.tl t) { s with toks := s.toks + 1 }) :
    wpAny (model prog w) A (getAttr (.ref q.x) (Str.ofString "tail") expr) Q E s :=
  q_attr (P := fun v => ∃ t, v = .int q.tl t) F X H (by k_is) (by k_is) (by k_is) (fun t => ⟨.int q.tl (t 14), by k_get, by k_handed, _, rfl⟩) fun v ⟨t, e⟩ => e ▸ h t

noncomputable def qNames : List Str := ["kind", "number", "key_width", "value_width", "most", "values", "head", "tail"].map Str.ofString
theorem q_none {name : Str} {P : Params} {t : Nat → Tok} (h : qNames.contains name = false) : getL name (qes P q t) = some none := by
  simp only [qNames, List.map_cons, List.map_nil, List.contains_cons, List.contains_nil, Bool.or_false, Bool.or_eq_false_iff] at h
  obtain ⟨a, b, c, d, e, f, g, i⟩ := h
  have sy : ∀ x y : Str, (x == y) = false → (y == x) = false := fun x y h => by
    rw [beq_eq_false_iff_ne] at h ⊢; exact fun e => h e.symm
  simp only [getL, qes, List.find?_cons, List.find?_nil, Value.isStr, sy _ _ a, sy _ _ b, sy _ _ c, sy _ _ d, sy _ _ e, sy _ _ f, sy _ _ g, sy _ _ i, List.any_cons, List.any_nil, DictEntry.refKey]
  rfl
theorem q_meth {name : Str} {f : Addr} {pl : Sem Bool} {Q : Value × List Value → Shared → Prop} (F : Fr h₀ L s.heap m) (X : (hd.heap_1 w.params).In h₀) (H : QAt prog w s.heap q)
    (hg : plainGet (hd.heap_1 w.params) 412 name = true) (hf : findIn (hd.heap_1 w.params) (.ref 412) name = some (some (.ref f))) (ht : isFn (hd.heap_1 w.params) (.ref f) = true)
    (hl : qNames.contains name = false) (h : Q (.ref f, [.ref q.x]) s) : wpAny (model prog w) A (getMethod (.ref q.x) name pl) Q E s := by
  obtain ⟨t, n, I⟩ := H.inst
  exact method_inst F X I hg hf ht (q_none hl) h
end

theorem kw_f_1 : True := by
  k_with "my place" => (first | assumption | (with_reducible rename Qd.Ok _ => hqP; exact ⟨hqP.hd0, hqP.hd1⟩) | (with_reducible rename Qd.Ok _ => hqP; exact ⟨hqP.tl0, hqP.tl1⟩))
  k_with "my q" => (first | assumption | exact QAt.keeps (by assumption) (Fr.keep (by k_asm)))
  k_with "my rm" => (exact Rm.mono (by assumption) (by decide))
  k_with "my lay" => (exact Lay.keeps (by assumption) (Fr.keep (by k_asm)))
  k_with "getAttr ref" => ((with_reducible show wpAny _ _ (getAttr (Value.ref (Qd.x _)) _ _) _ _ _); first | (refine' q_get_kind (by k_asm) (by k_asm) (by walk_at "my q") ?_; intro _) | (refine' q_get_number (by k_asm) (by k_asm) (by walk_at "my q") ?_; intro _) | (refine' q_get_key_width (by k_asm) (by k_asm) (by walk_at "my q") ?_; intro _) | (refine' q_get_value_width (by k_asm) (by k_asm) (by walk_at "my q") ?_; intro _) | (refine' q_get_most (by k_asm) (by k_asm) (by walk_at "my q") ?_; intro _) | (refine' q_get_values (by k_asm) (by k_asm) (by walk_at "my q") ?_) | (refine' q_get_head (by k_asm) (by k_asm) (by walk_at "my q") ?_; intro _) | (refine' q_get_tail (by k_asm) (by k_asm) (by walk_at "my q") ?_; intro _))
  k_with "getMethod ref" => ((with_reducible show wpAny _ _ (getMethod (Value.ref (Qd.x _)) _ _) _ _ _); refine' q_meth (by k_asm) (by k_asm) (by walk_at "my q") (by k_is) (by k_is) (by k_is) (by decide +kernel) ?_)
  k_with "my after" => (intro _ _ k'; (try dsimp only at k'); (have _ := Fr.keeps (by k_asm) k'); (have _ := News.keeps (by k_asm) k'); (try k_sweep); clear k')
  exact trivial

section
variable {prog : Program} {w : World} {A : Around} {E : Value → Shared → Prop} {s : Shared} {mg mb : Str → Option Value} {h₀ : Heap} {L : Addr} {m : Str → Option Value} {q : Qd} {dp un : Nat} {fr : Option (List Env)} {gd : Option (List Code)}

set_option maxHeartbeats 0 in
theorem c_room {Q : Value → Shared → Prop} (R : Rm (AN dp un fr gd) 1) (Y : Lay w mg mb s.heap) (H : QAt prog w s.heap q)
    (hQ : ∀ t h' tk, Kp s.heap h' → Q (.int (q.most + 1) t) { s with heap := h', toks := tk }) :
    wpAny (model prog w) (AN dp un fr gd) (call (.ref 299) [.ref q.x]) Q E s := by
  refine wpAny_call ?_
  refine' enterA (binds := [(Str.ofString "self", .ref q.x)]) R Y ?k1 ?k2 ?k3 ?k4 ?_ ?k5 ?k6 ?k7 ?k8
  case k1 => k_is
  case k2 => k_is
  case k3 => exact BindsTo.of_eq rfl
  case k4 => exact locs rfl
  case k5 => decide
  case k6 => exact rfl
  case k7 => exact rfl
  case k8 => exact rfl
  intro L h₁ F N R'
  have X := Y.X
  have T := Y.T
  show wpAny _ _ _ _ _ _
  k_fold
  repeat' (first | (k_unfold; (try dsimp only)) | walk1 | (dsimp only; walk1))
  exact hQ _ _ _ (Fr.keep (by k_asm))

end
theorem kw_f_2 : True := by
  k_with "call ref" => ((with_reducible show wpAny _ _ (call (Value.ref 299) _) _ _ _); k_dflt (refine' c_room (by walk_at "my rm") (by walk_at "my lay") (by walk_at "my q") ?_; intro _; walk_at "my after"))
  exact trivial
section
variable {prog : Program} {w : World} {A : Around} {E : Value → Shared → Prop} {s : Shared} {mg mb : Str → Option Value} {h₀ : Heap} {L : Addr} {m : Str → Option Value} {q : Qd} {dp un : Nat} {fr : Option (List Env)} {gd : Option (List Code)}

set_option maxHeartbeats 0 in
theorem c_onward {i : Int} {ti : Tok} {Q : Value → Shared → Prop} (R : Rm (AN dp un fr gd) 2) (Y : Lay w mg mb s.heap) (H : QAt prog w s.heap q) (hq : q.Ok) (hi : 0 ≤ i ∧ i ≤ q.most)
    (hQ : ∀ t h' tk, Kp s.heap h' → Q (.int (q.next i) t) { s with heap := h', toks := tk }) :
    wpAny (model prog w) (AN dp un fr gd) (call (.ref 306) [.ref q.x, .int i ti]) Q E s := by
  refine wpAny_call ?_
  refine' enterA (binds := [(Str.ofString "self", .ref q.x), (Str.ofString "slot", .int i ti)]) R Y ?k1 ?k2 ?k3 ?k4 ?_ ?k5 ?k6 ?k7 ?k8
  case k1 => k_is
  case k2 => k_is
  case k3 => exact BindsTo.of_eq rfl
  case k4 => exact locs rfl
  case k5 => decide
  case k6 => exact rfl
  case k7 => exact rfl
  case k8 => exact rfl
  intro L h₁ F N R'
  have X := Y.X
  have T := Y.T
  show wpAny _ _ _ _ _ _
  k_fold
  have := hq.most0
  repeat' (first | (k_unfold; (try dsimp only)) | walk1 | (dsimp only; walk1))
  rw [Qd.fmod_next hi.1 hi.2]
  exact hQ _ _ _ (Fr.keep (by k_asm))
end

section
variable {prog : Program} {w : World} {A : Around} {E : Value → Shared → Prop} {s : Shared} {mg mb : Str → Option Value} {h₀ : Heap} {L : Addr} {m : Str → Option Value} {q : Qd} {dp un : Nat} {fr : Option (List Env)} {gd : Option (List Code)}
set_option maxHeartbeats 0 in
theorem c_back {i : Int} {ti : Tok} {Q : Value → Shared → Prop} (R : Rm (AN dp un fr gd) 2) (Y : Lay w mg mb s.heap) (H : QAt prog w s.heap q) (hq : q.Ok) (hi : 0 ≤ i ∧ i ≤ q.most)
    (hQ : ∀ t h' tk, Kp s.heap h' → Q (.int (q.prev i) t) { s with heap := h', toks := tk }) :
    wpAny (model prog w) (AN dp un fr gd) (call (.ref 313) [.ref q.x, .int i ti]) Q E s := by
  refine wpAny_call ?_
  refine' enterA (binds := [(Str.ofString "self", .ref q.x), (Str.ofString "slot", .int i ti)]) R Y ?k1 ?k2 ?k3 ?k4 ?_ ?k5 ?k6 ?k7 ?k8
  case k1 => k_is
  case k2 => k_is
  case k3 => exact BindsTo.of_eq rfl
  case k4 => exact locs rfl
  case k5 => decide
  case k6 => exact rfl
  case k7 => exact rfl
  case k8 => exact rfl
  intro L h₁ F N R'
  have X := Y.X
  have T := Y.T
  show wpAny _ _ _ _ _ _
  k_fold
  have := hq.most0
  repeat' (first | (k_unfold; (try dsimp only)) | walk1 | (dsimp only; walk1))
  rw [Qd.fmod_prev hi.1 hi.2]
  exact hQ _ _ _ (Fr.keep (by k_asm))
set_option maxHeartbeats 0 in
theorem c_count {Q : Value → Shared → Prop} (R : Rm (AN dp un fr gd) 2) (Y : Lay w mg mb s.heap) (H : QAt prog w s.heap q) (hq : q.Ok)
    (hQ : ∀ t h' tk, Kp s.heap h' → Q (.int q.cnt t) { s with heap := h', toks := tk }) :
    wpAny (model prog w) (AN dp un fr gd) (call (.ref 320) [.ref q.x]) Q E s := by
  refine wpAny_call ?_
  refine' enterA (binds := [(Str.ofString "self", .ref q.x)]) R Y ?k1 ?k2 ?k3 ?k4 ?_ ?k5 ?k6 ?k7 ?k8
  case k1 => k_is
  case k2 => k_is
  case k3 => exact BindsTo.of_eq rfl
  case k4 => exact locs rfl
  case k5 => decide
  case k6 => exact rfl
  case k7 => exact rfl
  case k8 => exact rfl
  intro L h₁ F N R'
  have X := Y.X
  have T := Y.T
  show wpAny _ _ _ _ _ _
  k_fold
  have := hq.most0
  repeat' (first | (k_unfold; (try dsimp only)) | walk1 | (dsimp only; walk1))
  rw [Qd.fmod_cnt hq]
  exact hQ _ _ _ (Fr.keep (by k_asm))
set_option maxHeartbeats 0 in
theorem c_is_empty {Q : Value → Shared → Prop} (R : Rm (AN dp un fr gd) 2) (Y : Lay w mg mb s.heap) (H : QAt prog w s.heap q)
    (hQ : ∀ h' tk, Kp s.heap h' → Q (.bool (q.hd == q.tl)) { s with heap := h', toks := tk }) :
    wpAny (model prog w) (AN dp un fr gd) (call (.ref 327) [.ref q.x]) Q E s := by
  refine wpAny_call ?_
  refine' enterA (binds := [(Str.ofString "self", .ref q.x)]) R Y ?k1 ?k2 ?k3 ?k4 ?_ ?k5 ?k6 ?k7 ?k8
  case k1 => k_is
  case k2 => k_is
  case k3 => exact BindsTo.of_eq rfl
  case k4 => exact locs rfl
  case k5 => decide
  case k6 => exact rfl
  case k7 => exact rfl
  case k8 => exact rfl
  intro L h₁ F N R'
  have X := Y.X
  have T := Y.T
  show wpAny _ _ _ _ _ _
  k_fold
  repeat' (first | (k_unfold; (try dsimp only)) | walk1 | (dsimp only; walk1))
  exact hQ _ _ (Fr.keep (by k_asm))
end
theorem kw_f_3 : True := by
  k_with "call ref" => ((with_reducible show wpAny _ _ (call (Value.ref 306) _) _ _ _); k_dflt (refine' c_onward (by walk_at "my rm") (by walk_at "my lay") (by walk_at "my q") (by assumption) (by walk_at "my place") ?_; intro _; walk_at "my after"))
  k_with "call ref" => ((with_reducible show wpAny _ _ (call (Value.ref 313) _) _ _ _); k_dflt (refine' c_back (by walk_at "my rm") (by walk_at "my lay") (by walk_at "my q") (by assumption) (by walk_at "my place") ?_; intro _; walk_at "my after"))
  k_with "call ref" => ((with_reducible show wpAny _ _ (call (Value.ref 320) _) _ _ _); k_dflt (refine' c_count (by walk_at "my rm") (by walk_at "my lay") (by walk_at "my q") (by assumption) ?_; intro _; walk_at "my after"))
  k_with "call ref" => ((with_reducible show wpAny _ _ (call (Value.ref 327) _) _ _ _); k_dflt (refine' c_is_empty (by walk_at "my rm") (by walk_at "my lay") (by walk_at "my q") ?_; walk_at "my after"))
  exact trivial
section
variable {prog : Program} {w : World} {A : Around} {E : Value → Shared → Prop} {s : Shared} {mg mb : Str → Option Value} {h₀ : Heap} {L : Addr} {m : Str → Option Value} {q : Qd} {dp un : Nat} {fr : Option (List Env)} {gd : Option (List Code)}
set_option maxHeartbeats 0 in
theorem c_is_full {Q : Value → Shared → Prop} (R : Rm (AN dp un fr gd) 3) (Y : Lay w mg mb s.heap) (H : QAt prog w s.heap q) (hq : q.Ok)
    (hQ : ∀ h' tk, Kp s.heap h' → Q (.bool (q.next q.hd == q.tl)) { s with heap := h', toks := tk }) :
    wpAny (model prog w) (AN dp un fr gd) (call (.ref 334) [.ref q.x]) Q E s := by
  refine wpAny_call ?_
  refine' enterA (binds := [(Str.ofString "self", .ref q.x)]) R Y ?k1 ?k2 ?k3 ?k4 ?_ ?k5 ?k6 ?k7 ?k8
  case k1 => k_is
  case k2 => k_is
  case k3 => exact BindsTo.of_eq rfl
  case k4 => exact locs rfl
  case k5 => decide
  case k6 => exact rfl
  case k7 => exact rfl
  case k8 => exact rfl
  intro L h₁ F N R'
  have X := Y.X
  have T := Y.T
  show wpAny _ _ _ _ _ _
  k_fold
  have := hq.most0
  repeat' (first | (k_unfold; (try dsimp only)) | walk1 | (dsimp only; walk1))
  exact hQ _ _ (Fr.keep (by k_asm))
noncomputable def Qd.nxt (q : Qd) : Int := if (q.kind == Str.ofString "queue") = true then q.tl else q.prev q.hd
set_option maxHeartbeats 0 in
theorem c_next_slot {Q : Value → Shared → Prop} (R : Rm (AN dp un fr gd) 3) (Y : Lay w mg mb s.heap) (H : QAt prog w s.heap q) (hq : q.Ok)
    (hQ0 : q.hd = q.tl → ∀ h' tk, Kp s.heap h' → Q .none { s with heap := h', toks := tk })
    (hQ1 : q.hd ≠ q.tl → ∀ t h' tk, Kp s.heap h' → Q (.int q.nxt t) { s with heap := h', toks := tk }) :
    wpAny (model prog w) (AN dp un fr gd) (call (.ref 348) [.ref q.x]) Q E s := by
  refine wpAny_call ?_
  refine' enterA (binds := [(Str.ofString "self", .ref q.x)]) R Y ?k1 ?k2 ?k3 ?k4 ?_ ?k5 ?k6 ?k7 ?k8
  case k1 => k_is
  case k2 => k_is
  case k3 => exact BindsTo.of_eq rfl
  case k4 => exact locs rfl
  case k5 => decide
  case k6 => exact rfl
  case k7 => exact rfl
  case k8 => exact rfl
  intro L h₁ F N R'
  have X := Y.X
  have T := Y.T
  show wpAny _ _ _ _ _ _
  k_fold
  repeat' (first | (k_unfold; (try dsimp only)) | walk1 | (dsimp only; walk1))
  all_goals try dsimp only
  · exact hQ0 (by assumption) _ _ (Fr.keep (by k_asm))
  · rw [show q.tl = q.nxt by simp only [Qd.nxt, *, if_true]]
    exact hQ1 (by assumption) _ _ _ (Fr.keep (by k_asm))
  · rw [show q.prev q.hd = q.nxt by simp only [Qd.nxt, *, Bool.false_eq_true, if_false]]
    exact hQ1 (by assumption) _ _ _ (Fr.keep (by k_asm))

theorem lookup_kvs {i : Int} {a : Addr} {b : Array UInt8} : ∀ {sl : List (Int × Addr × Array UInt8)}, sl.lookup i = some (a, b) → valueAt (kvsOf sl) i = some (.ref a)
  | [], h => by cases h
  | (j, c, d) :: r, h => by
    rw [List.lookup_cons] at h
    by_cases e : i = j
    · subst e
      simp at h
      obtain ⟨rfl, rfl⟩ := h
      simp [kvsOf, valueAt]
    · have e' : (i == j) = false := beq_eq_false_iff_ne.mpr e
      rw [e'] at h
      have := lookup_kvs h
      simp only [kvsOf, valueAt, List.map_cons, List.find?_cons] at this ⊢
      simp [Ne.symm e] at this ⊢
      exact this
theorem mem_of_lookup {i : Int} {x : Addr × Array UInt8} : ∀ {sl : List (Int × Addr × Array UInt8)}, sl.lookup i = some x → (i, x) ∈ sl
  | [], h => by cases h
  | (j, c) :: r, h => by
    rw [List.lookup_cons] at h
    by_cases e : i = j
    · subst e
      simp at h
      subst h
      exact .head _
    · have e' : (i == j) = false := beq_eq_false_iff_ne.mpr e
      rw [e'] at h
      exact .tail _ (mem_of_lookup h)
theorem QAt.ba {h : Heap} {i : Int} {a : Addr} {b : Array UInt8} (H : QAt prog w h q) (hl : q.sl.lookup i = some (a, b)) : h.get? a = some (baObj b) := by
  obtain ⟨qs, x, y⟩ := H
  cases x with
  | mk t n ov hv lo => exact y (a, baObj b) (.tail _ (.tail _ (.tail _ (List.mem_map.mpr ⟨_, mem_of_lookup hl, rfl⟩))))
theorem QAt.dict {h : Heap} (H : QAt prog w h q) : h.DictOf (intKind prog w) q.vd (kvsOf q.sl) ∧ (q.vd == sysModules) = false := by
  obtain ⟨qs, x, y⟩ := H
  cases x with
  | mk t n ov hv lo => exact ⟨Heap.dictOf_iff.mpr ⟨ov, y _ (.tail _ (.tail _ (.head _))), hv⟩, lo⟩
theorem q_item {i : Int} {ti : Tok} {a : Addr} {b : Array UInt8} {value slice : PySem.Expr} {Q : Value → Shared → Prop} (H : QAt prog w s.heap q) (hl : q.sl.lookup i = some (a, b)) (h : Q (.ref a) { s with toks := s.toks + 1 })
    (hs : subscripted slice false (.ref q.vd) (.int i ti) = operate [.ref q.vd, .int i ti] (getItem (.ref q.vd) (.int i ti))) (hg : ∀ r, letTemporaryGo value (.ref q.vd) r = pure ()) :
    wpAny (model prog w) A (subscriptTail value slice (.ref q.vd) (.int i ti)) Q E s :=
  have hD := H.dict.1
  subscriptTail_builtin hD.typeIs slot_dict_getitem.lookup (wpAny_getItem_of (intKind_is _ _ _ _) hD.mapOf (lookup_kvs hl) h) hs hg
end
theorem kw_f_4 : True := by
  k_with "my slot" => (first | assumption | solve_by_elim)
  k_with "my size" => (first | assumption | (rw [sizeLine_eq]; omega))
  k_with "subscriptTail" => ((with_reducible show wpAny _ _ (subscriptTail _ _ (Value.ref (Qd.vd _)) (Value.int _ _)) _ _ _); refine' q_item (by walk_at "my q") (by walk_at "my slot") ?_ (by with_unfolding_all rfl) (by (intro _; with_unfolding_all rfl)))
  k_with "call type:bytes" => ((with_reducible show wpAny _ _ (call (Value.type "bytes") [Value.ref _]) _ _ _); refine' bytes_of_ba (QAt.ba (by walk_at "my q") (by walk_at "my slot")) (by walk_at "my size") ?_; intro _ _)
  k_with "call ref" => ((with_reducible show wpAny _ _ (call (Value.ref 334) _) _ _ _); k_dflt (refine' c_is_full (by walk_at "my rm") (by walk_at "my lay") (by walk_at "my q") (by assumption) ?_; walk_at "my after"))
  k_with "call ref" => ((with_reducible show wpAny _ _ (call (Value.ref 348) _) _ _ _); k_dflt ((focus (refine' c_next_slot (by walk_at "my rm") (by walk_at "my lay") (by walk_at "my q") (by assumption) ?_ ?_; (focus (intro _; walk_at "my after")); rotate_left; (focus (intro _ _; walk_at "my after"))))))
  exact trivial
section
variable {prog : Program} {w : World} {A : Around} {E : Value → Shared → Prop} {s : Shared} {mg mb : Str → Option Value} {h₀ : Heap} {L : Addr} {m : Str → Option Value} {q : Qd} {dp un : Nat} {fr : Option (List Env)} {gd : Option (List Code)}
set_option maxHeartbeats 0 in
theorem c_peek {pa : Addr} {pb : Array UInt8} {Q : Value → Shared → Prop} (R : Rm (AN dp un fr gd) 4) (Y : Lay w mg mb s.heap) (H : QAt prog w s.heap q) (hq : q.Ok)
    (hs : q.hd ≠ q.tl → q.sl.lookup q.nxt = some (pa, pb)) (hz : pb.size ≤ sizeLine)
    (hQ0 : q.hd = q.tl → ∀ h' tk, Kp s.heap h' → Q .none { s with heap := h', toks := tk })
    (hQ1 : q.hd ≠ q.tl → ∀ t h' tk, Kp s.heap h' → Q (.bytes pb t) { s with heap := h', toks := tk }) :
    wpAny (model prog w) (AN dp un fr gd) (call (.ref 355) [.ref q.x]) Q E s := by
  refine wpAny_call ?_
  refine' enterA (binds := [(Str.ofString "self", .ref q.x)]) R Y ?k1 ?k2 ?k3 ?k4 ?_ ?k5 ?k6 ?k7 ?k8
  case k1 => k_is
  case k2 => k_is
  case k3 => exact BindsTo.of_eq rfl
  case k4 => exact locs rfl
  case k5 => decide
  case k6 => exact rfl
  case k7 => exact rfl
  case k8 => exact rfl
  intro L h₁ F N R'
  have X := Y.X
  have T := Y.T
  show wpAny _ _ _ _ _ _
  k_fold
  repeat' (first | (k_unfold; (try dsimp only)) | walk1 | (dsimp only; walk1))
  all_goals try dsimp only
  all_goals first
    | exact hQ0 (by assumption) _ _ (Fr.keep (by k_asm))
    | exact hQ1 (by assumption) _ _ _ (Fr.keep (by k_asm))
end

/-- the places in turn, eldest first -/
noncomputable def Qd.ups (q : Qd) (k : Nat) : List Int := (List.range k).map fun (i : Nat) => q.place (i : Int)
theorem Qd.ups_succ (q : Qd) (k : Nat) : q.ups (k + 1) = q.ups k ++ [q.place (k : Int)] := by simp [Qd.ups, List.range_succ]
theorem Qd.ups_length (q : Qd) (k : Nat) : (q.ups k).length = k := by simp [Qd.ups]
noncomputable def Qd.turnList (q : Qd) : List Int := if (q.kind == Str.ofString "queue") = true then q.ups q.cnt.toNat else (q.ups q.cnt.toNat).reverse
theorem Qd.cnt_le {q : Qd} (hq : q.Ok) : 0 ≤ q.cnt ∧ q.cnt ≤ q.most := by
  obtain ⟨a, b, c, d, e, f, _⟩ := hq
  unfold Qd.cnt; split <;> omega
theorem Qd.place_zero (q : Qd) (hq : q.Ok) : q.place 0 = q.tl := by
  have := hq.tl1
  unfold Qd.place; split <;> omega
theorem Qd.place_in {q : Qd} (hq : q.Ok) {k : Int} (h0 : 0 ≤ k) (h1 : k ≤ q.most) : 0 ≤ q.place k ∧ q.place k ≤ q.most := by
  obtain ⟨a, b, c, d, e, f, _⟩ := hq
  unfold Qd.place; split <;> omega
theorem Qd.next_place {q : Qd} (hq : q.Ok) {k : Int} (h0 : 0 ≤ k) (h1 : k < q.most) : q.next (q.place k) = q.place (k + 1) := by
  obtain ⟨a, b, c, d, e, f, _⟩ := hq
  unfold Qd.place Qd.next; split <;> split <;> split <;> omega
theorem Qd.place_hd {q : Qd} (hq : q.Ok) {k : Int} (h0 : 0 ≤ k) (h1 : k ≤ q.cnt) : q.place k = q.hd ↔ k = q.cnt := by
  have hc := Qd.cnt_le hq
  obtain ⟨a, b, c, d, e, f, _⟩ := hq
  unfold Qd.place Qd.cnt at *; split <;> split <;> (constructor <;> intro) <;> (split at hc) <;> (split at h1) <;> omega

theorem kw_f_5 : True := by
  k_with "eval Name" => ((with_reducible show wpAny _ _ (eval (Expr.Name _ _) (envOf _ _ _ _ _)) _ _ _); k_dflt (refine' ld (by k_asm) (by assumption) ?_; k_whole))
  k_with "call builtin:list.append" => ((with_reducible show wpAny _ _ (call (Value.builtin "list.append") [Value.ref _, _]) _ _ _); k_dflt (refine' append_K (by k_asm) (by k_asm) (by k_upd) ?_ (by assumption); k_whole); intro _ _ _; (try k_sweep))
  exact trivial
section
variable {prog : Program} {w : World} {A : Around} {E : Value → Shared → Prop} {s : Shared} {mg mb : Str → Option Value} {h₀ : Heap} {L : Addr} {m : Str → Option Value} {q : Qd} {dp un : Nat} {fr : Option (List Env)} {gd : Option (List Code)}
set_option maxHeartbeats 0 in
theorem c_slots_in_turn {Q : Value → Shared → Prop} (R : Rm (AN dp un fr gd) 4) (Y : Lay w mg mb s.heap) (H : QAt prog w s.heap q) (hq : q.Ok)
    (hQ : ∀ r vs c h' tk, Kp s.heap h' → s.heap.get? r = none → h'.get? r = some (W.listOf (List.toArray vs) c) → IntsAre vs q.turnList → Q (.ref r) { s with heap := h', toks := tk }) :
    wpAny (model prog w) (AN dp un fr gd) (call (.ref 369) [.ref q.x]) Q E s := by
  refine wpAny_call ?_
  refine' enterA (binds := [(Str.ofString "self", .ref q.x)]) R Y ?k1 ?k2 ?k3 ?k4 ?_ ?k5 ?k6 ?k7 ?k8
  case k1 => k_is
  case k2 => k_is
  case k3 => exact BindsTo.of_eq rfl
  case k4 => exact locs rfl
  case k5 => decide
  case k6 => exact rfl
  case k7 => exact rfl
  case k8 => exact rfl
  intro L h₁ F N R'
  have X := Y.X
  have T := Y.T
  show wpAny _ _ _ _ _ _
  k_fold
  repeat' ((fail_if_success (first | (with_reducible show Exists _) | (with_reducible show wpAny _ _ (exec (Stmt.While _ _ _ _) _) _ _ _) | (with_reducible show wpAny _ _ (exec (Stmt.For _ _ _ _ _) _) _ _ _) | (with_reducible show wpAny _ _ (eval (Expr.ListComp _ _ _ _) _) _ _ _))); first | (k_unfold; (try dsimp only)) | walk1 | (dsimp only; walk1))
  rename_i l _ _ ts D _ _ _ _ h1 F1 N1
  have N2 : News s.heap L h1 [(l, W.listOf (List.toArray []) 0)] := fun p hp => N1 p (.tail _ hp)
  clear N1
  refine wpX.any (my_While (fun n s' => (Ex7 fun h tk v t c vs m' => All9 (s' = { s with heap := h, toks := tk }) (n ≤ q.cnt.toNat) (v = q.place ((q.cnt.toNat - n : Nat) : Int)) (IntsAre vs (q.ups (q.cnt.toNat - n))) (Fr s.heap L h m') (m' (Str.ofString "slot") = some (.int v t)) (m' (Str.ofString "found") = some (.ref l)) (m' (Str.ofString "self") = some (.ref q.x)) (News s.heap L h [(l, W.listOf (List.toArray vs) c)]))) q.cnt.toNat ?init ?turn)
  case init =>
    refine ⟨_, _, q.tl, ts, 0, [], _, rfl, Nat.le_refl _, ?_, by simpa [Qd.ups] using IntsAre.nil, F1, rfl, rfl, rfl, N2⟩
    simp [Qd.place_zero q hq]
  case turn =>
    rintro n s' ⟨h, tk, v, t, c, vs, m', rfl, hn, hv, hi, F, hm1, hm2, hm3, N⟩
    clear F1 N2
    have hn' : 0 ≤ v ∧ v ≤ q.most := by rw [hv]; exact Qd.place_in hq (by omega) (by have := Qd.cnt_le hq; omega)
    refine wpX.of ?_
    repeat' ((fail_if_success (first | (with_reducible show Exists _) | (with_reducible show wpAny _ _ (exec (Stmt.While _ _ _ _) _) _ _ _) | (with_reducible show wpAny _ _ (exec (Stmt.For _ _ _ _ _) _) _ _ _) | (with_reducible show wpAny _ _ (eval (Expr.ListComp _ _ _ _) _) _ _ _) | (with_reducible show wpAny _ _ (subscriptTail _ (PySem.Expr.Slice _ _ _ _) _ _) _ _ _))); first | (k_unfold; (try dsimp only)) | walk1 | (dsimp only; walk1))
    all_goals (try dsimp only)
    · have hz : (List.toArray vs).size ≤ sizeLine := by
        rw [List.size_toArray, hi.length, Qd.ups_length, sizeLine_eq]
        have := Qd.cnt_le hq; have := hq.most1; omega
      have e : v ≠ q.hd := by assumption
      rw [hv, Ne, Qd.place_hd hq (by omega) (by have := Qd.cnt_le hq; omega)] at e
      refine wpX.of ?_
      repeat' ((fail_if_success (first | (with_reducible show Exists _) | (with_reducible show wpAny _ _ (exec (Stmt.While _ _ _ _) _) _ _ _) | (with_reducible show wpAny _ _ (exec (Stmt.For _ _ _ _ _) _) _ _ _) | (with_reducible show wpAny _ _ (eval (Expr.ListComp _ _ _ _) _) _ _ _))); first | (k_unfold; (try dsimp only)) | walk1 | (dsimp only; walk1))
      all_goals (try dsimp only)
      rename Fr _ _ _ _ => F2
      rename News _ _ _ _ => N2
      have hc := Qd.cnt_le hq
      have en : q.cnt.toNat - (n - 1) = (q.cnt.toNat - n) + 1 := by omega
      refine ⟨n - 1, by omega, _, _, q.next v, _, c + 1, vs ++ [.int v t], _, rfl, by omega, ?_, ?_, F2, rfl, hm2, hm3, ?_⟩
      · rw [en, hv, Qd.next_place hq (by omega) (by omega)]; congr 1
      · rw [en, Qd.ups_succ, ← hv]; exact hi.append (.cons _ _ .nil)
      · simpa only [List.push_toArray] using N2
    · have e : v = q.hd := by assumption
      rw [hv, Qd.place_hd hq (by omega) (by have := Qd.cnt_le hq; omega)] at e
      obtain rfl : n = 0 := by have := Qd.cnt_le hq; omega
      have ek : (q.kind == Str.ofString "queue") = true := by assumption
      refine hQ l vs c h _ F.keep (News.fresh N (.head _)) (News.get N (.head _)) ?_
      simpa only [Qd.turnList, ek, if_true, Nat.sub_zero] using hi
    · have e : v = q.hd := by assumption
      rw [hv, Qd.place_hd hq (by omega) (by have := Qd.cnt_le hq; omega)] at e
      obtain rfl : n = 0 := by have := Qd.cnt_le hq; omega
      have ek : (q.kind == Str.ofString "queue") = false := by assumption
      refine krv_ints (s := ⟨h, s.gens, s.drawn, _, s.os⟩) F N (News.isList N (.head _)) (IsPart.int _ _) hi ?_ (by with_unfolding_all rfl) (by intro _; with_unfolding_all rfl) ?_
      · intro D ws h' F' N' _ hw _
        refine hQ D ws 0 h' _ F'.keep (News.fresh N' (.head _)) (News.get N' (.head _)) ?_
        simpa only [Qd.turnList, ek, Bool.false_eq_true, if_false, Nat.sub_zero] using hw
      · rw [List.size_toArray, hi.length, Qd.ups_length, sizeLine_eq]
        have := Qd.cnt_le hq; have := hq.most1; omega
end

theorem News.add {h₀ h h' : Heap} {L r : Addr} {m : Str → Option Value} {o : Obj} {news : List (Addr × Obj)} (F : Fr h₀ L h m) (N : News h₀ L h' news) (hn : h.get? r = none) (hr : h'.get? r = some o) : News h₀ L h' ((r, o) :: news) := by
  intro p hp
  rcases List.mem_cons.mp hp with rfl | hp
  · refine ⟨hr, fun e => ?_, ?_⟩
    · obtain ⟨oL, _, _, hL, _⟩ := F.ns
      dsimp only at e
      rw [e] at hn; rw [hn] at hL; cases hL
    · cases e : h₀.get? r with
      | none => rfl
      | some o => rw [F.keep _ _ e] at hn; cases hn
  · exact N p hp
theorem kw_f_6 : True := by
  k_with "my new" => (intro _ _ k' n' o'; (try dsimp only at k'); (try dsimp only at n'); (have _ := Fr.keeps (by k_asm) k'); (have _ := News.add (by k_asm) (News.keeps (by k_asm) k') n' o'); (try k_sweep); clear k' n' o')
  k_with "call ref" => ((with_reducible show wpAny _ _ (call (Value.ref 355) _) _ _ _); k_dflt ((focus (refine' c_peek (by walk_at "my rm") (by walk_at "my lay") (by walk_at "my q") (by assumption) (by walk_at "my slot") (by walk_at "my size") ?_ ?_; (focus (intro _; walk_at "my after")); rotate_left; (focus (intro _ _; walk_at "my after"))))))
  k_with "call ref" => ((with_reducible show wpAny _ _ (call (Value.ref 369) _) _ _ _); k_dflt (refine' c_slots_in_turn (by walk_at "my rm") (by walk_at "my lay") (by walk_at "my q") (by assumption) ?_; intro _ _ _; walk_at "my new"; intro _))
  exact trivial

noncomputable def Holds (q : Qd) (rows : List (Array UInt8)) : Prop := (rows.length : Int) = q.cnt ∧ ∀ (k : Nat) (b : Array UInt8), rows[k]? = some b → ∃ a, q.sl.lookup (q.place (k : Int)) = some (a, b)
noncomputable def inTurn (kind : Str) (rows : List (Array UInt8)) : List (Array UInt8) := if (kind == Str.ofString "queue") = true then rows else rows.reverse
theorem inTurn_length (kind : Str) (rows : List (Array UInt8)) : (inTurn kind rows).length = rows.length := by unfold inTurn; split <;> simp
theorem Holds.len {q : Qd} {rows : List (Array UInt8)} (h : Holds q rows) : rows.length = q.cnt.toNat := by have := h.1; omega
theorem Qd.ups_get (q : Qd) (k i : Nat) (h : i < k) : (q.ups k)[i]? = some (q.place (i : Int)) := by
  unfold Qd.ups; rw [List.getElem?_map, List.getElem?_range h]; rfl
theorem Qd.turnList_length (q : Qd) : q.turnList.length = q.cnt.toNat := by unfold Qd.turnList; split <;> simp [Qd.ups_length]
theorem Holds.turn {q : Qd} {rows : List (Array UInt8)} (h : Holds q rows) (i : Nat) (k : Int) (hk : q.turnList[i]? = some k) : ∃ a b, q.sl.lookup k = some (a, b) ∧ (inTurn q.kind rows)[i]? = some b := by
  have hl := h.len
  have hi : i < q.cnt.toNat := by rw [← Qd.turnList_length]; exact (List.getElem?_eq_some_iff.mp hk).1
  unfold Qd.turnList at hk
  unfold inTurn
  split at hk <;> rename_i e
  · rw [if_pos e]
    rw [Qd.ups_get _ _ _ hi] at hk
    cases hk
    obtain ⟨b, hb⟩ : ∃ b, rows[i]? = some b := ⟨rows[i]'(by omega), List.getElem?_eq_getElem (by omega)⟩
    obtain ⟨a, ha⟩ := h.2 i b hb
    exact ⟨a, b, ha, hb⟩
  · rw [if_neg e]
    rw [List.getElem?_reverse (by rw [Qd.ups_length]; exact hi), Qd.ups_length, Qd.ups_get _ _ _ (by omega)] at hk
    cases hk
    obtain ⟨b, hb⟩ : ∃ b, rows[q.cnt.toNat - 1 - i]? = some b := ⟨rows[q.cnt.toNat - 1 - i]'(by omega), List.getElem?_eq_getElem (by omega)⟩
    obtain ⟨a, ha⟩ := h.2 _ b hb
    refine ⟨a, b, ha, ?_⟩
    rw [List.getElem?_reverse (by omega), hl]; exact hb
theorem Qd.Ok.size {q : Qd} (hq : q.Ok) {k : Int} {a : Addr} {b : Array UInt8} (h : q.sl.lookup k = some (a, b)) : b.size = q.wd.toNat := hq.sizes _ (mem_of_lookup h)

theorem kw_f_7 : True := by
  k_with "eval Name" => ((with_reducible show wpAny _ _ (eval (Expr.Name _ _) (compEnvC _ _ _ _)) _ _ _); k_dflt (first | (refine' nameC_L (by k_asm) (by rfl) ?_ (by rfl) (by rfl) (by decide); k_whole) | (refine' nameC_C (by rfl) (by exact CellAt.keeps (by assumption) (Fr.keep (by k_asm))) ?_ (by rfl) (by rfl) (by decide); k_whole) | (refine' nameC_K (by k_asm) (by k_asm) (by k_asm) (by k_is) ?_ (by rfl) (by rfl) (by rfl) (by decide); k_whole) | (refine' nameC_B (by k_asm) (by k_asm) (by k_asm) (by k_is) (by boot_fast) (by decide) ?_ (by rfl) (by rfl) (by rfl) (by rfl) (by decide); k_whole)))
  exact trivial
section
variable {prog : Program} {w : World} {A : Around} {E : Value → Shared → Prop} {s : Shared} {mg mb : Str → Option Value} {h₀ : Heap} {L : Addr} {m : Str → Option Value} {q : Qd} {dp un : Nat} {fr : Option (List Env)} {gd : Option (List Code)}
set_option maxHeartbeats 0 in
theorem c_entries {rows : List (Array UInt8)} {Q : Value → Shared → Prop} (R : Rm (AN dp un fr gd) 6) (Y : Lay w mg mb s.heap) (H : QAt prog w s.heap q) (hq : q.Ok) (hr : Holds q rows)
    (hQ : ∀ r vs c h' tk, Kp s.heap h' → s.heap.get? r = none → h'.get? r = some (PySem.W.listOf (List.toArray vs) c) → BytesAre vs (inTurn q.kind rows) → Q (.ref r) { s with heap := h', toks := tk }) :
    wpAny (model prog w) (AN dp un fr gd) (call (.ref 374) [.ref q.x]) Q E s := by
  refine wpAny_call ?_
  refine' enterAC (binds := [(Str.ofString "self", .ref q.x)]) R Y ?k1 ?k2 ?k3 ?k4 ?k5 ?_ ?k6 ?k7 ?k8
  case k1 => k_is
  case k2 => k_is
  case k3 => exact BindsTo.of_eq rfl
  case k4 => exact rfl
  case k5 => decide
  case k6 => exact rfl
  case k7 => exact rfl
  case k8 => exact rfl
  intro L h₁ tk0 cells F N Yc R'
  k_cells Yc
  have X := Y.X
  have T := Y.T
  show wpAny _ _ _ _ _ _
  k_fold
  repeat' ((fail_if_success (first | (with_reducible show Exists _) | (with_reducible show wpAny _ _ (exec (Stmt.While _ _ _ _) _) _ _ _) | (with_reducible show wpAny _ _ (exec (Stmt.For _ _ _ _ _) _) _ _ _) | (with_reducible show wpAny _ _ (eval (Expr.ListComp _ _ _ _) _) _ _ _))); first | (k_unfold; (try dsimp only)) | walk1 | (dsimp only; walk1))
  refine wpX.any (my_ListComp (by intro _; rfl) (by with_unfolding_all rfl) rfl (by decide) (by decide) rfl ?_)
  repeat' ((fail_if_success (first | (with_reducible show Exists _) | (with_reducible show wpAny _ _ (exec (Stmt.While _ _ _ _) _) _ _ _) | (with_reducible show wpAny _ _ (exec (Stmt.For _ _ _ _ _) _) _ _ _) | (with_reducible show wpAny _ _ (eval (Expr.ListComp _ _ _ _) _) _ _ _))); first | (k_unfold; (try dsimp only)) | walk1 | (dsimp only; walk1))
  rename Fr _ _ _ _ => F1
  rename News _ _ _ _ => N1
  rename IntsAre _ _ => hI
  have hc1 := N1 _ (.tail _ (.head _))
  have hcell := (show CellAt _ _ (.ref q.x) from ⟨_, hc1.1, by assumption⟩)
  have hlen := hI.length
  rw [Qd.turnList_length] at hlen
  have hcn := Qd.cnt_le hq
  refine compOb_list rfl (News.get N1 (.head _)) (by rw [hlen, sizeLine_eq]; have := hq.most1; omega) [] (fun _ h => nomatch h) fun I D C h₃ hI0 hD0 hC0 k3 => ?_
  refine ⟨fun i ys _ => BytesAre ys ((inTurn q.kind rows).take i), .nil, fun _ _ _ _ h _ => h, ?_, ?_⟩
  · intro i ys v g h tk m hv hl Hg F kk hG
    obtain ⟨k, t, rfl, hk⟩ := IntsAre.at hI i v hv
    obtain ⟨a, b, hlk, hb⟩ := hr.turn i k hk
    have Hq := H.keeps fun b o e => Hg.get b o (F1.keep b o e) (fun h => nomatch h)
    have hcg := hcell.keeps fun b o e => Hg.get b o e (fun h => nomatch h)
    have Yg := Y.keeps fun b o e => Hg.get b o (F1.keep b o e) (fun h => nomatch h)
    have Xg := Yg.X
    have Tg := Yg.T
    have Ng : News g C h [] := News.nil
    have hz : b.size ≤ sizeLine := by rw [hq.size hlk, sizeLine_eq]; have := hq.wd1; omega
    clear hcell N1 hc1 F1 X T
    refine wpX.of ?_
    repeat' ((fail_if_success (first | (with_reducible show Exists _) | (with_reducible show wpAny _ _ (exec (Stmt.While _ _ _ _) _) _ _ _) | (with_reducible show wpAny _ _ (exec (Stmt.For _ _ _ _ _) _) _ _ _) | (with_reducible show wpAny _ _ (eval (Expr.ListComp _ _ _ _) _) _ _ _))); first | (k_unfold; (try dsimp only)) | walk1 | (dsimp only; walk1))
    refine ⟨h, _, rfl, fun _ _ e _ => e, ?_⟩
    show BytesAre _ _
    rw [List.take_add_one, hb]
    exact hG.append (.cons _ _ .nil)
  · intro ys c h tk hl hG kk hD
    refine hQ D ys c h tk (fun a o e => kk a o (F1.keep a o e) (fun h => nomatch h)) ?_ hD ?_
    · cases e : s.heap.get? D with
      | none => rfl
      | some o => rw [F1.keep _ _ e] at hD0; cases hD0
    · rwa [List.take_of_length_le (by rw [inTurn_length, hr.len, hlen]; exact Nat.le_refl _)] at hG
end

theorem kw_f_8 : True := by
  k_with "call ref" => ((with_reducible show wpAny _ _ (call (Value.ref 374) _) _ _ _); k_dflt (refine' c_entries (by walk_at "my rm") (by walk_at "my lay") (by walk_at "my q") (by assumption) (by assumption) ?_; intro _ _ _; walk_at "my new"; intro _))
  k_with "call type:tuple" => ((with_reducible show wpAny _ _ (call (Value.type "tuple") [Value.ref _]) _ _ _); refine' tuple_ofL (by k_asm) (by k_asm) (by kmk_list) ?_ (by (rw [BytesAre.length (by assumption), inTurn_length, sizeLine_eq]; have := Qd.cnt_le (by assumption); have := (show Qd.Ok _ by assumption).most1; have := (show Holds _ _ by assumption).len; omega)); intro _ _ _ _ k'; (try k_sweep); clear k')
  exact trivial
section
variable {prog : Program} {w : World} {A : Around} {E : Value → Shared → Prop} {s : Shared} {mg mb : Str → Option Value} {h₀ : Heap} {L : Addr} {m : Str → Option Value} {q : Qd} {dp un : Nat} {fr : Option (List Env)} {gd : Option (List Code)}
set_option maxHeartbeats 0 in
theorem c_slots {Q : Value → Shared → Prop} (R : Rm (AN dp un fr gd) 5) (Y : Lay w mg mb s.heap) (H : QAt prog w s.heap q) (hq : q.Ok)
    (hQ : ∀ r vs ns c h' tk, Kp s.heap h' → s.heap.get? r = none → h'.get? r = some (PySem.W.listOf (List.toArray vs) c) → IntsAre vs ns → ns.Perm q.turnList → ns.Pairwise (· ≤ ·) → Q (.ref r) { s with heap := h', toks := tk }) :
    wpAny (model prog w) (AN dp un fr gd) (call (.ref 381) [.ref q.x]) Q E s := by
  refine wpAny_call ?_
  refine' enterA (binds := [(Str.ofString "self", .ref q.x)]) R Y ?k1 ?k2 ?k3 ?k4 ?_ ?k5 ?k6 ?k7 ?k8
  case k1 => k_is
  case k2 => k_is
  case k3 => exact BindsTo.of_eq rfl
  case k4 => exact locs rfl
  case k5 => decide
  case k6 => exact rfl
  case k7 => exact rfl
  case k8 => exact rfl
  intro L h₁ F N R'
  have X := Y.X
  have T := Y.T
  show wpAny _ _ _ _ _ _
  k_fold
  have hc64 : q.turnList.length < 64 := by
    rw [Qd.turnList_length]; have := Qd.cnt_le hq; have := hq.most1; omega
  repeat' ((fail_if_success (first | (with_reducible show Exists _) | (with_reducible show wpAny _ _ (exec (Stmt.While _ _ _ _) _) _ _ _) | (with_reducible show wpAny _ _ (exec (Stmt.For _ _ _ _ _) _) _ _ _) | (with_reducible show wpAny _ _ (eval (Expr.ListComp _ _ _ _) _) _ _ _))); first | (k_unfold; (try dsimp only)) | walk1 | (dsimp only; walk1))
  rename News _ _ _ _ => N1
  exact hQ _ _ _ _ _ _ (Fr.keep (by assumption)) (News.fresh N1 (.head _)) (News.get N1 (.head _)) (by assumption) (by assumption) (by assumption)
end
section
variable {prog : Program} {w : World} {A : Around} {E : Value → Shared → Prop} {s : Shared} {mg mb : Str → Option Value} {h₀ : Heap} {L : Addr} {m : Str → Option Value} {q : Qd} {dp un : Nat} {fr : Option (List Env)} {gd : Option (List Code)}
set_option maxHeartbeats 0 in
theorem c_parts {rows : List (Array UInt8)} {Q : Value → Shared → Prop} (R : Rm (AN dp un fr gd) 7) (Y : Lay w mg mb s.heap) (H : QAt prog w s.heap q) (hq : q.Ok) (hr : Holds q rows)
    (hQ : ∀ r vs h' tk, Kp s.heap h' → s.heap.get? r = none → h'.get? r = some { cls := .type "tuple", data := .seq (List.toArray vs) } → BytesAre vs (inTurn q.kind rows) → Q (.ref r) { s with heap := h', toks := tk }) :
    wpAny (model prog w) (AN dp un fr gd) (call (.ref 409) [.ref q.x]) Q E s := by
  refine wpAny_call ?_
  refine' enterA (binds := [(Str.ofString "self", .ref q.x)]) R Y ?k1 ?k2 ?k3 ?k4 ?_ ?k5 ?k6 ?k7 ?k8
  case k1 => k_is
  case k2 => k_is
  case k3 => exact BindsTo.of_eq rfl
  case k4 => exact locs rfl
  case k5 => decide
  case k6 => exact rfl
  case k7 => exact rfl
  case k8 => exact rfl
  intro L h₁ F N R'
  have X := Y.X
  have T := Y.T
  show wpAny _ _ _ _ _ _
  k_fold
  repeat' ((fail_if_success (first | (with_reducible show Exists _) | (with_reducible show wpAny _ _ (exec (Stmt.While _ _ _ _) _) _ _ _) | (with_reducible show wpAny _ _ (exec (Stmt.For _ _ _ _ _) _) _ _ _) | (with_reducible show wpAny _ _ (eval (Expr.ListComp _ _ _ _) _) _ _ _))); first | (k_unfold; (try dsimp only)) | walk1 | (dsimp only; walk1))
  rename News _ _ _ _ => N1
  exact hQ _ _ _ _ (Fr.keep (by assumption)) (News.fresh N1 (.head _)) (News.get N1 (.head _)) (by assumption)
end
theorem kw_f_9 : True := by
  k_with "call ref" => ((with_reducible show wpAny _ _ (call (Value.ref 381) _) _ _ _); k_dflt (refine' c_slots (by walk_at "my rm") (by walk_at "my lay") (by walk_at "my q") (by assumption) ?_; intro _ _ _ _; walk_at "my new"; intro _ _ _))
  k_with "call ref" => ((with_reducible show wpAny _ _ (call (Value.ref 409) _) _ _ _); k_dflt (refine' c_parts (by walk_at "my rm") (by walk_at "my lay") (by walk_at "my q") (by assumption) (by assumption) ?_; intro _ _; walk_at "my new"; intro _))
  exact trivial
section
variable {prog : Program} {w : World} {A : Around} {E : Value → Shared → Prop} {s : Shared} {mg mb : Str → Option Value} {h₀ : Heap} {L : Addr} {m : Str → Option Value} {q : Qd} {dp un : Nat} {fr : Option (List Env)} {gd : Option (List Code)}
set_option maxHeartbeats 0 in
theorem c_told {rows : List (Array UInt8)} {Q : Value → Shared → Prop} (R : Rm (AN dp un fr gd) 8) (Y : Lay w mg mb s.heap) (H : QAt prog w s.heap q) (hq : q.Ok) (hr : Holds q rows)
    (hQ : ∀ r P vs t0 t1 t2 t3 t4 h' tk, Kp s.heap h' → s.heap.get? r = none → s.heap.get? P = none → h'.get? r = some { cls := .type "tuple", data := .seq #[.str q.kind t0, .int 3 t1, .int 0 t2, .int q.wd t3, .int q.most t4, .ref P] } →
      h'.get? P = some { cls := .type "tuple", data := .seq (List.toArray vs) } → BytesAre vs (inTurn q.kind rows) → Q (.ref r) { s with heap := h', toks := tk }) :
    wpAny (model prog w) (AN dp un fr gd) (call (.ref 271) [.ref q.x]) Q E s := by
  refine wpAny_call ?_
  refine' enterA (binds := [(Str.ofString "self", .ref q.x)]) R Y ?k1 ?k2 ?k3 ?k4 ?_ ?k5 ?k6 ?k7 ?k8
  case k1 => k_is
  case k2 => k_is
  case k3 => exact BindsTo.of_eq rfl
  case k4 => exact locs rfl
  case k5 => decide
  case k6 => exact rfl
  case k7 => exact rfl
  case k8 => exact rfl
  intro L h₁ F N R'
  have X := Y.X
  have T := Y.T
  show wpAny _ _ _ _ _ _
  k_fold
  repeat' ((fail_if_success (first | (with_reducible show Exists _) | (with_reducible show wpAny _ _ (exec (Stmt.While _ _ _ _) _) _ _ _) | (with_reducible show wpAny _ _ (exec (Stmt.For _ _ _ _ _) _) _ _ _) | (with_reducible show wpAny _ _ (eval (Expr.ListComp _ _ _ _) _) _ _ _))); first | (k_unfold; (try dsimp only)) | walk1 | (dsimp only; walk1))
  rename News _ _ _ _ => N1
  exact hQ _ _ _ _ _ _ _ _ _ _ (Fr.keep (by assumption)) (News.fresh N1 (.head _)) (News.fresh N1 (.tail _ (.head _))) (News.get N1 (.head _)) (News.get N1 (.tail _ (.head _))) (by assumption)
end
theorem kw_f_10 : True := by
  k_with "call type:bytes" => ((with_reducible show wpAny _ _ (call (Value.type "bytes") [Value.bytes _ _]) _ _ _); refine' bytes_of_bytes ?_)
  k_with "call builtin:len" => ((with_reducible show wpAny _ _ (call (Value.builtin "len") [Value.bytes _ _]) _ _ _); refine' len_bytes (by (first | assumption | (with_unfolding_all decide) | omega | (rw [sizeLine_eq] at *; omega))) ?_)
  exact trivial
section
variable {prog : Program} {w : World} {A : Around} {E : Value → Shared → Prop} {s : Shared} {mg mb : Str → Option Value} {h₀ : Heap} {L : Addr} {m : Str → Option Value} {q : Qd} {dp un : Nat} {fr : Option (List Env)} {gd : Option (List Code)}
set_option maxHeartbeats 0 in
theorem c_check_key {t : Tok} {Q : Value → Shared → Prop} (R : Rm (AN dp un fr gd) 1) (Y : Lay w mg mb s.heap) (H : QAt prog w s.heap q)
    (hQ : ∀ t h' tk, Kp s.heap h' → Q (.bytes #[] t) { s with heap := h', toks := tk }) :
    wpAny (model prog w) (AN dp un fr gd) (call (.ref 110) [.ref q.x, .bytes #[] t]) Q E s := by
  refine wpAny_call ?_
  refine' enterA (binds := [(Str.ofString "self", .ref q.x), (Str.ofString "key", .bytes #[] t)]) R Y ?k1 ?k2 ?k3 ?k4 ?_ ?k5 ?k6 ?k7 ?k8
  case k1 => k_is
  case k2 => k_is
  case k3 => exact BindsTo.of_eq rfl
  case k4 => exact locs rfl
  case k5 => decide
  case k6 => exact rfl
  case k7 => exact rfl
  case k8 => exact rfl
  intro L h₁ F N R'
  have X := Y.X
  have T := Y.T
  show wpAny _ _ _ _ _ _
  k_fold
  repeat' ((fail_if_success (first | (with_reducible show Exists _) | (with_reducible show wpAny _ _ (exec (Stmt.While _ _ _ _) _) _ _ _) | (with_reducible show wpAny _ _ (exec (Stmt.For _ _ _ _ _) _) _ _ _) | (with_reducible show wpAny _ _ (eval (Expr.ListComp _ _ _ _) _) _ _ _))); first | (k_unfold; (try dsimp only)) | walk1 | (dsimp only; walk1))
  exact hQ _ _ _ (Fr.keep (by k_asm))
set_option maxHeartbeats 0 in
theorem c_check_value {b : Array UInt8} {t : Tok} {Q : Value → Shared → Prop} (R : Rm (AN dp un fr gd) 1) (Y : Lay w mg mb s.heap) (H : QAt prog w s.heap q) (hb : (b.size : Int) = q.wd) (hz : b.size ≤ 1099511627776)
    (hQ : ∀ t h' tk, Kp s.heap h' → Q (.bytes b t) { s with heap := h', toks := tk }) :
    wpAny (model prog w) (AN dp un fr gd) (call (.ref 117) [.ref q.x, .bytes b t]) Q E s := by
  refine wpAny_call ?_
  refine' enterA (binds := [(Str.ofString "self", .ref q.x), (Str.ofString "octets", .bytes b t)]) R Y ?k1 ?k2 ?k3 ?k4 ?_ ?k5 ?k6 ?k7 ?k8
  case k1 => k_is
  case k2 => k_is
  case k3 => exact BindsTo.of_eq rfl
  case k4 => exact locs rfl
  case k5 => decide
  case k6 => exact rfl
  case k7 => exact rfl
  case k8 => exact rfl
  intro L h₁ F N R'
  have X := Y.X
  have T := Y.T
  show wpAny _ _ _ _ _ _
  k_fold
  repeat' ((fail_if_success (first | (with_reducible show Exists _) | (with_reducible show wpAny _ _ (exec (Stmt.While _ _ _ _) _) _ _ _) | (with_reducible show wpAny _ _ (exec (Stmt.For _ _ _ _ _) _) _ _ _) | (with_reducible show wpAny _ _ (eval (Expr.ListComp _ _ _ _) _) _ _ _))); first | (k_unfold; (try dsimp only)) | walk1 | (dsimp only; walk1))
  · exact absurd hb (by assumption)
  exact hQ _ _ _ (Fr.keep (by k_asm))
end
theorem kw_f_11 : True := by
  k_with "call ref" => ((with_reducible show wpAny _ _ (call (Value.ref 110) _) _ _ _); k_dflt (refine' c_check_key (by walk_at "my rm") (by walk_at "my lay") (by walk_at "my q") ?_; intro _; walk_at "my after"))
  k_with "call ref" => ((with_reducible show wpAny _ _ (call (Value.ref 117) _) _ _ _); k_dflt (refine' c_check_value (by walk_at "my rm") (by walk_at "my lay") (by walk_at "my q") (by assumption) (by assumption) ?_; intro _; walk_at "my after"))
  exact trivial
section
variable {prog : Program} {w : World} {A : Around} {E : Value → Shared → Prop} {s : Shared} {mg mb : Str → Option Value} {h₀ : Heap} {L : Addr} {m : Str → Option Value} {q : Qd} {dp un : Nat} {fr : Option (List Env)} {gd : Option (List Code)}
set_option maxHeartbeats 0 in
theorem c_lookup {t : Tok} {Q : Value → Shared → Prop} (R : Rm (AN dp un fr gd) 2) (Y : Lay w mg mb s.heap) (H : QAt prog w s.heap q)
    (hQ : ∀ h' tk, Kp s.heap h' → Q .none { s with heap := h', toks := tk }) :
    wpAny (model prog w) (AN dp un fr gd) (call (.ref 125) [.ref q.x, .bytes #[] t]) Q E s := by
  refine wpAny_call ?_
  refine' enter0 (binds := [(Str.ofString "self", .ref q.x), (Str.ofString "key", .bytes #[] t), (Str.ofString "processor", .int 0 340)]) R Y ?k1 ?k2 ?k3 ?k4 ?_ ?k5 ?k6 ?k7 ?k8
  case k1 => k_is
  case k2 => k_is
  case k3 => exact BindsTo.of_defaults rfl (Y.X _ _ (by k_is)) rfl rfl rfl
  case k4 => exact locs rfl
  case k5 => decide
  case k6 => exact rfl
  case k7 => exact rfl
  case k8 => exact rfl
  intro L h₁ F N R'
  have X := Y.X
  have T := Y.T
  show wpAny _ _ _ _ _ _
  k_fold
  repeat' ((fail_if_success (first | (with_reducible show Exists _) | (with_reducible show wpAny _ _ (exec (Stmt.While _ _ _ _) _) _ _ _) | (with_reducible show wpAny _ _ (exec (Stmt.For _ _ _ _ _) _) _ _ _) | (with_reducible show wpAny _ _ (eval (Expr.ListComp _ _ _ _) _) _ _ _))); first | (k_unfold; (try dsimp only)) | walk1 | (dsimp only; walk1))
  exact hQ _ _ (Fr.keep (by k_asm))
set_option maxHeartbeats 0 in
theorem c_delete {v : Value} {Q : Value → Shared → Prop} (R : Rm (AN dp un fr gd) 1) (Y : Lay w mg mb s.heap)
    (hQ : ∀ t h' tk, Kp s.heap h' → Q (.int (-22) t) { s with heap := h', toks := tk }) :
    wpAny (model prog w) (AN dp un fr gd) (call (.ref 154) [.ref q.x, v]) Q E s := by
  refine wpAny_call ?_
  refine' enterA (binds := [(Str.ofString "self", .ref q.x), (Str.ofString "key", v)]) R Y ?k1 ?k2 ?k3 ?k4 ?_ ?k5 ?k6 ?k7 ?k8
  case k1 => k_is
  case k2 => k_is
  case k3 => exact BindsTo.of_eq rfl
  case k4 => exact locs rfl
  case k5 => decide
  case k6 => exact rfl
  case k7 => exact rfl
  case k8 => exact rfl
  intro L h₁ F N R'
  have X := Y.X
  have T := Y.T
  show wpAny _ _ _ _ _ _
  k_fold
  repeat' ((fail_if_success (first | (with_reducible show Exists _) | (with_reducible show wpAny _ _ (exec (Stmt.While _ _ _ _) _) _ _ _) | (with_reducible show wpAny _ _ (exec (Stmt.For _ _ _ _ _) _) _ _ _) | (with_reducible show wpAny _ _ (eval (Expr.ListComp _ _ _ _) _) _ _ _))); first | (k_unfold; (try dsimp only)) | walk1 | (dsimp only; walk1))
  exact hQ _ _ _ (Fr.keep (by k_asm))
set_option maxHeartbeats 0 in
theorem c_keys {Q : Value → Shared → Prop} (R : Rm (AN dp un fr gd) 1) (Y : Lay w mg mb s.heap)
    (hQ : ∀ r h' tk, Kp s.heap h' → s.heap.get? r = none → h'.get? r = some (PySem.W.listOf (List.toArray []) 0) → Q (.ref r) { s with heap := h', toks := tk }) :
    wpAny (model prog w) (AN dp un fr gd) (call (.ref 182) [.ref q.x]) Q E s := by
  refine wpAny_call ?_
  refine' enterA (binds := [(Str.ofString "self", .ref q.x)]) R Y ?k1 ?k2 ?k3 ?k4 ?_ ?k5 ?k6 ?k7 ?k8
  case k1 => k_is
  case k2 => k_is
  case k3 => exact BindsTo.of_eq rfl
  case k4 => exact locs rfl
  case k5 => decide
  case k6 => exact rfl
  case k7 => exact rfl
  case k8 => exact rfl
  intro L h₁ F N R'
  have X := Y.X
  have T := Y.T
  show wpAny _ _ _ _ _ _
  k_fold
  repeat' ((fail_if_success (first | (with_reducible show Exists _) | (with_reducible show wpAny _ _ (exec (Stmt.While _ _ _ _) _) _ _ _) | (with_reducible show wpAny _ _ (exec (Stmt.For _ _ _ _ _) _) _ _ _) | (with_reducible show wpAny _ _ (eval (Expr.ListComp _ _ _ _) _) _ _ _))); first | (k_unfold; (try dsimp only)) | walk1 | (dsimp only; walk1))
  rename News _ _ _ _ => N1
  exact hQ _ _ _ (Fr.keep (by assumption)) (News.fresh N1 (.head _)) (News.get N1 (.head _))
set_option maxHeartbeats 0 in
theorem c_update {v b : Value} {i : Int} {t : Tok} {Q : Value → Shared → Prop} (R : Rm (AN dp un fr gd) 1) (Y : Lay w mg mb s.heap)
    (hQ : ∀ t h' tk, Kp s.heap h' → Q (.int (-22) t) { s with heap := h', toks := tk }) :
    wpAny (model prog w) (AN dp un fr gd) (call (.ref 133) [.ref q.x, v, b, .int i t]) Q E s := by
  refine wpAny_call ?_
  refine' enter0 (binds := [(Str.ofString "self", .ref q.x), (Str.ofString "key", v), (Str.ofString "octets", b), (Str.ofString "flags", .int i t), (Str.ofString "processor", .int 0 350)]) R Y ?k1 ?k2 ?k3 ?k4 ?_ ?k5 ?k6 ?k7 ?k8
  case k1 => k_is
  case k2 => k_is
  case k3 => exact BindsTo.of_defaults rfl (Y.X _ _ (by k_is)) rfl rfl rfl
  case k4 => exact locs rfl
  case k5 => decide
  case k6 => exact rfl
  case k7 => exact rfl
  case k8 => exact rfl
  intro L h₁ F N R'
  have X := Y.X
  have T := Y.T
  show wpAny _ _ _ _ _ _
  k_fold
  repeat' ((fail_if_success (first | (with_reducible show Exists _) | (with_reducible show wpAny _ _ (exec (Stmt.While _ _ _ _) _) _ _ _) | (with_reducible show wpAny _ _ (exec (Stmt.For _ _ _ _ _) _) _ _ _) | (with_reducible show wpAny _ _ (eval (Expr.ListComp _ _ _ _) _) _ _ _))); first | (k_unfold; (try dsimp only)) | walk1 | (dsimp only; walk1))
  exact hQ _ _ _ (Fr.keep (by k_asm))
end

section
variable {M : Model} {prog : Program} {w : World} {A : Around} {h : Heap} {g : Array GenState} {d : Drawn} {t : Nat} {os : OsState} {E : Value → Shared → Prop}
variable {nm q : Str} {C N : Addr} {bs bm : List Value} {hdct : Bool} {sn : List Str} {sub : List Value} {ab : Bool} {col : Option Bool} {dd : Option Addr} {k0 k1 k2 k3 k5 : Option Value}

theorem x_check_new {rest : List Value} {Q : Unit → Shared → Prop} (hB : (Value.ref C :: bm).contains (.type "Exception") = true) (hC : h.get? C = some (excClassObj nm q C N bs bm hdct sn sub ab col dd k0 k1 k2 k3 k5 "Exception.__new__"))
    (hq : Q () ⟨h, g, d, t, os⟩) : wpAny M A (checkBuiltinCall "Exception.__new__" ⟨.ref C :: rest, []⟩) Q E ⟨h, g, d, t, os⟩ := by
  have hstar := PySem.F.excBase_Exception.noStar
  simp only [checkBuiltinCall, PySem.F.excBase_Exception.newKind, PySem.F.excBase_Exception.newSplit, PySem.F.excBase_Exception.newRow]
  repeat (first | refine wpAny_loadPart_at hC ?_ | (refine wpAny_isSubtype_exc hC ?_; rw [hB]) | refine wpAny_staticBase_exc hC ?_ | refine wpAny_madeBy_exc hC ?_ | simp only [bne_self_eq_false, Bool.false_eq_true, if_false] | wp_step)
  exact hq
theorem x_new {R : Result → Shared → Prop} {rest : List Value} (hB : (Value.ref C :: bm).contains (.type "Exception") = true) (hA : (Value.ref C :: bm).contains (.type "AttributeError") = false) (hN : (Value.ref C :: bm).contains (.type "NameError") = false)
    (hC : h.get? C = some (excClassObj nm q C N bs bm hdct sn sub ab col dd k0 k1 k2 k3 k5 "Exception.__new__"))
    (hq : R (.ok (.ret (.ref (h.objs.size + 1)))) ⟨(h.push { cls := .type "tuple", data := .seq rest.toArray }).push
      { cls := .ref C, data := .fields #[.ref h.objs.size, .none, .none, .none, .bool false, .none] }, g, d, t, os⟩) (hrest : rest.length ≤ sizeLine := by size_fits) :
    codeAny (model prog w) A (.builtin "Exception.__new__" ⟨.ref C :: rest, []⟩) R ⟨h, g, d, t, os⟩ := by
  have hends := PySem.F.excBase_Exception.ends
  refine codeAny_builtinAt PySem.F.excBase_Exception.entry ?_
  unfold Builtin.«BaseException.__new__»
  refine PySem.wpAt_bind ?_
  show PySem.wpAt _ _ _ (stack >>= _) _ _ _
  refine PySem.wpAt_bind (PySem.wpAt_stack fun p below => PySem.wpAt_of_wpAny ?_)
  wp_walk
  refine PySem.wpAt_of_wpAny ?_
  rw [PySem.F.excBase_Exception.owner]
  repeat (first | with_reducible refine wpAny_madeHere_exc PySem.F.excBase_Exception.canon hC ?_ | with_reducible refine wpAny_loadPart_at hC ?_ | (with_reducible refine wpAny_isSubtype_exc hC ?_; first | rw [hB] | rw [hA] | rw [hN]) | wp_step)
  show R _ _
  rw [Heap.size_push]
  exact hq
/-- the class called, its __init__ a def found along the chain -/
theorem x_make {fI : Addr} {rest : List Value} {Q : Value → Shared → Prop} (hB : (Value.ref C :: bm).contains (.type "Exception") = true) (hA : (Value.ref C :: bm).contains (.type "AttributeError") = false) (hN : (Value.ref C :: bm).contains (.type "NameError") = false)
    (hC : h.get? C = some (excClassObj nm q C N bs bm hdct sn sub ab col dd k0 k1 k2 k3 k5 "Exception.__new__"))
    (hi : Looks (model prog w) h (typeLookup (.ref C) "__init__") (some (.ref fI))) (hb : ∀ self, Looks (model prog w) h (bindSpecial (.ref fI) self) (.ref fI, [self]))
    (hq : ∀ h' e, Heap.MadeExcOf h h' e (.ref C) rest →
      wpAny (model prog w) (A.under (.builtin "type.__call__" ⟨.ref C :: rest, []⟩)) (call (.ref fI) (.ref e :: rest)) (fun r s' => r = .none ∧ Q (.ref e) s') E ⟨h', g, d, t, os⟩) (hrest : rest.length ≤ sizeLine := by size_fits) :
    wpAny (model prog w) A (call (.ref C) rest) Q E ⟨h, g, d, t, os⟩ := by
  have f1 := tc_lookup
  have f2 := tc_bind (.ref C)
  have hT : (⟨h, g, d, t, os⟩ : Shared).TypeIs (.ref C) "type" := ⟨_, hC, rfl⟩
  refine wpAny_call (codeAny_of_tree ?_)
  show wpAny _ _ (callAny (.ref C) _) _ _ _
  repeat (any_goals (first | assumption | with_reducible refine wpAny_loadPart_at hC ?_ | wp_step))
  refine ⟨rfl, ?_⟩
  refine codeAny_call_builtin_at (Code.quiet_builtin _ (by decide +kernel)) entry_typeCall (wpAny_check_type_call_sub hC ?_)
  repeat (first | with_reducible refine wpAny_loadPart_at hC ?_ | with_reducible refine wpAny_madeBy_exc hC ?_ | wp_step)
  refine codeAny_call_builtin_code (Code.quiet_builtin _ PySem.F.excBase_Exception.quiet) (x_check_new hB hC ?_)
  refine x_new hB hA hN hC ?_ hrest
  show wpAny _ _ _ _ _ _
  have kp : ∀ b o, h.get? b = some o → ((h.push { cls := .type "tuple", data := .seq rest.toArray }).push { cls := .ref C, data := .fields #[.ref h.objs.size, .none, .none, .none, .bool false, .none] }).get? b = some o :=
    fun b o e => Heap.get?_push_of_some _ (Heap.get?_push_of_some _ e)
  have hC₁ := kp _ _ hC
  have hget : ((h.push { cls := .type "tuple", data := .seq rest.toArray }).push
      { cls := .ref C, data := .fields #[.ref h.objs.size, .none, .none, .none, .bool false, .none] }).get? (h.objs.size + 1) = some
      { cls := .ref C, data := .fields #[.ref h.objs.size, .none, .none, .none, .bool false, .none] } := by heap_get
  have hcC : (Value.ref C :: bm).contains (.ref C) = true := by simp
  have i1 := hi.keeps kp
  have b1 := (hb (.ref (h.objs.size + 1))).keeps kp
  unfold isInstance
  repeat (first | with_reducible refine wpAny_loadPart_at hget ?_ | (with_reducible refine wpAny_isSubtype_exc hC₁ ?_; rw [hcC]) | wp_step)
  refine wpAny_isSubtype_exc hC₁ ?_
  rw [hcC]
  repeat wp_step
  show wpAny _ _ (typeLookup (.ref C) _) _ _ _
  refine i1.here ?_
  refine wpAny_holding (wpAny_bind (b1.here ?_))
  refine wpAny_bind (wpAny_mono (hq _ (h.objs.size + 1) ⟨kp, Heap.get?_none_of_le (Nat.le_succ _), h.objs.size, hget, Heap.get?_none_of_le (Nat.le_refl _), ?_⟩) (fun r s' hr => ?_) fun _ _ x => x)
  · exact Heap.get?_push_of_some _ (Heap.get?_push_at rfl rfl)
  · obtain ⟨rfl, hQ⟩ := hr
    wp_walk
    exact hQ
end

noncomputable abbrev excObj (t : Addr) : Obj := { cls := .ref 59, data := .fields #[.ref t, .none, .none, .none, .bool false, .none] }
noncomputable abbrev excObjD (t D : Addr) : Obj := { cls := .ref 59, dict := some D, data := .fields #[.ref t, .none, .none, .none, .bool false, .none] }
section
variable {prog : Program} {w : World} {A : Around} {E : Value → Shared → Prop} {s : Shared} {mg mb : Str → Option Value} {h₀ : Heap} {L : Addr} {m : Str → Option Value} {q : Qd} {dp un : Nat} {fr : Option (List Env)} {gd : Option (List Code)}
theorem xi_meta : typeOf (.type "Exception") = pure (.type "type") := by first | rfl | kernel_rfl
noncomputable abbrev bm59 : List Value := [.ref 46, .type "Exception", .type "BaseException", .type "object"]
noncomputable abbrev mapErr : Obj := excClassObj (Str.ofString "MapError") (Str.ofString "MapError") 59 58 [.ref 46] bm59 true [] [] false none none (some (.ref 50)) none (some (.str (Str.ofString "MapError") 234)) (some (.str (Str.ofString "MapError") 242)) (some (.bool true)) "Exception.__new__"
theorem lay_59 {h : Heap} (X : (hd.heap_1 w.params).In h) : h.get? 59 = some mapErr := X 59 mapErr (by first | k_is | rfl)
theorem x_check_init {M : Model} {A : Around} {e : Addr} {oe : Obj} {rest : List Value} {Q : Unit → Shared → Prop} (hC : s.heap.get? 59 = some mapErr) (he : s.heap.get? e = some oe) (hcls : oe.cls = .ref 59) (hq : Q () s) :
    wpAny M A (checkBuiltinCall "Exception.__init__" ⟨.ref e :: rest, []⟩) Q E s := by
  obtain ⟨h, g, d, tk, os⟩ := s
  have hcB : (Value.ref 59 :: bm59).contains (.type "Exception") = true := by decide +kernel
  have hshort := PySem.F.excBase_Exception.noStar
  simp only [checkBuiltinCall, PySem.F.excBase_Exception.initKind, PySem.F.excBase_Exception.initSplit, PySem.F.excBase_Exception.initRow]
  repeat (first | (with_reducible refine wpAny_loadPart_at he ?_; rw [hcls]) | with_reducible refine wpAny_loadPart_at hC ?_ | (with_reducible refine wpAny_isSubtype_exc hC ?_; rw [hcB]) | wp_step)
  refine wpAny_onRaise ?_
  rw [show ∀ (a b : String) (n : Nat), Bind.check ⟨.positional, "*", "Exception", .self, [⟨"args", .varPos, false⟩]⟩ a b n (List.map (fun x => x.fst) ({ pos := Value.ref e :: rest } : Args).kw) = pure () from
    fun a b n => check_star_args _ _ _ _ _ _]
  exact wpAny_pure hq
theorem x_init {e t : Addr} {v : Value} {Q : Value → Shared → Prop} (X : (hd.heap_1 w.params).In s.heap) (he : s.heap.get? e = some (excObj t))
    (hq : ∀ h' t', (∀ b o, b ≠ e → s.heap.get? b = some o → h'.get? b = some o) → h'.get? e = some (excObj t') → s.heap.get? t' = none → Q .none { s with heap := h' }) :
    wpAny (model prog w) A (call (.builtin "Exception.__init__") [.ref e, v]) Q E s := by
  refine wpAny_call (codeAny_call_builtin PySem.F.excBase_Exception.init.plain PySem.F.excBase_Exception.initEntry (x_check_init (lay_59 X) he rfl ?_))
  obtain ⟨h, g, d, tk, os⟩ := s
  wp_walk
  refine hq _ h.objs.size (fun b o hb e' => ?_) ?_ (Heap.get?_none_of_le (Nat.le_refl _))
  · rw [Heap.get?_update_other _ _ (Ne.symm hb)]
    exact Heap.get?_push_of_some _ e'
  · rw [Heap.get?_update_self _ (Heap.get?_push_of_some _ he) rfl]
    rfl
open Builtin Builtin.ObjectAttr in
theorem refuse_59 (self : Value) : refuseLoop self "__setattr__" (.ref 59 :: bm59) = pure () := by
  rw [refuseLoop_ref, refuseLoop_ref]; exact PySem.F.store_Exception.passes self
open Builtin Builtin.ObjectAttr in
theorem x_osa {e : Addr} {oe : Obj} {name : Str} {tk : Tok} {v : Value} {R : Result → Shared → Prop} (X : (hd.heap_1 w.params).In s.heap) (he : s.heap.get? e = some oe) (hc : oe.cls = .ref 59) (hf : findIn (hd.heap_1 w.params) (.ref 59) name = some none)
    (h : wpAny (model prog w) A.in1 (storeInOwnDict (.ref e) (.ref 59) (.str name tk) name v false)
      (fun fin s' => match fin with | .done f => R (.ok f) s' | .again c' => c'.quiet = true ∧ codeAny (model prog w) A c' R s') (fun e s' => R (.error e) s') s) :
    codeAny (model prog w) A (.call (.builtin "object.__setattr__") ⟨[.ref e, .str name tk, v], []⟩) R s := by
  have SF := PySem.F.store_object
  have ty : Looks (model prog w) s.heap (typeOf (.ref e)) (.ref 59) := hc ▸ (Looks.ld (part := none) he).andThen .now
  have sub : Looks (model prog w) s.heap (isInstance (.ref e) (.type "object")) true := ty.andThen (looks_subIn X (show subIn (hd.heap_1 w.params) (.ref 59) (.type "object") = some true by k_is))
  refine codeAny_call_builtin SF.slot.plain SF.entry (@check_slot (model prog w) _ _ s "object.__setattr__" "object" "__setattr__" (.ref e) [.str name tk, v] [] _ SF.kind SF.split sub (SF.args (.ref e) (.str name tk) v) ?_)
  have hm : Looks (model prog w) s.heap (mroOf (.ref 59)) (.ref 59 :: bm59) := ((Looks.ld (part := none) (lay_59 X)).andThen .now).andThen .now
  rw [osa_eq, refuse_eq]
  refine wpAny_bind (wpAny_bind (ty.here (wpAny_bind (hm.here ?_))))
  rw [refuse_59]
  refine wpAny_pure (wpAny_bind (ty.here (wpAny_bind ((looks_findIn X hf).here (wpAny_bind ?_)))))
  exact wpAny_pure h
open Builtin Builtin.ObjectAttr in
theorem x_store {e : Addr} {name : Str} {v : Value} {mA : Str → Option Value} {ns : List Str} {Q : Unit → Shared → Prop} (X : (hd.heap_1 w.params).In s.heap) (I : s.heap.Inst e 59 mA) (hf : findIn (hd.heap_1 w.params) (.ref 59) name = some none)
    (hq : ∀ h' tk' o₀ o₁ D, h'.Inst e 59 (fun y => if y = name then some v else mA y) → (∀ b o, b ≠ e → b ≠ D → s.heap.get? b = some o → h'.get? b = some o) → s.heap.get? e = some o₀ → h'.get? e = some o₁ → o₁.cls = o₀.cls → o₁.data = o₀.data → o₁.dict = some D → (o₀.dict = some D ∨ o₀.dict = none ∧ s.heap.get? D = none) → Q () { s with heap := h', toks := tk' })
    (hw : Within mA ns) (hsz : ns.length ≤ 100) :
    wpAny (model prog w) A (setAttr (.ref e) name v) Q E s := by
  obtain ⟨o, hx, hc, hnc, hdd⟩ := I
  have ty : Looks (model prog w) s.heap (typeOf (.ref e)) (.ref 59) := hc ▸ (Looks.ld (part := none) hx).andThen .now
  have hs : findIn (hd.heap_1 w.params) (.ref 59) "__setattr__" = some (some (.builtin "object.__setattr__")) := by k_is
  refine wpAny_bind (wpAny_mkText (wpAny_bind (wpAny_bind (wpAny_bind (ty _ _ _ _ (fun _ _ e => e) (looks_findIn X hs _ _ _ _ (fun _ _ e => e) (wpAny_holding ?_)))))))
  rw [PySem.F.store_object.slot.bind]
  refine wpAny_bind (wpAny_pure (wpAny_bind (wpAny_call ?_)))
  refine x_osa (s := { s with toks := s.toks + 1 }) X hx hc hf ?_
  obtain ⟨h, g, d, tk, os⟩ := s
  dsimp only at hx hq
  dsimp only at X ty
  have hcd : Looks (model prog w) h (classData 59) _ := (Looks.ld (part := none) (lay_59 X)).andThen .now
  refine wpAny_bind (wpAny_pure (wpAny_bind (wpAny_bind (wpAny_loadPart_at hx ?_))))
  rw [hc]
  refine wpAny_bind (hcd.here ?_)
  rcases hdd with ⟨hdn, hmA⟩ | ⟨dx, hdx, hne, hns⟩
  · rw [hdn]
    have hx₁ : (h.push { cls := .type "dict", data := .dict #[] }).get? e = some o := Heap.get?_push_of_some _ hx
    have hxs : e ≠ h.objs.size := Nat.ne_of_lt (Heap.lt_size hx)
    first | rw [if_neg (by decide)] | rw [if_pos (by decide)]
    dsimp only
    rw [if_neg (by simp [typeHasDict])]
    split
    · rename_i c hcd'
      exact absurd hcd' (hnc c)
    · refine wpAny_bind (wpAny_alloc' ?_)
      refine wpAny_bind (wpAny_update' hx₁ ?_)
      refine wpAny_pure ?_
      have hgd : ((h.push { cls := .type "dict", data := .dict #[] }).update e fun o => { cls := o.cls, dict := some h.objs.size, data := o.data, slots := o.slots }).get? h.objs.size
          = some { cls := .type "dict", data := .dict #[] } :=
        (Heap.get?_update_ne _ _ _ _ hxs.symm).trans (Heap.get?_push_at rfl rfl)
      have hnd : ((h.push { cls := .type "dict", data := .dict #[] }).update e fun o => { cls := o.cls, dict := some h.objs.size, data := o.data, slots := o.slots }).Ns h.objs.size (fun _ => none) :=
        ⟨_, #[], _, hgd, rfl, fun e he => absurd he (by simp), fun _ => rfl⟩
      show wpAny _ _ (storeInDict h.objs.size (.str name (tk + 1)) name v) _ _ _
      unfold storeInDict newKeyGuard
      refine wpAny_bind (wpAny_pure (wpAny_bind (wpAny_nsSet1 (Heap.Ns1.of_empty hnd) fun h' hn' hs => ?_)))
      obtain ⟨oD, esD, epD, hoD, hdD, hcD⟩ := hn'.count (PySem.Within.cons name v PySem.Within.nil)
      refine wpAny_bind (wpAny_lookBehind hoD (by rw [hdD]; exact pastItsLine_dict (Nat.le_trans hcD (by rw [List.length_cons, List.length_nil, sizeLine_eq]; omega))) ?_)
      wp_walk
      have hx' : h'.get? e = some { cls := o.cls, dict := some h.objs.size, data := o.data, slots := o.slots } := by
        refine (hs.2 e hxs).trans (Heap.get?_update_self _ hx₁ ?_)
        have hfr := (Heap.get?_some_iff.mp hx).2
        obtain ⟨oc, od, odt, osl⟩ := o
        cases odt <;> first | rfl | exact hfr
      refine hq h' _ o _ h.objs.size ⟨{ cls := o.cls, dict := some h.objs.size, data := o.data, slots := o.slots }, hx', hc, hnc, .inr ⟨h.objs.size, rfl, hxs.symm, ?_⟩⟩ (fun b ob hbx hbD hb => ?_) hx hx' rfl rfl rfl (.inr ⟨hdn, Heap.get?_none_of_le (Nat.le_refl _)⟩)
      · obtain ⟨o', es, ep, e1, e2, e3, eu, e4⟩ := hn'
        exact ⟨o', es, ep, e1, e2, e3, eu, fun y => by rw [e4 y]; by_cases hy : y = name <;> simp [hy, hmA]⟩
      · exact (hs.2 b (Nat.ne_of_lt (Heap.lt_size hb))).trans ((Heap.get?_update_ne _ _ _ _ hbx).trans (Heap.get?_push_of_some _ hb))
  · rw [hdx]
    first | rw [if_neg (by decide)] | rw [if_pos (by decide)]
    refine wpAny_pure ?_
    show wpAny _ _ (storeInDict dx (.str name (tk + 1)) name v) _ _ _
    unfold storeInDict newKeyGuard
    refine wpAny_bind (wpAny_pure (wpAny_bind (wpAny_nsSet1 hns fun h' hn' hs => ?_)))
    obtain ⟨oD, esD, epD, hoD, hdD, hcD⟩ := hn'.count (PySem.Within.cons name v hw)
    refine wpAny_bind (wpAny_lookBehind hoD (by rw [hdD]; exact pastItsLine_dict (Nat.le_trans hcD (by rw [List.length_cons, sizeLine_eq]; omega))) ?_)
    wp_walk
    have hx' := (hs.2 e hne.symm).trans hx
    exact hq h' _ o o dx ⟨o, hx', hc, hnc, .inr ⟨dx, hdx, hne, hn'⟩⟩ (fun b ob _ hbd hb => (hs.2 b hbd).trans hb) hx hx' rfl rfl hdx (.inl hdx)
theorem fr_but {g h h' : Heap} {as : List Addr} (F : Fr g L h m) (hng : ∀ a ∈ as, g.get? a = none) (hnl : L ∉ as) (st : ∀ b o, b ∉ as → h.get? b = some o → h'.get? b = some o) : Fr g L h' m := by
  refine ⟨?_, fun b o e => st b o (fun hb => by rw [hng b hb] at e; cases e) (F.keep b o e), F.above⟩
  obtain ⟨oL, x, y, hL, c⟩ := F.ns
  exact ⟨oL, x, y, st _ _ hnl hL, c⟩
theorem fr_new {g h : Heap} {D : Addr} (F : Fr g L h m) (e : h.get? D = none) : g.get? D = none ∧ L ≠ D := by
  refine ⟨?_, fun q => ?_⟩
  · cases q : g.get? D with
    | none => rfl
    | some o => rw [F.keep _ _ q] at e; cases e
  · obtain ⟨oL, x, y, hL, c⟩ := F.ns
    rw [← q, hL] at e; cases e
set_option maxHeartbeats 0 in
theorem c_gate_init {e t : Addr} {x : Str} {tx : Tok} {Q : Value → Shared → Prop} {g₀ : Heap} (R : Rm (AN dp un fr gd) 3) (Y : Lay w mg mb g₀) (k : Kp g₀ s.heap)
    (K : ∀ p ∈ [(e, excObj t)], s.heap.get? p.1 = some p.2 ∧ g₀.get? p.1 = none)
    (hQ : ∀ t' oe h' tk, (∀ b o, b ≠ e → s.heap.get? b = some o → h'.get? b = some o) → h'.get? e = some oe → oe.cls = .ref 59 → oe.data = (excObj t').data → Q .none { s with heap := h', toks := tk }) :
    wpAny (model prog w) (AN dp un fr gd) (call (.ref 36) [.ref e, .str x tx]) Q E s := by
  have Xs := Y.X.keeps k
  refine wpAny_call ?_
  refine codeX.any ?_
  refine' enterX (b := false) (binds := [(Str.ofString "self", .ref e), (Str.ofString "what", .str x tx), (Str.ofString "at", .none)]) [(e, excObj t)] ?k0 R Y k ?k1 ?k2 ?k3 ?k4 ?_ ?k5 ?k6 ?k7 ?k8
  case k0 => exact K
  case k1 => k_is
  case k2 => k_is
  case k3 => exact BindsTo.of_defaults rfl (Xs _ _ (by k_is)) rfl rfl rfl
  case k4 => exact locs rfl
  case k5 => decide
  case k6 => exact rfl
  case k7 => exact rfl
  case k8 => exact rfl
  clear Y k
  intro L h₁ Y Hg F N R'
  change Lay w mg mb (hideAll s.heap [e]) at Y
  change Hid s.heap (hideAll s.heap [e]) [e] at Hg
  change Fr (hideAll s.heap [e]) L h₁ _ at F
  change News (hideAll s.heap [e]) L h₁ _ at N
  generalize hideAll s.heap [e] = g at Y Hg F N
  have X := Y.X
  have T := Y.T
  refine wpX.of ?_
  show wpAny _ _ _ _ _ _
  k_fold
  repeat' ((fail_if_success (first | (with_reducible show Exists _) | (with_reducible show wpAny _ _ (exec (Stmt.While _ _ _ _) _) _ _ _) | (with_reducible show wpAny _ _ (exec (Stmt.For _ _ _ _ _) _) _ _ _) | (with_reducible show wpAny _ _ (eval (Expr.ListComp _ _ _ _) _) _ _ _))); first | (k_unfold; (try dsimp only)) | walk1 | (dsimp only; walk1))
  refine method_type F X xi_meta (by decide +kernel) (by k_dflt k_is) (by k_handed) ?_
  repeat' ((fail_if_success (first | (with_reducible show Exists _) | (with_reducible show wpAny _ _ (exec (Stmt.While _ _ _ _) _) _ _ _) | (with_reducible show wpAny _ _ (exec (Stmt.For _ _ _ _ _) _) _ _ _) | (with_reducible show wpAny _ _ (eval (Expr.ListComp _ _ _ _) _) _ _ _))); first | (k_unfold; (try dsimp only)) | walk1 | (dsimp only; walk1))
  have he1 := News.get N (.head _)
  have hne := N _ (.head _)
  dsimp only at he1 hne
  refine x_init (X.keeps F.keep) he1 fun h2 t' st2 at2 fr2 => ?_
  have F2 : Fr g L h2 _ := fr_but (as := [e]) F (fun a ha => by rw [List.mem_singleton.mp ha]; exact hne.2.2) (fun ha => hne.2.1 (List.mem_singleton.mp ha).symm) (fun b o hb e' => st2 b o (fun q => hb (List.mem_singleton.mpr q)) e')
  clear N
  dsimp only
  repeat' ((fail_if_success (first | (with_reducible show Exists _) | (with_reducible show wpAny _ _ (exec (Stmt.While _ _ _ _) _) _ _ _) | (with_reducible show wpAny _ _ (exec (Stmt.For _ _ _ _ _) _) _ _ _) | (with_reducible show wpAny _ _ (eval (Expr.ListComp _ _ _ _) _) _ _ _))); first | (k_unfold; (try dsimp only)) | walk1 | (dsimp only; walk1))
  refine x_store (mA := fun _ => none) (ns := []) (X.keeps F2.keep) ⟨_, at2, rfl, (fun _ q => by cases q), .inl ⟨rfl, fun _ => rfl⟩⟩ (by k_is) (fun h3 tk3 o0 o1 D I3 st3 e0 e1 c1 d1 dd od => ?_) PySem.Within.nil (by decide)
  dsimp only at st3 e0 e1 od
  rw [at2] at e0
  cases e0
  have hD : h2.get? D = none := (od.resolve_left (fun q => by cases q)).2
  have hD' := fr_new F2 hD
  have F3 : Fr g L h3 _ := fr_but (as := [e, D]) F2 (fun a ha => by
    rcases List.mem_cons.mp ha with rfl | ha
    · exact hne.2.2
    · rw [List.mem_singleton.mp ha]; exact hD'.1) (fun ha => by
    rcases List.mem_cons.mp ha with ha | ha
    · exact hne.2.1 ha.symm
    · exact hD'.2 (List.mem_singleton.mp ha)) (fun b o hb e' => st3 b o (fun q => hb (q ▸ .head _)) (fun q => hb (q ▸ .tail _ (.head _))) e')
  dsimp only
  repeat' ((fail_if_success (first | (with_reducible show Exists _) | (with_reducible show wpAny _ _ (exec (Stmt.While _ _ _ _) _) _ _ _) | (with_reducible show wpAny _ _ (exec (Stmt.For _ _ _ _ _) _) _ _ _) | (with_reducible show wpAny _ _ (eval (Expr.ListComp _ _ _ _) _) _ _ _))); first | (k_unfold; (try dsimp only)) | walk1 | (dsimp only; walk1))
  refine x_store (ns := [Str.ofString "what"]) (X.keeps F3.keep) I3 (by k_is) (fun h4 tk4 o2 o3 D4 I4 st4 e2 e3 c3 d3 dd4 od4 => ?_) (PySem.Within.cons _ _ PySem.Within.nil) (by decide)
  dsimp only at st4 e2 e3 od4
  rw [e1] at e2
  cases e2
  have hDD : D4 = D := by
    rcases od4 with q | q
    · rw [dd] at q; exact (Option.some.inj q).symm
    · rw [dd] at q; cases q.1
  subst hDD
  dsimp only
  repeat' ((fail_if_success (first | (with_reducible show Exists _) | (with_reducible show wpAny _ _ (exec (Stmt.While _ _ _ _) _) _ _ _) | (with_reducible show wpAny _ _ (exec (Stmt.For _ _ _ _ _) _) _ _ _) | (with_reducible show wpAny _ _ (eval (Expr.ListComp _ _ _ _) _) _ _ _))); first | (k_unfold; (try dsimp only)) | walk1 | (dsimp only; walk1))
  refine hQ t' o3 h4 tk4 (fun b o hb e' => ?_) e3 (c3.trans c1) (d3.trans d1)
  have hg : g.get? b = some o := Hg.get b o e' (fun q => hb (List.mem_singleton.mp q))
  exact st4 b o hb (fun q => by subst q; rw [hD'.1] at hg; cases hg) (F3.keep b o hg)
set_option maxHeartbeats 0 in
theorem c_map_error {x : Str} {tx : Tok} {Q : Value → Shared → Prop} (R : Rm (AN dp un fr gd) 5) (Y : Lay w mg mb s.heap)
    (hQ : ∀ e t' oe h' tk, Kp s.heap h' → s.heap.get? e = none → h'.get? e = some oe → oe.cls = .ref 59 → oe.data = (excObj t').data → Q (.ref e) { s with heap := h', toks := tk }) :
    wpAny (model prog w) (AN dp un fr gd) (call (.ref 59) [.str x tx]) Q E s := by
  obtain ⟨hh, g, d, t, os⟩ := s
  have X := Y.X
  dsimp only at Y X hQ
  have hi : findIn (hd.heap_1 w.params) (.ref 59) "__init__" = some (some (.ref 36)) := by k_is
  have hf : typeIn (hd.heap_1 w.params) (.ref 36) = some (.type "function") := by k_is
  refine x_make (by decide +kernel) (by decide +kernel) (by decide +kernel) (lay_59 X) (looks_findIn X hi) (fun self => bind_fn X self hf) fun h' e M => ?_
  obtain ⟨t', he, ht, ht'⟩ := M.there
  refine c_gate_init (g₀ := hh) (t := t') ?_ Y M.keeps (fun p hp => ?_) fun t2 oe h2 tk2 st at2 c d => ⟨rfl, hQ e t2 oe h2 tk2 (fun b o e' => st b o (fun q => ?_) (M.keeps b o e')) M.new at2 c d⟩
  · obtain ⟨r1, r2, r3⟩ := R
    refine ⟨?_, ?_, rfl⟩
    · show dp + 1 + 3 < _
      dsimp only at r1; omega
    · dsimp only at r2
      first
        | (show un + 0 + 8 * 3 < _; omega)
        | (show un + 1 + 8 * 3 < _; omega)
        | (show un + 2 + 8 * 3 < _; omega)
        | (show un + 3 + 8 * 3 < _; omega)
        | (show un + 4 + 8 * 3 < _; omega)
  · rcases List.mem_singleton.mp hp with rfl
    exact ⟨he, M.new⟩
  · subst q; rw [M.new] at e'; cases e'
end

section
variable {M : Model} {A : Around} {E : Value → Shared → Prop} {s : Shared} {env : Env}
theorem x_raise {x : Sem Value} {Q : Flow → Shared → Prop} (hh : A.handled = none)
    (h : wpAny M A x (fun v s₁ => (Ex2 fun e oe => All6 (v = .ref e) (s₁.heap.get? 59 = some mapErr) (s₁.heap.get? e = some oe) (oe.cls = .ref 59) ((∃ t, oe.data = (excObj t).data)) (E (.ref e) s₁))) E s) :
    wpAny M A (raiseStmt env (some x) none) Q E s := by
  have hcB : (Value.ref 59 :: bm59).contains (.type "BaseException") = true := by decide +kernel
  unfold raiseStmt
  refine wpAny_bind (wpAny_mono h (fun v s₁ h₁ => ?_) fun _ _ x => x)
  obtain ⟨e, ⟨oc, od, odt, osl⟩, rfl, hC, he, rfl, ⟨te, rfl⟩, hE⟩ := h₁
  obtain ⟨hp, g, d, tk, os⟩ := s₁
  repeat (first | with_reducible refine wpAny_loadPart_at he ?_ | with_reducible refine wpAny_loadPart_at hC ?_ | (with_reducible refine wpAny_isSubtype_exc hC ?_; rw [hcB]) | wp_step)
  exact wpAny_raiseNew_none hh hE
theorem x_Raise {f : PySem.Expr} {args : List PySem.Expr} {cpos pos : Pos} {Q : Flow → Shared → Prop} (hh : A.handled = none)
    (h : wpAny M A (eval (.Call f args [] cpos) env) (fun v s₁ => (Ex2 fun e oe => All6 (v = .ref e) (s₁.heap.get? 59 = some mapErr) (s₁.heap.get? e = some oe) (oe.cls = .ref 59) ((∃ t, oe.data = (excObj t).data)) (E (.ref e) s₁))) E s) :
    wpAny M A (exec (.Raise (some (.Call f args [] cpos)) none pos) env) Q E s := by
  rw [arm_exec_Raise]
  simp only [evalOpt, Option.map]
  exact wpAny_bind (wpAny_standAt (x_raise hh (wpAny_bind (wpAny_mono h (fun v s₃ h₃ => wpAny_bind (wpAny_standAt (wpAny_pure h₃))) fun _ _ x => x))))
end
section
variable {prog : Program} {w : World} {A : Around} {E : Value → Shared → Prop} {s : Shared} {mg mb : Str → Option Value} {h₀ : Heap} {L : Addr} {m : Str → Option Value} {q : Qd} {dp un : Nat} {fr : Option (List Env)} {gd : Option (List Code)}
theorem push_of {A : Around} {B h₀ h₁ : Heap} {outer : List Env} {name : Str} {scope : Scope} {a : Addr} {cd : Value} {n : Nat} (K : Below A B outer h₀) (F : Fr h₀ L h₁ m) (_ : Rm (A.deeper (envOf name scope L a cd)) n) (hk : scope.kind = .function) :
    Below (A.deeper (envOf name scope L a cd)) B (envOf name scope L a cd :: outer) h₁ := K.push F hk
/-- the exception on its way out of the first frame -/
theorem x_leave {A : Around} {B h₁ : Heap} {outer : List Env} {env : Env} {L e t : Addr} {oe : Obj} {Q : Unit → Shared → Prop} (K : Below A B (env :: outer) h₁) (hf : env.frame = some L) (k : Kp h₁ s.heap)
    (hen : h₁.get? e = none) (he : s.heap.get? e = some oe) (hc : oe.cls = .ref 59) (hd : oe.data = (excObj t).data)
    (hQ : ∀ h', Heap.FlyingW B outer e (.ref 59) (.ref t) h' → s.heap.UpToSlots h' → Q () { s with heap := h' }) : wpAny (model prog w) A (leaving env (.ref e)) Q E s := by
  have hB : B.get? e = none := by
    cases q : B.get? e with
    | none => rfl
    | some o => have := K.stays e o q; rw [hen] at this; cases this
  refine wpAny_leaving_firstW (base := B) (a0 := .ref t) K.stack (K.frames.of_keeps fun b o hb _ => ⟨o, k b o hb, rfl⟩) hf he (fun b o q => k b o (K.stays b o q)) hB hd rfl rfl fun h' hL => ?_
  obtain ⟨k1, ⟨_, _, k2⟩, k3, k4⟩ := hL
  rw [hc] at k3
  exact hQ h' ⟨k1, hB, k2, k3⟩ k4
set_option maxHeartbeats 0 in
theorem c_check_value_bad {B : Heap} {outer : List Env} {b : Array UInt8} {t : Tok} {Q : Value → Shared → Prop} (K : Below (AN dp un fr gd) B outer s.heap) (R : Rm (AN dp un fr gd) 7) (Y : Lay w mg mb s.heap) (H : QAt prog w s.heap q) (hb : (b.size : Int) ≠ q.wd) (hz : b.size ≤ 1000)
    (hE : ∀ e t h' tk, Heap.FlyingW B outer e (.ref 59) (.ref t) h' → s.heap.UpToSlots h' → E (.ref e) { s with heap := h', toks := tk }) :
    wpAny (model prog w) (AN dp un fr gd) (call (.ref 117) [.ref q.x, .bytes b t]) Q E s := by
  have hz' : b.size ≤ 1099511627776 := by omega
  refine wpAny_call ?_
  refine' enter0 (binds := [(Str.ofString "self", .ref q.x), (Str.ofString "octets", .bytes b t)]) R Y ?k1 ?k2 ?k3 ?k4 ?_ ?k5 ?k6 ?k7 ?k8
  case k1 => k_is
  case k2 => k_is
  case k3 => exact BindsTo.of_eq rfl
  case k4 => exact locs rfl
  case k5 => decide
  case k6 => exact rfl
  case k7 => exact rfl
  case k8 => exact rfl
  intro L h₁ F N R'
  have X := Y.X
  have T := Y.T
  show wpAny _ _ _ _ _ _
  k_fold
  have K' := push_of K F R' rfl
  repeat' ((fail_if_success (first | (with_reducible show Exists _) | (with_reducible show wpAny _ _ (exec (Stmt.While _ _ _ _) _) _ _ _) | (with_reducible show wpAny _ _ (exec (Stmt.For _ _ _ _ _) _) _ _ _) | (with_reducible show wpAny _ _ (eval (Expr.ListComp _ _ _ _) _) _ _ _) | (with_reducible show wpAny _ _ (exec (Stmt.Raise _ _ _) _) _ _ _))); first | (k_unfold; (try dsimp only)) | walk1 | (dsimp only; walk1))
  · refine x_Raise rfl ?_
    repeat' ((fail_if_success (first | (with_reducible show Exists _) | (with_reducible show wpAny _ _ (exec (Stmt.While _ _ _ _) _) _ _ _) | (with_reducible show wpAny _ _ (exec (Stmt.For _ _ _ _ _) _) _ _ _) | (with_reducible show wpAny _ _ (eval (Expr.ListComp _ _ _ _) _) _ _ _) | (with_reducible show wpAny _ _ (exec (Stmt.Raise _ _ _) _) _ _ _))); first | (k_unfold; (try dsimp only)) | walk1 | (dsimp only; walk1))
    rename Fr _ _ _ _ => F2
    refine c_map_error (Rm.mono R' (by decide)) (Y.keeps F2.keep) fun e t' oe h' tk' k' hn he hc hd => ?_
    refine ⟨e, oe, rfl, k' _ _ (F2.keep _ _ (lay_59 X)), he, hc, ⟨t', hd⟩, ?_⟩
    exact x_leave K' rfl k' hn he hc hd fun h2 hf up => hE e t' h2 _ hf (((Heap.UpToSlots.of_keeps F2.keep).trans (Heap.UpToSlots.of_keeps k')).trans up)
  · exact absurd (by assumption) hb
set_option maxHeartbeats 0 in
theorem c_push_bad {B : Heap} {outer : List Env} {b : Array UInt8} {tb tf : Tok} {fl : Int} {Q : Value → Shared → Prop} (K : Below (AN dp un fr gd) B outer s.heap) (R : Rm (AN dp un fr gd) 8) (Y : Lay w mg mb s.heap) (H : QAt prog w s.heap q) (hb : (b.size : Int) ≠ q.wd) (hz : b.size ≤ 1000)
    (hE : ∀ e t h' tk, Heap.FlyingW B outer e (.ref 59) (.ref t) h' → s.heap.UpToSlots h' → E (.ref e) { s with heap := h', toks := tk }) :
    wpAny (model prog w) (AN dp un fr gd) (call (.ref 341) [.ref q.x, .bytes b tb, .int fl tf]) Q E s := by
  refine wpAny_call ?_
  refine' enter0 (binds := [(Str.ofString "self", .ref q.x), (Str.ofString "octets", .bytes b tb), (Str.ofString "flags", .int fl tf)]) R Y ?k1 ?k2 ?k3 ?k4 ?_ ?k5 ?k6 ?k7 ?k8
  case k1 => k_is
  case k2 => k_is
  case k3 => exact BindsTo.of_eq rfl
  case k4 => exact locs rfl
  case k5 => decide
  case k6 => exact rfl
  case k7 => exact rfl
  case k8 => exact rfl
  intro L h₁ F N R'
  have X := Y.X
  have T := Y.T
  show wpAny _ _ _ _ _ _
  k_fold
  have K' := push_of K F R' rfl
  repeat' ((fail_if_success (first | (with_reducible show Exists _) | (with_reducible show wpAny _ _ (exec (Stmt.While _ _ _ _) _) _ _ _) | (with_reducible show wpAny _ _ (exec (Stmt.For _ _ _ _ _) _) _ _ _) | (with_reducible show wpAny _ _ (eval (Expr.ListComp _ _ _ _) _) _ _ _))); first | (k_unfold; (try dsimp only)) | walk1 | (dsimp only; walk1))
  refine c_check_value_bad K' (Rm.mono R' (by decide)) (Y.keeps F.keep) (H.keeps F.keep) hb hz fun e t h' tk hf up => ?_
  exact wpAny_leaves_onW (Around.frames_deeper K.stack) rfl hf fun h2 hf2 up2 => hE e t h2 _ hf2 ((Heap.UpToSlots.of_keeps F.keep).trans (up.trans up2))
/-- caught by its own name -/
theorem x_caught {A₀ : Around} {B h : Heap} {outer : List Env} {name : Str} {scope : Scope} {a e t : Addr} {cd : Value} {b₀ : Stmt} {suite : List Stmt} {pos np : Pos} {rest : List ExceptHandler} {Q : Flow → Shared → Prop}
    (Y : Lay w mg mb B) (hfr : (A₀.deeper (envOf name scope L a cd)).frames = some (envOf name scope L a cd :: outer)) (F : Fr B L h m) (hsm : h.UpToSlots s.heap) (R : Heap.FlyingW B (envOf name scope L a cd :: outer) e (.ref 59) (.ref t) s.heap)
    (k : ∀ h', Fr B L h' m → h.UpToSlots h' → wpAny (model prog w) ((A₀.deeper (envOf name scope L a cd)).mark (some (.ref e))) (execs (b₀ :: suite) (envOf name scope L a cd)) Q E { s with heap := h' })
    (hk : scope.kind = .function) (hx : (envOf name scope L a cd).kindOf (Str.ofString "MapError") = some .globalImplicit)
    (hE : PassesOwnAt (model prog w) ((A₀.deeper (envOf name scope L a cd)).mark (some (.ref e))) (A₀.deeper (envOf name scope L a cd)) (envOf name scope L a cd) E) :
    wpAny (model prog w) (A₀.deeper (envOf name scope L a cd)) (noteFrame (.ref e) (envOf name scope L a cd))
      (fun _ s₂ => wpAny (model prog w) (A₀.deeper (envOf name scope L a cd)) (setFlight (.ref e) none) (fun _ s₃ =>
        wpAny (model prog w) (A₀.deeper (envOf name scope L a cd)) (handleBy (.ref e) (envOf name scope L a cd) (.ExceptHandler (some (.Name (Str.ofString "MapError") np)) none (b₀ :: suite) pos :: rest)) Q E s₃) E s₂) E s := by
  have X := Y.X
  have T := Y.T
  have ex : nsIn (hd.heap_1 w.params) mainGlobals (Str.ofString "MapError") = some (some (.ref 59)) := by k_is
  refine wpAny_looks_onW hfr rfl R fun h₄ hheld₄ hsm₄ => ?_
  refine wpAny_landsW hheld₄ fun h₅ hfl₅ hsm₅' => ?_
  have hsm₅ := hsm.trans (hsm₄.trans hsm₅')
  have F₅ := F.of_stays hfl₅.1 hsm₅
  obtain ⟨ob, hob, hobc⟩ := hfl₅.there
  refine wpAny_handleBy_cons (codeAny_handlers_test (name_K F₅ X T ex ?_ hk hx (by decide))) (by intro q; cases q)
  refine wpAny_excMatches_sub_self (lay_59 (X.keeps F₅.keep)) hob hobc (by decide +kernel) (codeAny_handlers_suite ?_)
  refine lands_againW hfl₅ fun h₆ hfl₆ hsm₆ => ?_
  exact wpAny_passesOwnAt hE (k h₆ (F₅.of_stays hfl₆.1 hsm₆) (hsm₅.trans hsm₆))
end

structure Own (prog : Program) (w : World) (g : Heap) (L : Addr) (h : Heap) (q : Qd) : Prop where
  at_ : QAt prog w h q
  nl : ∀ a ∈ q.as, a ≠ L
  ng : ∀ a ∈ q.as, g.get? a = none
  nd : q.as.Nodup
/-- h' is h but for the queue q, now q' -/
structure Mut (prog : Program) (w : World) (h h' : Heap) (q q' : Qd) : Prop where
  stay : ∀ b o, b ∉ q.as → h.get? b = some o → h'.get? b = some o
  new : ∀ a ∈ q'.as, a ∈ q.as ∨ h.get? a = none
  at_ : QAt prog w h' q'
  nd : q'.as.Nodup
  x : q'.x = q.x
  kind : q'.kind = q.kind
  wd : q'.wd = q.wd
  most : q'.most = q.most
theorem Own.keeps {prog : Program} {w : World} {g h h' : Heap} {L : Addr} {q : Qd} (O : Own prog w g L h q) (k : Kp h h') : Own prog w g L h' q := ⟨O.at_.keeps k, O.nl, O.ng, O.nd⟩
theorem Fr.mut {prog : Program} {w : World} {g h h' : Heap} {L : Addr} {m : Str → Option Value} {q q' : Qd} (F : Fr g L h m) (O : Own prog w g L h q) (M : Mut prog w h h' q q') : Fr g L h' m := by
  refine ⟨?_, fun b o e => M.stay b o (fun hb => by rw [O.ng b hb] at e; cases e) (F.keep b o e), F.above⟩
  obtain ⟨oL, a, b, hL, c⟩ := F.ns
  exact ⟨oL, a, b, M.stay _ _ (fun hb => O.nl _ hb rfl) hL, c⟩
theorem Own.mut {prog : Program} {w : World} {g h h' : Heap} {L : Addr} {m : Str → Option Value} {q q' : Qd} (F : Fr g L h m) (O : Own prog w g L h q) (M : Mut prog w h h' q q') : Own prog w g L h' q' := by
  refine ⟨M.at_, fun a ha e => ?_, fun a ha => ?_, M.nd⟩
  · rcases M.new a ha with h1 | h1
    · exact O.nl a h1 e
    · subst e
      obtain ⟨oL, _, _, hL, _⟩ := F.ns
      rw [h1] at hL; cases hL
  · rcases M.new a ha with h1 | h1
    · exact O.ng a h1
    · cases e : g.get? a with
      | none => rfl
      | some o => rw [F.keep _ _ e] at h1; cases h1
theorem News.mut {prog : Program} {w : World} {g h h' : Heap} {L : Addr} {q q' : Qd} {news : List (Addr × Obj)} (N : News g L h news) (ap : ∀ p ∈ news, p.1 ∉ q.as) (M : Mut prog w h h' q q') : News g L h' news ∧ ∀ p ∈ news, p.1 ∉ q'.as := by
  refine ⟨fun p hp => ⟨M.stay _ _ (ap p hp) (N p hp).1, (N p hp).2⟩, fun p hp ha => ?_⟩
  rcases M.new _ ha with h1 | h1
  · exact ap p hp h1
  · rw [(N p hp).1] at h1; cases h1
/-- another queue stays -/
theorem Own.beside {prog : Program} {w : World} {g h h' : Heap} {L : Addr} {q q' r : Qd} (O : Own prog w g L h r) (ap : ∀ a ∈ r.as, a ∉ q.as) (M : Mut prog w h h' q q') : Own prog w g L h' r ∧ ∀ a ∈ r.as, a ∉ q'.as := by
  obtain ⟨qs, i, k⟩ := O.at_
  have ha : ∀ p ∈ qs, p.1 ∈ r.as := fun p hp => i.addrs ▸ List.mem_map_of_mem hp
  refine ⟨⟨⟨qs, i, fun p hp => M.stay _ _ (ap _ (ha p hp)) (k p hp)⟩, O.nl, O.ng, O.nd⟩, fun a hr hq => ?_⟩
  rcases M.new _ hq with h1 | h1
  · exact ap a hr h1
  · rw [← i.addrs] at hr
    obtain ⟨p, hp, rfl⟩ := List.mem_map.mp hr
    rw [k p hp] at h1; cases h1
theorem Mut.trans {prog : Program} {w : World} {h h' h'' : Heap} {q q' q'' : Qd} (M : Mut prog w h h' q q') (M' : Mut prog w h' h'' q' q'') : Mut prog w h h'' q q'' where
  stay b o hb e := M'.stay b o (fun hq => (M.new b hq).elim hb fun h1 => by rw [e] at h1; cases h1) (M.stay b o hb e)
  new a ha := by
    rcases M'.new a ha with h1 | h1
    · exact M.new a h1
    · cases e : h.get? a with
      | none => exact .inr rfl
      | some o =>
        by_cases hq : a ∈ q.as
        · exact .inl hq
        · rw [M.stay a o hq e] at h1; cases h1
  at_ := M'.at_
  nd := M'.nd
  x := M'.x.trans M.x
  kind := M'.kind.trans M.kind
  wd := M'.wd.trans M.wd
  most := M'.most.trans M.most
/-- keeping is no change at all -/
theorem Mut.of_keeps {prog : Program} {w : World} {h h' h'' : Heap} {q q' : Qd} (k : Kp h h') (M : Mut prog w h' h'' q q') : Mut prog w h h'' q q' where
  stay b o hb e := M.stay b o hb (k b o e)
  new a ha := (M.new a ha).imp_right fun h1 => by
    cases e : h.get? a with
    | none => rfl
    | some o => rw [k _ _ e] at h1; cases h1
  at_ := M.at_
  nd := M.nd
  x := M.x
  kind := M.kind
  wd := M.wd
  most := M.most
/-- what a body that hid the queue has done -/
theorem Mut.of_body {prog : Program} {w : World} {h g h' : Heap} {L : Addr} {m : Str → Option Value} {q q' : Qd} (F : Fr g L h' m) (O : Own prog w g L h' q') (Hg : Hid h g q.as) (e : q'.x = q.x ∧ q'.kind = q.kind ∧ q'.wd = q.wd ∧ q'.most = q.most) : Mut prog w h h' q q' where
  stay b o hb e := F.keep b o (Hg.get b o e hb)
  new a ha := by
    by_cases hq : a ∈ q.as
    · exact .inl hq
    · cases e : h.get? a with
      | none => exact .inr rfl
      | some o => have := Hg.get a o e hq; rw [O.ng a ha] at this; cases this
  at_ := O.at_
  nd := O.nd
  x := e.1
  kind := e.2.1
  wd := e.2.2.1
  most := e.2.2.2
/-- what a body starts with -/
theorem Own.of_hid {prog : Program} {w : World} {g h' : Heap} {L : Addr} {q : Qd} {qs : List (Addr × Obj)} (i : IsQ prog w q qs) (N : News g L h' qs) (nd : q.as.Nodup) : Own prog w g L h' q := by
  refine ⟨⟨qs, i, fun p hp => (N p hp).1⟩, fun a ha => ?_, fun a ha => ?_, nd⟩
  all_goals
    rw [← i.addrs] at ha
    obtain ⟨p, hp, rfl⟩ := List.mem_map.mp ha
  · exact (N p hp).2.1
  · exact (N p hp).2.2
theorem Own.lookup {prog : Program} {w : World} {g h : Heap} {L : Addr} {q : Qd} {i : Int} {a : Addr} {b : Array UInt8} (O : Own prog w g L h q) (hl : q.sl.lookup i = some (a, b)) : a ∈ q.as :=
  .tail _ (.tail _ (.tail _ (List.mem_map.mpr ⟨_, mem_of_lookup hl, rfl⟩)))

noncomputable def others (g : Heap) (L d : Addr) (h : Heap) : List (Addr × Obj) :=
  (List.range h.objs.size).filterMap fun b => if b = d ∨ b = L ∨ (g.get? b).isSome then none else (h.get? b).map fun o => (b, o)
theorem mem_others {g h : Heap} {L d b : Addr} {o : Obj} : (b, o) ∈ others g L d h ↔ h.get? b = some o ∧ b ≠ d ∧ b ≠ L ∧ g.get? b = none := by
  unfold others
  rw [List.mem_filterMap]
  constructor
  · rintro ⟨c, _, hc⟩
    by_cases hn : c = d ∨ c = L ∨ (g.get? c).isSome
    · rw [if_pos hn] at hc; cases hc
    · rw [if_neg hn] at hc
      obtain ⟨o', e, h2⟩ := Option.map_eq_some_iff.mp hc
      cases h2
      refine ⟨e, fun q => hn (.inl q), fun q => hn (.inr (.inl q)), ?_⟩
      cases e' : g.get? b with
      | none => rfl
      | some _ => exact (hn (.inr (.inr (by rw [e']; rfl)))).elim
  · rintro ⟨a, b1, c, d1⟩
    refine ⟨b, List.mem_range.mpr (Heap.lt_size a), ?_⟩
    have hn : ¬ (b = d ∨ b = L ∨ (g.get? b).isSome) := by
      rintro (q | q | q)
      · exact b1 q
      · exact c q
      · rw [d1] at q; cases q
    rw [if_neg hn, a]; rfl

theorem isStr_str (x y : Str) (t : Tok) : (Value.str x t).isStr y = (x == y) := rfl
section
variable {prog : Program} {w : World} {A : Around} {E : Value → Shared → Prop} {s : Shared} {mg mb : Str → Option Value} {h₀ : Heap} {L : Addr} {m : Str → Option Value} {q : Qd} {dp un : Nat} {fr : Option (List Env)} {gd : Option (List Code)}
theorem q_set_hd {i : Int} {t : Tok} {Q : Unit → Shared → Prop} {g : Heap} (F : Fr g L s.heap m) (X : (hd.heap_1 w.params).In g) (O : Own prog w g L s.heap q)
    (h : ∀ h', Fr g L h' m → Own prog w g L h' { q with hd := i } → Q () { s with heap := h', toks := s.toks + 2 }) :
    wpAny (model prog w) A (setAttr (.ref q.x) (Str.ofString "head") (.int i t)) Q E s := by
  obtain ⟨⟨qs, I, K⟩, nl, ng, nd⟩ := O
  cases I with
  | mk tk n ov hv lo =>
    have hx := K _ (.head _)
    have hdx := K _ (.tail _ (.head _))
    have N : News g L s.heap ((q.dx, dictOf (qes w.params q tk) n) :: others g L q.dx s.heap) := by
      intro p hp
      rcases List.mem_cons.mp hp with rfl | hp
      · exact ⟨hdx, nl _ (.tail _ (.head _)), ng _ (.tail _ (.head _))⟩
      · obtain ⟨a, b, c, d⟩ := mem_others.mp hp; exact ⟨a, c, d⟩
    refine' set_dict F X N ⟨hx, rfl, rfl, hdx⟩ rfl (by k_is) (by k_is) (by k_is) (by k_is) (by k_get) ?put (.head fun p hp => (mem_others.mp hp).2.1) ?sz fun h' F' N' => ?_
    case put => simp only [putL, putN, qes, isStr_str, show (Str.ofString "kind" == Str.ofString "head") = false by decide +kernel, show (Str.ofString "number" == Str.ofString "head") = false by decide +kernel, show (Str.ofString "key_width" == Str.ofString "head") = false by decide +kernel, show (Str.ofString "value_width" == Str.ofString "head") = false by decide +kernel, show (Str.ofString "most" == Str.ofString "head") = false by decide +kernel, show (Str.ofString "values" == Str.ofString "head") = false by decide +kernel, show (Str.ofString "head" == Str.ofString "head") = true by decide +kernel, List.any_cons, if_true, Bool.false_eq_true, if_false, Bool.or_true, Bool.true_or, Bool.or_false, Bool.false_or]; exact rfl
    case sz => exact Nat.le_of_ble_eq_true rfl
    have hn : ∀ p : Addr × Obj, s.heap.get? p.1 = some p.2 → p.1 ≠ q.dx → p.1 ∈ q.as → h'.get? p.1 = some p.2 := fun p a b c => (N' p (.tail _ (mem_others.mpr ⟨a, b, nl _ c, ng _ c⟩))).1
    refine h h' F' ⟨⟨_, .mk (fun k => if k = 12 then t else tk k) n ov hv lo, fun p hp => ?_⟩, nl, ng, nd⟩
    have nd' := nd
    unfold Qd.as at nd'
    rw [List.nodup_cons, List.nodup_cons] at nd'
    obtain ⟨n1, n2, n3⟩ := nd'
    rcases List.mem_cons.mp hp with rfl | hp
    · exact hn _ hx (fun e => n1 (e ▸ .head _)) (.head _)
    rcases List.mem_cons.mp hp with rfl | hp
    · exact (N' _ (.head _)).1
    have hm : p.1 ∈ q.vd :: q.sl.map (·.2.1) := by
      rcases List.mem_cons.mp hp with rfl | hp
      · exact .head _
      · obtain ⟨e, he, rfl⟩ := List.mem_map.mp hp
        exact .tail _ (List.mem_map.mpr ⟨e, he, rfl⟩)
    exact hn _ (K _ (.tail _ (.tail _ hp))) (fun e => n2 (e ▸ hm)) (.tail _ (.tail _ hm))
theorem q_set_tl {i : Int} {t : Tok} {Q : Unit → Shared → Prop} {g : Heap} (F : Fr g L s.heap m) (X : (hd.heap_1 w.params).In g) (O : Own prog w g L s.heap q)
    (h : ∀ h', Fr g L h' m → Own prog w g L h' { q with tl := i } → Q () { s with heap := h', toks := s.toks + 2 }) :
    wpAny (model prog w) A (setAttr (.ref q.x) (Str.ofString "tail") (.int i t)) Q E s := by
  obtain ⟨⟨qs, I, K⟩, nl, ng, nd⟩ := O
  cases I with
  | mk tk n ov hv lo =>
    have hx := K _ (.head _)
    have hdx := K _ (.tail _ (.head _))
    have N : News g L s.heap ((q.dx, dictOf (qes w.params q tk) n) :: others g L q.dx s.heap) := by
      intro p hp
      rcases List.mem_cons.mp hp with rfl | hp
      · exact ⟨hdx, nl _ (.tail _ (.head _)), ng _ (.tail _ (.head _))⟩
      · obtain ⟨a, b, c, d⟩ := mem_others.mp hp; exact ⟨a, c, d⟩
    refine' set_dict F X N ⟨hx, rfl, rfl, hdx⟩ rfl (by k_is) (by k_is) (by k_is) (by k_is) (by k_get) ?put (.head fun p hp => (mem_others.mp hp).2.1) ?sz fun h' F' N' => ?_
    case put => simp only [putL, putN, qes, isStr_str, show (Str.ofString "kind" == Str.ofString "tail") = false by decide +kernel, show (Str.ofString "number" == Str.ofString "tail") = false by decide +kernel, show (Str.ofString "key_width" == Str.ofString "tail") = false by decide +kernel, show (Str.ofString "value_width" == Str.ofString "tail") = false by decide +kernel, show (Str.ofString "most" == Str.ofString "tail") = false by decide +kernel, show (Str.ofString "values" == Str.ofString "tail") = false by decide +kernel, show (Str.ofString "head" == Str.ofString "tail") = false by decide +kernel, show (Str.ofString "tail" == Str.ofString "tail") = true by decide +kernel, List.any_cons, if_true, Bool.false_eq_true, if_false, Bool.or_true, Bool.true_or, Bool.or_false, Bool.false_or]; exact rfl
    case sz => exact Nat.le_of_ble_eq_true rfl
    have hn : ∀ p : Addr × Obj, s.heap.get? p.1 = some p.2 → p.1 ≠ q.dx → p.1 ∈ q.as → h'.get? p.1 = some p.2 := fun p a b c => (N' p (.tail _ (mem_others.mpr ⟨a, b, nl _ c, ng _ c⟩))).1
    refine h h' F' ⟨⟨_, .mk (fun k => if k = 14 then t else tk k) n ov hv lo, fun p hp => ?_⟩, nl, ng, nd⟩
    have nd' := nd
    unfold Qd.as at nd'
    rw [List.nodup_cons, List.nodup_cons] at nd'
    obtain ⟨n1, n2, n3⟩ := nd'
    rcases List.mem_cons.mp hp with rfl | hp
    · exact hn _ hx (fun e => n1 (e ▸ .head _)) (.head _)
    rcases List.mem_cons.mp hp with rfl | hp
    · exact (N' _ (.head _)).1
    have hm : p.1 ∈ q.vd :: q.sl.map (·.2.1) := by
      rcases List.mem_cons.mp hp with rfl | hp
      · exact .head _
      · obtain ⟨e, he, rfl⟩ := List.mem_map.mp hp
        exact .tail _ (List.mem_map.mpr ⟨e, he, rfl⟩)
    exact hn _ (K _ (.tail _ (.tail _ hp))) (fun e => n2 (e ▸ hm)) (.tail _ (.tail _ hm))
end

theorem valueAt_kvs_none {i : Int} : ∀ {sl : List (Int × Addr × Array UInt8)}, sl.lookup i = none → (kvsOf sl).any (fun kv => decide (kv.1 = i)) = false
  | [], _ => rfl
  | (j, c, d) :: r, h => by
    rw [List.lookup_cons] at h
    by_cases e : i = j
    · subst e; simp at h
    · have e' : (i == j) = false := beq_eq_false_iff_ne.mpr e
      rw [e'] at h
      have := valueAt_kvs_none h
      simp only [kvsOf, List.map_cons, List.any_cons] at this ⊢
      rw [this]; simp [Ne.symm e]
theorem lookup_valueAt {i : Int} : ∀ {sl : List (Int × Addr × Array UInt8)}, (valueAt (kvsOf sl) i).isSome = (sl.lookup i).isSome
  | [] => rfl
  | (j, c, d) :: r => by
    have ih := lookup_valueAt (i := i) (sl := r)
    rw [List.lookup_cons]
    by_cases e : i = j
    · subst e; simp [kvsOf, valueAt]
    · have e' : (i == j) = false := beq_eq_false_iff_ne.mpr e
      rw [e']
      simp only [kvsOf, valueAt, List.map_cons, List.find?_cons] at ih ⊢
      simp [Ne.symm e] at ih ⊢
      exact ih
noncomputable def putIn (sl : List (Int × Addr × Array UInt8)) (i : Int) (x : Array UInt8) : List (Int × Addr × Array UInt8) := sl.map fun e => if e.1 = i then (e.1, e.2.1, x) else e
theorem kvs_putIn (i : Int) (x : Array UInt8) (sl : List (Int × Addr × Array UInt8)) : kvsOf (putIn sl i x) = kvsOf sl := by
  unfold kvsOf putIn; rw [List.map_map]; refine List.map_congr_left fun e _ => ?_
  dsimp only [Function.comp]; split <;> rfl
theorem addr_putIn (i : Int) (x : Array UInt8) (sl : List (Int × Addr × Array UInt8)) : (putIn sl i x).map (·.2.1) = sl.map (·.2.1) := by
  unfold putIn; rw [List.map_map]; refine List.map_congr_left fun e _ => ?_
  dsimp only [Function.comp]; split <;> rfl
theorem key_putIn (i : Int) (x : Array UInt8) (sl : List (Int × Addr × Array UInt8)) : (putIn sl i x).map (·.1) = sl.map (·.1) := by
  unfold putIn; rw [List.map_map]; refine List.map_congr_left fun e _ => ?_
  dsimp only [Function.comp]; split <;> rfl
theorem lookup_putIn {i j : Int} {x : Array UInt8} : ∀ {sl : List (Int × Addr × Array UInt8)}, (putIn sl i x).lookup j = (sl.lookup j).map fun e => if j = i then (e.1, x) else e
  | [] => rfl
  | (k, c, d) :: r => by
    have ih := lookup_putIn (i := i) (j := j) (x := x) (sl := r)
    unfold putIn at ih ⊢
    rw [List.map_cons, List.lookup_cons, List.lookup_cons]
    by_cases e : j = k
    · subst e
      by_cases e2 : j = i <;> simp [e2]
    · have e' : (j == k) = false := beq_eq_false_iff_ne.mpr e
      by_cases e2 : k = i
      · subst e2; simp only [if_true, e']; rw [ih]
      · simp only [e2, if_false, e']; rw [ih]
theorem mem_putIn {i : Int} {x : Array UInt8} {sl : List (Int × Addr × Array UInt8)} {e : Int × Addr × Array UInt8} (h : e ∈ putIn sl i x) : ∃ e' ∈ sl, e.1 = e'.1 ∧ e.2.1 = e'.2.1 ∧ (e.2.2 = x ∨ e.2.2 = e'.2.2) := by
  unfold putIn at h
  obtain ⟨e', he, rfl⟩ := List.mem_map.mp h
  refine ⟨e', he, ?_⟩
  split <;> simp
theorem nodup_addr {α β : Type} {f : α → β} : ∀ {l : List α}, (l.map f).Nodup → ∀ {a b : α}, a ∈ l → b ∈ l → f a = f b → a = b
  | [], _, _, _, h, _, _ => by cases h
  | x :: r, n, a, b, ha, hb, e => by
    rw [List.map_cons, List.nodup_cons] at n
    rcases List.mem_cons.mp ha with h1 | h1 <;> rcases List.mem_cons.mp hb with h2 | h2
    · rw [h1, h2]
    · subst h1; exact (n.1 (by rw [e]; exact List.mem_map_of_mem h2)).elim
    · subst h2; exact (n.1 (by rw [← e]; exact List.mem_map_of_mem h1)).elim
    · exact nodup_addr n.2 h1 h2 e
section
variable {prog : Program} {w : World} {A : Around} {E : Value → Shared → Prop} {s : Shared} {mg mb : Str → Option Value} {h₀ : Heap} {L : Addr} {m : Str → Option Value} {q : Qd} {dp un : Nat} {fr : Option (List Env)} {gd : Option (List Code)}
theorem q_put_new {i : Int} {t : Tok} {a : Addr} {b : Array UInt8} {Q : Unit → Shared → Prop} {g : Heap} (F : Fr g L s.heap m) (O : Own prog w g L s.heap q) (ha : s.heap.get? a = some (baObj b)) (na : a ∉ q.as) (nL : a ≠ L) (nG : g.get? a = none)
    (hn : q.sl.lookup i = none) (hz : q.sl.length ≤ sizeLine)
    (h : ∀ h', (∀ b, b ≠ q.vd → h'.get? b = s.heap.get? b) → Fr g L h' m → Own prog w g L h' { q with sl := q.sl ++ [(i, a, b)] } → Q () { s with heap := h', toks := s.toks + 1 }) :
    wpAny (model prog w) A (setItem (.ref q.vd) (.int i t) (.ref a)) Q E s := by
  have D := O.at_.dict.1
  refine wpAny_setItem_pairs (hsz := by simpa [kvsOf] using hz) (intKind_is prog w i t) D fun h' hmm hs => ?_
  have hvd : q.vd ∈ q.as := .tail _ (.tail _ (.head _))
  refine h h' hs.2 (F.change hs (O.nl _ hvd) (O.ng _ hvd)) ?_
  obtain ⟨⟨qs, I, K⟩, nl, ng, nd⟩ := O
  have ek : stored (kvsOf q.sl) i (.ref a) = kvsOf (q.sl ++ [(i, a, b)]) := by
    unfold stored; rw [valueAt_kvs_none hn]; simp [kvsOf]
  rw [ek] at hmm
  obtain ⟨o', ho', hd'⟩ := Heap.dictOf_iff.mp hmm
  have hL : ∀ x, x ∈ ({ q with sl := q.sl ++ [(i, a, b)] } : Qd).as → x ∈ q.as ∨ x = a := by
    intro x hx
    simp only [Qd.as, List.map_append, List.map_cons, List.map_nil] at hx ⊢
    simp only [List.mem_cons, List.mem_append, List.not_mem_nil, or_false] at hx ⊢
    rcases hx with h | h | h | h | h <;> simp [h]
  refine ⟨?_, fun x hx => (hL x hx).elim (nl x) fun e => e ▸ nL, fun x hx => (hL x hx).elim (ng x) fun e => e ▸ nG, ?_⟩
  · cases I with
    | mk tk n ov hv lo =>
      refine ⟨_, .mk tk n o' hd' lo, fun p hp => ?_⟩
      have hne : ∀ p ∈ q.sl.map (fun e => (e.2.1, baObj e.2.2)), p.1 ≠ q.vd := fun p hp e => by
        unfold Qd.as at nd
        rw [List.nodup_cons, List.nodup_cons, List.nodup_cons] at nd
        obtain ⟨y, hy, rfl⟩ := List.mem_map.mp hp
        exact nd.2.2.1 (e ▸ List.mem_map.mpr ⟨y, hy, rfl⟩)
      have n1 : q.x ≠ q.vd := fun e => by unfold Qd.as at nd; rw [List.nodup_cons] at nd; exact nd.1 (e ▸ .tail _ (.head _))
      have n2 : q.dx ≠ q.vd := fun e => by unfold Qd.as at nd; rw [List.nodup_cons, List.nodup_cons] at nd; exact nd.2.1 (e ▸ .head _)
      rcases List.mem_cons.mp hp with rfl | hp
      · exact (hs.2 _ n1).trans (K _ (.head _))
      rcases List.mem_cons.mp hp with rfl | hp
      · exact (hs.2 _ n2).trans (K _ (.tail _ (.head _)))
      rcases List.mem_cons.mp hp with rfl | hp
      · exact ho'
      dsimp only at hp
      rw [List.map_append, List.mem_append] at hp
      rcases hp with hp | hp
      · exact (hs.2 _ (hne p hp)).trans (K _ (.tail _ (.tail _ (.tail _ hp))))
      · rcases List.mem_singleton.mp hp with rfl
        exact (hs.2 _ (show a ≠ q.vd from fun e => na (by rw [e]; exact hvd))).trans ha
  · have e : ({ q with sl := q.sl ++ [(i, a, b)] } : Qd).as = q.as ++ [a] := by simp [Qd.as]
    rw [e]
    refine List.nodup_append.mpr ⟨nd, by simp, fun x hx y hy => ?_⟩
    rcases List.mem_singleton.mp hy with rfl
    exact fun e => na (e ▸ hx)
theorem q_put_old {i : Int} {a c : Addr} {x y : Array UInt8} {t : Tok} {Q : Unit → Shared → Prop} {g : Heap} (F : Fr g L s.heap m) (O : Own prog w g L s.heap q) (hk : (q.sl.map (·.1)).Nodup)
    (hl : q.sl.lookup i = some (a, y)) (hc : s.heap.get? c = some { cls := .type "slice", data := .fields #[.none, .none, .none] }) (hz : x.size ≤ sizeLine) (hs : x.size = y.size)
    (h : ∀ h', Fr g L h' m → Own prog w g L h' { q with sl := putIn q.sl i x } → Q () { s with heap := h' }) :
    wpT (model prog w) A (setItem (.ref a) (.ref c) (.bytes x t)) Q E s := by
  have hm := O.lookup hl
  refine ba_setItem (O.at_.ba hl) hc hz hs fun h' ha hb => ?_
  obtain ⟨⟨qs, I, K⟩, nl, ng, nd⟩ := O
  have F' : Fr g L h' m := by
    refine ⟨?_, fun b o e => hb b o (F.keep b o e) (fun q => by rw [q, ng a hm] at e; cases e), F.above⟩
    obtain ⟨oL, p, r, hL, z⟩ := F.ns
    exact ⟨oL, p, r, hb _ _ hL fun e => nl a hm e.symm, z⟩
  have ea : ({ q with sl := putIn q.sl i x } : Qd).as = q.as := by simp [Qd.as, addr_putIn]
  refine h h' F' ⟨?_, by rw [ea]; exact nl, by rw [ea]; exact ng, by rw [ea]; exact nd⟩
  have mm := mem_of_lookup hl
  have nds : (q.sl.map (·.2.1)).Nodup := by unfold Qd.as at nd; rw [List.nodup_cons, List.nodup_cons, List.nodup_cons] at nd; exact nd.2.2.2
  have na3 : a ∈ q.sl.map (·.2.1) := List.mem_map.mpr ⟨_, mm, rfl⟩
  unfold Qd.as at nd
  rw [List.nodup_cons, List.nodup_cons, List.nodup_cons] at nd
  cases I with
  | mk tk n ov hv lo =>
    refine ⟨_, .mk tk n ov (by dsimp only; rw [kvs_putIn]; exact hv) lo, fun p hp => ?_⟩
    rcases List.mem_cons.mp hp with rfl | hp
    · exact hb _ _ (K _ (.head _)) (show q.x ≠ a from fun e => nd.1 (by rw [e]; exact .tail _ (.tail _ na3)))
    rcases List.mem_cons.mp hp with rfl | hp
    · exact hb _ _ (K _ (.tail _ (.head _))) (show q.dx ≠ a from fun e => nd.2.1 (by rw [e]; exact .tail _ na3))
    rcases List.mem_cons.mp hp with rfl | hp
    · exact hb _ _ (K _ (.tail _ (.tail _ (.head _)))) (show q.vd ≠ a from fun e => nd.2.2.1 (by rw [e]; exact na3))
    obtain ⟨e', he', rfl⟩ := List.mem_map.mp hp
    dsimp only at he' ⊢
    unfold putIn at he'
    obtain ⟨e, he, rfl⟩ := List.mem_map.mp he'
    by_cases ei : e.1 = i
    · have : e = (i, a, y) := nodup_addr hk he mm ei
      subst this
      simp only [if_true]
      exact ha
    · simp only [ei, if_false]
      refine hb _ _ (K _ (.tail _ (.tail _ (.tail _ (List.mem_map.mpr ⟨e, he, rfl⟩))))) fun q => ei ?_
      have : e = (i, a, y) := nodup_addr nds he mm q
      rw [this]
end

theorem kw_f_12 : True := by
  k_with "my q" => (exact Own.at_ (by assumption))
  k_with "compareOp In int ref" => ((with_reducible show wpAny _ _ (compareOp CmpOp.In (Value.int _ _) (Value.ref (Qd.vd _))) _ _ _); refine' wpAny_in_of (intKind_is _ _ _ _) (by exact (QAt.dict (by walk_at "my q")).2) (by exact Heap.DictOf.mapOf (QAt.dict (by walk_at "my q")).1) ?_)
  exact trivial
theorem nodup_below : ∀ (n : Nat) (l : List Nat), l.Nodup → (∀ x ∈ l, x < n) → l.length ≤ n
  | 0, [], _, _ => Nat.le_refl _
  | 0, x :: _, _, h => absurd (h x (.head _)) (Nat.not_lt_zero _)
  | n + 1, l, nd, h => by
    by_cases hm : n ∈ l
    · have h1 := nodup_below n (l.erase n) (nd.erase n) fun x hx => by
        have h2 := (nd.mem_erase_iff).mp hx
        have := h x h2.2; omega
      rw [List.length_erase_of_mem hm] at h1; omega
    · have h1 := nodup_below n l nd fun x hx => by
        have := h x hx
        have : x ≠ n := fun e => hm (e ▸ hx)
        omega
      omega
theorem Qd.Ok.slen {q : Qd} (hq : q.Ok) : q.sl.length ≤ 7 := by
  have h := nodup_below 7 (q.sl.map fun e => e.1.toNat) ?_ ?_
  · simpa using h
  · have := hq.nodup
    unfold List.Nodup at this ⊢
    rw [List.pairwise_map] at this ⊢
    exact this.imp_of_mem fun {a b} ha hb hne e => hne (by have := hq.keys _ ha; have := hq.keys _ hb; omega)
  · intro x hx
    obtain ⟨e, he, rfl⟩ := List.mem_map.mp hx
    have := hq.keys _ he; have := hq.most1; omega
theorem Qd.Ok.putIn {q : Qd} (hq : q.Ok) {i : Int} {x : Array UInt8} (nd : ({ q with sl := putIn q.sl i x } : Qd).as.Nodup) (hx : x.size = q.wd.toNat) : ({ q with sl := putIn q.sl i x } : Qd).Ok := by
  obtain ⟨a1, a2, a3, a4, a5, a6, a7, a8, a9, a10, a11, a12, a13⟩ := hq
  refine ⟨a1, a2, a3, a4, a5, a6, a7, a8, a9, by dsimp only; rw [key_putIn]; exact a10, fun e he => ?_, fun e he => ?_, nd⟩
  · obtain ⟨e', he', h1, h2, h3⟩ := mem_putIn he; dsimp only; rw [h1]; exact a11 e' he'
  · obtain ⟨e', he', h1, h2, h3⟩ := mem_putIn he; dsimp only
    rcases h3 with h3 | h3 <;> rw [h3]
    · exact hx
    · exact a12 e' he'
theorem lookup_none_mem {i : Int} : ∀ {sl : List (Int × Addr × Array UInt8)}, sl.lookup i = none → i ∉ sl.map (·.1)
  | [], _ => by simp
  | (j, c) :: r, h => by
    rw [List.lookup_cons] at h
    by_cases e : i = j
    · subst e; simp at h
    · have e' : (i == j) = false := beq_eq_false_iff_ne.mpr e
      rw [e'] at h
      have := lookup_none_mem h
      simp only [List.map_cons, List.mem_cons, not_or]
      exact ⟨e, this⟩
theorem lookup_snoc {i j : Int} {x : Addr × Array UInt8} : ∀ {sl : List (Int × Addr × Array UInt8)}, sl.lookup i = none → (sl ++ [(i, x)]).lookup j = if j = i then some x else sl.lookup j
  | [], _ => by
    simp only [List.nil_append, List.lookup_cons, List.lookup_nil]
    by_cases e : j = i
    · subst e; simp
    · rw [beq_eq_false_iff_ne.mpr e]; simp [e]
  | (k, c) :: r, h => by
    rw [List.lookup_cons] at h
    by_cases e : i = k
    · subst e; simp at h
    · rw [beq_eq_false_iff_ne.mpr e] at h
      have ih := lookup_snoc (j := j) (x := x) h
      rw [List.cons_append, List.lookup_cons, List.lookup_cons, ih]
      by_cases e2 : j = k
      · subst e2; simp [Ne.symm e]
      · rw [beq_eq_false_iff_ne.mpr e2]
theorem Qd.Ok.put {q : Qd} (hq : q.Ok) {i : Int} {a : Addr} {x : Array UInt8} (nd : ({ q with sl := q.sl ++ [(i, a, x)] } : Qd).as.Nodup) (hx : x.size = q.wd.toNat) (hi : 0 ≤ i ∧ i ≤ q.most) (hn : q.sl.lookup i = none) : ({ q with sl := q.sl ++ [(i, a, x)] } : Qd).Ok := by
  obtain ⟨a1, a2, a3, a4, a5, a6, a7, a8, a9, a10, a11, a12, a13⟩ := hq
  refine ⟨a1, a2, a3, a4, a5, a6, a7, a8, a9, ?_, fun e he => ?_, fun e he => ?_, nd⟩
  · dsimp only; rw [List.map_append, List.map_cons, List.map_nil]
    refine List.nodup_append.mpr ⟨a10, by simp, fun y hy z hz => ?_⟩
    rcases List.mem_singleton.mp hz with rfl
    exact fun e => lookup_none_mem hn (e ▸ hy)
  · rcases List.mem_append.mp he with he | he
    · exact a11 e he
    · rcases List.mem_singleton.mp he with rfl; exact hi
  · rcases List.mem_append.mp he with he | he
    · exact a12 e he
    · rcases List.mem_singleton.mp he with rfl; exact hx
section
variable {prog : Program} {w : World} {A : Around} {E : Value → Shared → Prop} {s : Shared} {mg mb : Str → Option Value} {h₀ : Heap} {L : Addr} {m : Str → Option Value} {q : Qd} {dp un : Nat} {fr : Option (List Env)} {gd : Option (List Code)}
set_option maxHeartbeats 0 in
theorem c_lay {i : Int} {ti tb : Tok} {b : Array UInt8} {Q : Value → Shared → Prop} {g₀ : Heap} (R : Rm (AN dp un fr gd) 2) (Y : Lay w mg mb g₀) (k : Kp g₀ s.heap) (hg : ∀ a ∈ q.as, g₀.get? a = none) (H : QAt prog w s.heap q) (hq : q.Ok) (hi : 0 ≤ i ∧ i ≤ q.most) (hb : b.size = q.wd.toNat)
    (hQ : ∀ q' h' tk, Mut prog w s.heap h' q q' → q'.Ok → q'.hd = q.hd → q'.tl = q.tl → (∀ j, j ≠ i → q'.sl.lookup j = q.sl.lookup j) → (∃ a, q'.sl.lookup i = some (a, b)) → Q .none { s with heap := h', toks := tk }) :
    wpT (model prog w) (AN dp un fr gd) (call (.ref 238) [.ref q.x, .int i ti, .bytes b tb]) Q E s := by
  obtain ⟨qs, IQ, KQ⟩ := H
  refine wpT_call ?_
  refine' enterX (b := true) (binds := [(Str.ofString "self", .ref q.x), (Str.ofString "slot", .int i ti), (Str.ofString "octets", .bytes b tb)]) qs ?k0 R Y k ?k1 ?k2 ?k3 ?k4 ?_ ?k5 ?k6 ?k7 ?k8
  case k0 => exact fun p hp => ⟨KQ p hp, hg _ (IQ.addrs ▸ List.mem_map_of_mem hp)⟩
  case k1 => k_is
  case k2 => k_is
  case k3 => exact BindsTo.of_eq rfl
  case k4 => exact locs rfl
  case k5 => decide
  case k6 => exact rfl
  case k7 => exact rfl
  case k8 => exact rfl
  clear Y k
  rw [IQ.addrs]
  intro L h₁ Y Hg F N R'
  generalize hideAll s.heap q.as = g at Y Hg F N
  have O := Own.of_hid IQ N hq.ad
  clear N IQ KQ qs
  have N : News g L h₁ [] := News.nil
  have X := Y.X
  have T := Y.T
  refine wpX_execs_cons ?_
  refine wpX_If (wpX.of ?_)
  repeat' ((fail_if_success (first | (with_reducible show Exists _) | (with_reducible show wpAny _ _ (exec (Stmt.While _ _ _ _) _) _ _ _) | (with_reducible show wpAny _ _ (exec (Stmt.For _ _ _ _ _) _) _ _ _) | (with_reducible show wpAny _ _ (eval (Expr.ListComp _ _ _ _) _) _ _ _))); first | (k_unfold; (try dsimp only)) | walk1 | (dsimp only; walk1))
  · rename_i hin
    rw [lookup_valueAt, Option.isSome_iff_exists] at hin
    obtain ⟨⟨a, y⟩, hl⟩ := hin
    have hys : b.size = y.size := hb.trans (hq.sizes _ (mem_of_lookup hl)).symm
    have hbz : b.size ≤ sizeLine := by rw [hb, sizeLine_eq]; have := hq.wd1; omega
    refine wpX_execs_cons ?_
    refine wpX_Assign (wpX.of ?_)
    repeat' ((fail_if_success (first | (with_reducible show Exists _) | (with_reducible show wpAny _ _ (exec (Stmt.While _ _ _ _) _) _ _ _) | (with_reducible show wpAny _ _ (exec (Stmt.For _ _ _ _ _) _) _ _ _) | (with_reducible show wpAny _ _ (eval (Expr.ListComp _ _ _ _) _) _ _ _))); first | (k_unfold; (try dsimp only)) | walk1 | (dsimp only; walk1))
    refine wpX_store ?_
    repeat' ((fail_if_success (first | (with_reducible show Exists _) | (with_reducible show wpAny _ _ (exec (Stmt.While _ _ _ _) _) _ _ _) | (with_reducible show wpAny _ _ (exec (Stmt.For _ _ _ _ _) _) _ _ _) | (with_reducible show wpAny _ _ (eval (Expr.ListComp _ _ _ _) _) _ _ _))); first | (k_unfold; (try dsimp only)) | walk1 | (dsimp only; walk1))
    dsimp only
    refine q_put_old (i := i) (F.push _) (O.keeps fun b o e => Heap.get?_push_of_some _ e) hq.nodup hl (Heap.get?_push_size _ rfl) hbz hys fun h' F' O' => ?_
    refine wpX_execs_nil ?_
    refine wpX_execs_nil ?_
    refine hQ _ _ _ (Mut.of_body F' O' Hg ⟨rfl, rfl, rfl, rfl⟩) (hq.putIn O'.nd hb) rfl rfl (fun j hj => ?_) ⟨a, ?_⟩
    · dsimp only; rw [lookup_putIn]; simp [hj]
    · dsimp only; rw [lookup_putIn, hl]; simp
  · rename_i hin
    rw [lookup_valueAt] at hin
    have hin' : q.sl.lookup i = none := by cases e : q.sl.lookup i with
      | none => rfl
      | some _ => rw [e] at hin; cases hin
    refine wpX_execs_cons ?_
    refine wpX_Assign ?_
    refine wpX_CallName ?_
    repeat' ((fail_if_success (first | (with_reducible show Exists _) | (with_reducible show wpAny _ _ (exec (Stmt.While _ _ _ _) _) _ _ _) | (with_reducible show wpAny _ _ (exec (Stmt.For _ _ _ _ _) _) _ _ _) | (with_reducible show wpAny _ _ (eval (Expr.ListComp _ _ _ _) _) _ _ _))); first | (k_unfold; (try dsimp only)) | walk1 | (dsimp only; walk1))
    refine wpX_callWith_B rfl ?_
    repeat' ((fail_if_success (first | (with_reducible show Exists _) | (with_reducible show wpAny _ _ (exec (Stmt.While _ _ _ _) _) _ _ _) | (with_reducible show wpAny _ _ (exec (Stmt.For _ _ _ _ _) _) _ _ _) | (with_reducible show wpAny _ _ (eval (Expr.ListComp _ _ _ _) _) _ _ _))); first | (k_unfold; (try dsimp only)) | walk1 | (dsimp only; walk1))
    refine ba_of_bytes ?_ ?_
    · rw [hb, sizeLine_eq]; have := hq.wd1; omega
    intro h' a ea hba kp
    dsimp only at ea kp
    have Fa := (show Fr g L h₁ _ by assumption)
    have na : ∀ o, h₁.get? a ≠ some o := fun o e => by have := Heap.lt_size e; rw [ea] at this; exact Nat.lt_irrefl _ this
    have naq : a ∉ q.as := fun hm => by
      obtain ⟨qs, i, k⟩ := O.at_
      rw [← i.addrs] at hm
      obtain ⟨p, hp, rfl⟩ := List.mem_map.mp hm
      exact na _ (k p hp)
    have nL : a ≠ L := fun e => by obtain ⟨oL, _, _, hL, _⟩ := Fa.ns; exact na _ (e ▸ hL)
    have ng : g.get? a = none := by
      cases e : g.get? a with
      | none => rfl
      | some o => exact (na _ (Fa.keep _ _ e)).elim
    have F' := Fr.keeps Fa kp
    have O1 := O.keeps kp
    have N' : News g L h' [] := News.nil
    clear N O Fa
    rename Fr g L h₁ _ => F0
    clear F0
    refine wpX_store ?_
    dsimp only
    repeat' ((fail_if_success (first | (with_reducible show Exists _) | (with_reducible show wpAny _ _ (exec (Stmt.While _ _ _ _) _) _ _ _) | (with_reducible show wpAny _ _ (exec (Stmt.For _ _ _ _ _) _) _ _ _) | (with_reducible show wpAny _ _ (eval (Expr.ListComp _ _ _ _) _) _ _ _))); first | (k_unfold; (try dsimp only)) | walk1 | (dsimp only; walk1))
    refine wpX.of (q_put_new F' O1 hba naq nL ng hin' (by have := hq.slen; rw [sizeLine_eq]; omega) fun h2 _ F2 O2 => ?_)
    refine wpX_execs_nil ?_
    refine wpX_execs_nil ?_
    refine hQ _ _ _ (Mut.of_body F2 O2 Hg ⟨rfl, rfl, rfl, rfl⟩) (hq.put O2.nd hb hi hin') rfl rfl (fun j hj => ?_) ⟨a, ?_⟩
    · dsimp only; rw [lookup_snoc hin']; simp [hj]
    · dsimp only; rw [lookup_snoc hin']; simp
end

/-- the law's due_push -/
noncomputable def duePush (most : Int) (rows : List (Array UInt8)) (b : Array UInt8) (flags : Int) : Int × List (Array UInt8) :=
  if flags ≠ 0 ∧ flags ≠ 2 then (-22, rows)
  else if (rows.length : Int) = most ∧ flags = 0 then (-7, rows)
  else (0, (if (rows.length : Int) = most then rows.tail else rows) ++ [b])
theorem Qd.full_iff {q : Qd} (hq : q.Ok) : q.next q.hd = q.tl ↔ q.cnt = q.most := by
  obtain ⟨a, b, c, d, e, f, _⟩ := hq
  unfold Qd.next Qd.cnt; split <;> split <;> omega
theorem Qd.empty_iff {q : Qd} (hq : q.Ok) : q.hd = q.tl ↔ q.cnt = 0 := by
  obtain ⟨a, b, c, d, e, f, _⟩ := hq
  unfold Qd.cnt; split <;> omega
theorem Qd.next_in {q : Qd} {i : Int} (h : 0 ≤ i ∧ i ≤ q.most) : 0 ≤ q.next i ∧ q.next i ≤ q.most := by unfold Qd.next; split <;> omega
theorem Qd.prev_in {q : Qd} {i : Int} (h : 0 ≤ i ∧ i ≤ q.most) : 0 ≤ q.prev i ∧ q.prev i ≤ q.most := by unfold Qd.prev; split <;> omega
theorem Qd.Ok.tl {q : Qd} (hq : q.Ok) {i : Int} (hi : 0 ≤ i ∧ i ≤ q.most) : ({ q with tl := i } : Qd).Ok := by
  obtain ⟨a1, a2, a3, a4, a5, a6, a7, a8, a9, a10, a11, a12, a13⟩ := hq
  exact ⟨a1, a2, a3, a4, hi.1, hi.2, a7, a8, a9, a10, a11, a12, a13⟩
theorem Qd.Ok.hd {q : Qd} (hq : q.Ok) {i : Int} (hi : 0 ≤ i ∧ i ≤ q.most) : ({ q with hd := i } : Qd).Ok := by
  obtain ⟨a1, a2, a3, a4, a5, a6, a7, a8, a9, a10, a11, a12, a13⟩ := hq
  exact ⟨a1, a2, hi.1, hi.2, a5, a6, a7, a8, a9, a10, a11, a12, a13⟩
theorem Holds.drop {q : Qd} (hq : q.Ok) {rows : List (Array UInt8)} (h : Holds q rows) (hne : q.hd ≠ q.tl) : Holds { q with tl := q.next q.tl } rows.tail := by
  have hc := Qd.cnt_le hq
  have h0 : q.cnt ≠ 0 := fun e => hne ((Qd.empty_iff hq).mpr e)
  have hl := h.1
  obtain ⟨a, b, c, d, e, f, _⟩ := hq
  refine ⟨?_, fun k x hk => ?_⟩
  · rw [List.length_tail]
    have : (({ q with tl := q.next q.tl } : Qd).cnt : Int) = q.cnt - 1 := by
      unfold Qd.cnt Qd.next at *; dsimp only; split <;> split <;> split at h0 <;> omega
    rw [this]; omega
  · rw [List.getElem?_tail] at hk
    obtain ⟨y, hy⟩ := h.2 (k + 1) x hk
    refine ⟨y, ?_⟩
    have hk' : k + 1 < rows.length := (List.getElem?_eq_some_iff.mp hk).1
    have : ({ q with tl := q.next q.tl } : Qd).place (k : Int) = q.place ((k + 1 : Nat) : Int) := by
      unfold Qd.place Qd.next; dsimp only; split <;> split <;> split <;> omega
    rw [this]; exact hy
theorem Holds.push {q q' : Qd} (hq : q.Ok) {rows : List (Array UInt8)} {x : Array UInt8} (h : Holds q rows) (hlt : q.cnt < q.most) (e1 : q'.hd = q.hd) (e2 : q'.tl = q.tl) (e3 : q'.most = q.most)
    (l1 : ∀ j, j ≠ q.hd → q'.sl.lookup j = q.sl.lookup j) (l2 : ∃ a, q'.sl.lookup q.hd = some (a, x)) : Holds { q' with hd := q'.next q'.hd } (rows ++ [x]) := by
  have hc := Qd.cnt_le hq
  have hl := h.1
  have hpl : ∀ k : Int, ({ q' with hd := q'.next q'.hd } : Qd).place k = q.place k := fun k => by unfold Qd.place; dsimp only; rw [e2, e3]
  refine ⟨?_, fun k y hk => ?_⟩
  · rw [List.length_append, List.length_singleton]
    have : (({ q' with hd := q'.next q'.hd } : Qd).cnt : Int) = q.cnt + 1 := by
      obtain ⟨a, b, c, d, e, f, _⟩ := hq
      unfold Qd.cnt Qd.next at *; dsimp only; rw [e1, e2, e3]; split <;> split <;> split at hlt <;> omega
    rw [this]; omega
  · rw [hpl]
    by_cases hk' : k < rows.length
    · rw [List.getElem?_append_left hk'] at hk
      obtain ⟨a, ha⟩ := h.2 k y hk
      refine ⟨a, ?_⟩
      dsimp only
      rw [l1 _ fun e => ?_]
      · exact ha
      · have := (Qd.place_hd hq (by omega) (by omega)).mp e; omega
    · rw [List.getElem?_append_right (by omega)] at hk
      have h1 : k - rows.length < [x].length := (List.getElem?_eq_some_iff.mp hk).1
      have h2 : k = rows.length := by rw [List.length_singleton] at h1; omega
      subst h2
      simp only [Nat.sub_self, List.getElem?_cons_zero, Option.some.injEq] at hk
      subst hk
      obtain ⟨a, ha⟩ := l2
      refine ⟨a, ?_⟩
      dsimp only
      rw [(Qd.place_hd hq (by omega) (by omega)).mpr (by omega)]; exact ha
theorem Mut.refl {prog : Program} {w : World} {h h' : Heap} {q : Qd} (H : QAt prog w h' q) (hq : q.Ok) (k : Kp h h') : Mut prog w h h' q q := ⟨fun b o _ e => k b o e, fun _ h => .inl h, H, hq.ad, rfl, rfl, rfl, rfl⟩
section
variable {prog : Program} {w : World} {A : Around} {E : Value → Shared → Prop} {s : Shared} {mg mb : Str → Option Value} {h₀ : Heap} {L : Addr} {m : Str → Option Value} {q : Qd} {dp un : Nat} {fr : Option (List Env)} {gd : Option (List Code)}
theorem QAt.of_news {g h : Heap} {qs news : List (Addr × Obj)} (I : IsQ prog w q qs) (N : News g L h news) (sub : ∀ p ∈ qs, p ∈ news) : QAt prog w h q := ⟨qs, I, fun p hp => (N p (sub p hp)).1⟩
theorem q_setn_tl {i : Int} {t : Tok} {Q : Unit → Shared → Prop} {g : Heap} {qs : List (Addr × Obj)} (F : Fr g L s.heap m) (X : (hd.heap_1 w.params).In g) (N : News g L s.heap qs) (I : IsQ prog w q qs) (nd : q.as.Nodup)
    (h : ∀ h' q' qs', q' = { q with tl := i } → q.x = q'.x → Fr g L h' m → IsQ prog w q' qs' → News g L h' qs' → Q () { s with heap := h', toks := s.toks + 2 }) :
    wpAny (model prog w) A (setAttr (.ref q.x) (Str.ofString "tail") (.int i t)) Q E s :=
  q_set_tl F X (Own.of_hid I N nd) fun h' a O => by
    obtain ⟨⟨qs', I', k⟩, nl, ng, _⟩ := O
    exact h h' _ qs' rfl rfl a I' fun p hp => ⟨k p hp, nl _ (I'.addrs ▸ List.mem_map_of_mem hp), ng _ (I'.addrs ▸ List.mem_map_of_mem hp)⟩
theorem q_setn_hd {i : Int} {t : Tok} {Q : Unit → Shared → Prop} {g : Heap} {qs : List (Addr × Obj)} (F : Fr g L s.heap m) (X : (hd.heap_1 w.params).In g) (N : News g L s.heap qs) (I : IsQ prog w q qs) (nd : q.as.Nodup)
    (h : ∀ h' q' qs', q' = { q with hd := i } → q.x = q'.x → Fr g L h' m → IsQ prog w q' qs' → News g L h' qs' → Q () { s with heap := h', toks := s.toks + 2 }) :
    wpAny (model prog w) A (setAttr (.ref q.x) (Str.ofString "head") (.int i t)) Q E s :=
  q_set_hd F X (Own.of_hid I N nd) fun h' a O => by
    obtain ⟨⟨qs', I', k⟩, nl, ng, _⟩ := O
    exact h h' _ qs' rfl rfl a I' fun p hp => ⟨k p hp, nl _ (I'.addrs ▸ List.mem_map_of_mem hp), ng _ (I'.addrs ▸ List.mem_map_of_mem hp)⟩
theorem Mut.of_news {h g h' : Heap} {q' : Qd} {qs' : List (Addr × Obj)} (F : Fr g L h' m) (I : IsQ prog w q' qs') (N : News g L h' qs') (nd : q'.as.Nodup) (Hg : Hid h g q.as) (e : q'.x = q.x ∧ q'.kind = q.kind ∧ q'.wd = q.wd ∧ q'.most = q.most) : Mut prog w h h' q q' :=
  Mut.of_body F (Own.of_hid I N nd) Hg e
/-- the news after a change of the queue -/
inductive NewsQ (prog : Program) (w : World) (g : Heap) (L : Addr) (h' : Heap) (m : Str → Option Value) (q' : Qd) : Prop
  | mk (F : Fr g L h' m) (qs' : List (Addr × Obj)) (I : IsQ prog w q' qs') (N : News g L h' qs') : NewsQ prog w g L h' m q'
theorem Mut.news {g h h' : Heap} {q' : Qd} {qs : List (Addr × Obj)} (M : Mut prog w h h' q q') (F : Fr g L h m) (N : News g L h qs) (I : IsQ prog w q qs) (nd : q.as.Nodup) : NewsQ prog w g L h' m q' := by
  have O := Own.of_hid I N nd
  have F' := Mine.Fr.mut F O M
  obtain ⟨⟨qs', I', k⟩, nl, ng, _⟩ := Own.mut F O M
  exact ⟨F', qs', I', fun p hp => ⟨k p hp, nl _ (I'.addrs ▸ List.mem_map_of_mem hp), ng _ (I'.addrs ▸ List.mem_map_of_mem hp)⟩⟩
end
theorem kw_f_13 : True := by
  k_with "my q" => (first | exact QAt.of_news (by assumption) (by k_asm) (fun _ h => h) | exact QAt.of_news (by assumption) (by k_asm) (fun _ h => List.mem_cons_of_mem _ h) | exact QAt.of_news (by assumption) (by k_asm) (fun _ h => List.mem_cons_of_mem _ (List.mem_cons_of_mem _ h)))
  k_with "my nd" => (first | assumption | exact Qd.Ok.ad (by assumption))
  exact trivial
local macro_rules | `(tactic| walk_at "my put") => `(tactic| (intro h' q' qs' e' x' F' I' N'; (try rw [x'] at F'); (try rw [x']); (try k_sweep)))
theorem kw_f_14 : True := by
  k_with "setAttr ref" => ((with_reducible show wpAny _ _ (setAttr (Value.ref (Qd.x _)) _ _) _ _ _); first | (refine' q_setn_tl (by k_asm) (by k_asm) (by k_asm) (by assumption) (by walk_at "my nd") ?_; walk_at "my put") | (refine' q_setn_hd (by k_asm) (by k_asm) (by k_asm) (by assumption) (by walk_at "my nd") ?_; walk_at "my put"))
  exact trivial
section
variable {prog : Program} {w : World} {A : Around} {E : Value → Shared → Prop} {s : Shared} {mg mb : Str → Option Value} {h₀ : Heap} {L : Addr} {m : Str → Option Value} {q : Qd} {dp un : Nat} {fr : Option (List Env)} {gd : Option (List Code)}
set_option maxHeartbeats 0 in
theorem c_push {rows : List (Array UInt8)} {fl : Int} {tf tb : Tok} {b : Array UInt8} {Q : Value → Shared → Prop} {g₀ : Heap} (R : Rm (AN dp un fr gd) 4) (Y : Lay w mg mb g₀) (k : Kp g₀ s.heap) (hg : ∀ a ∈ q.as, g₀.get? a = none) (H : QAt prog w s.heap q) (hq : q.Ok) (hr : Holds q rows) (hb : b.size = q.wd.toNat)
    (hQ : ∀ q' t h' tk, Mut prog w s.heap h' q q' → q'.Ok → Holds q' (duePush q.most rows b fl).2 → Q (.int (duePush q.most rows b fl).1 t) { s with heap := h', toks := tk }) :
    wpT (model prog w) (AN dp un fr gd) (call (.ref 341) [.ref q.x, .bytes b tb, .int fl tf]) Q E s := by
  obtain ⟨qs, IQ, KQ⟩ := H
  refine wpT_call ?_
  refine' enterX (b := true) (binds := [(Str.ofString "self", .ref q.x), (Str.ofString "octets", .bytes b tb), (Str.ofString "flags", .int fl tf)]) qs ?k0 R Y k ?k1 ?k2 ?k3 ?k4 ?_ ?k5 ?k6 ?k7 ?k8
  case k0 => exact fun p hp => ⟨KQ p hp, hg _ (IQ.addrs ▸ List.mem_map_of_mem hp)⟩
  case k1 => k_is
  case k2 => k_is
  case k3 => exact BindsTo.of_eq rfl
  case k4 => exact locs rfl
  case k5 => decide
  case k6 => exact rfl
  case k7 => exact rfl
  case k8 => exact rfl
  clear Y k
  rw [IQ.addrs]
  intro L h₁ Y Hg F N R'
  generalize hideAll s.heap q.as = g at Y Hg F N
  clear KQ
  have X := Y.X
  have T := Y.T
  have hb1 : (b.size : Int) = q.wd := by rw [hb]; have := hq.wd0; omega
  have hb2 : b.size ≤ 1099511627776 := by have := hq.wd1; omega
  refine wpX_execs_cons (wpX.of ?_)
  repeat' ((fail_if_success (first | (with_reducible show Exists _) | (with_reducible show wpAny _ _ (exec (Stmt.While _ _ _ _) _) _ _ _) | (with_reducible show wpAny _ _ (exec (Stmt.For _ _ _ _ _) _) _ _ _) | (with_reducible show wpAny _ _ (eval (Expr.ListComp _ _ _ _) _) _ _ _))); first | (k_unfold; (try dsimp only)) | walk1 | (dsimp only; walk1))
  refine wpX_execs_cons (wpX.of ?_)
  repeat' ((fail_if_success (first | (with_reducible show Exists _) | (with_reducible show wpAny _ _ (exec (Stmt.While _ _ _ _) _) _ _ _) | (with_reducible show wpAny _ _ (exec (Stmt.For _ _ _ _ _) _) _ _ _) | (with_reducible show wpAny _ _ (eval (Expr.ListComp _ _ _ _) _) _ _ _))); first | (k_unfold; (try dsimp only)) | walk1 | (dsimp only; walk1))
  all_goals (try dsimp only)
  · have e : duePush q.most rows b fl = (-22, rows) := by unfold duePush; rw [if_pos ⟨by assumption, by assumption⟩]
    have fin := hQ q
    rw [e] at fin
    exact fin _ _ _ (Mut.of_news (by assumption) IQ (by assumption) hq.ad Hg ⟨rfl, rfl, rfl, rfl⟩) hq hr
  all_goals
    refine wpX_execs_cons (wpX.of ?_)
    repeat' ((fail_if_success (first | (with_reducible show Exists _) | (with_reducible show wpAny _ _ (exec (Stmt.While _ _ _ _) _) _ _ _) | (with_reducible show wpAny _ _ (exec (Stmt.For _ _ _ _ _) _) _ _ _) | (with_reducible show wpAny _ _ (eval (Expr.ListComp _ _ _ _) _) _ _ _))); first | (k_unfold; (try dsimp only)) | walk1 | (dsimp only; walk1))
    all_goals (try dsimp only)
  all_goals (try (exfalso; first | contradiction | omega))
  · rename_i q1 qs1 e1 x1 F1 I1 N1
    clear IQ
    have hne : q.hd ≠ q.tl := fun e => by have h1 := (Qd.full_iff hq).mp (by assumption); have h2 := (Qd.empty_iff hq).mp e; have := hq.most0; omega
    have st : q1.x = q.x ∧ q1.kind = q.kind ∧ q1.wd = q.wd ∧ q1.most = q.most := by rw [e1]; exact ⟨rfl, rfl, rfl, rfl⟩
    have hq1 : q1.Ok := by rw [e1]; exact hq.tl (Qd.next_in ⟨hq.tl0, hq.tl1⟩)
    have hr1 : Holds q1 rows.tail := by rw [e1]; exact hr.drop hq hne
    have hcn := (Qd.full_iff hq).mp (by assumption)
    have hlt : q1.cnt < q1.most := by have h1 := hr1.1; have h2 := hr.1; rw [List.length_tail] at h1; rw [st.2.2.2]; have := hq.most0; omega
    have hdue : duePush q.most rows b fl = (0, rows.tail ++ [b]) := by
      have h2 := hr.1
      unfold duePush; rw [if_neg (by omega), if_neg (by omega), if_pos (by omega)]
    refine wpX_execs_cons ?_
    refine wpX_Expr ?_
    refine wpX_CallMeth ?_
    repeat' ((fail_if_success (first | (with_reducible show Exists _) | (with_reducible show wpAny _ _ (exec (Stmt.While _ _ _ _) _) _ _ _) | (with_reducible show wpAny _ _ (exec (Stmt.For _ _ _ _ _) _) _ _ _) | (with_reducible show wpAny _ _ (eval (Expr.ListComp _ _ _ _) _) _ _ _))); first | (k_unfold; (try dsimp only)) | walk1 | (dsimp only; walk1))
    refine wpX_callWith_K X (by k_is) ?_
    repeat' ((fail_if_success (first | (with_reducible show Exists _) | (with_reducible show wpAny _ _ (exec (Stmt.While _ _ _ _) _) _ _ _) | (with_reducible show wpAny _ _ (exec (Stmt.For _ _ _ _ _) _) _ _ _) | (with_reducible show wpAny _ _ (eval (Expr.ListComp _ _ _ _) _) _ _ _))); first | (k_unfold; (try dsimp only)) | walk1 | (dsimp only; walk1))
    rename Fr _ _ _ _ => F3
    rename News _ _ _ _ => N3
    refine c_lay (g₀ := g) (Rm.mono R' (by decide)) Y F3.keep (fun a ha => (Own.of_hid I1 N3 hq1.ad).ng a ha) (QAt.of_news I1 N3 fun _ h => h) hq1 ⟨hq1.hd0, hq1.hd1⟩ (by rw [hb, st.2.2.1]) fun q2 h2 tk2 M2 ok2 e2 e3 l1 l2 => ?_
    obtain ⟨F2, qs2, I2, N2⟩ := Mut.news M2 F3 N3 I1 hq1.ad
    have x2 := M2.x.symm
    (try rw [x2] at F2)
    (try dsimp only at F2 N2)
    clear F3 N3 I1
    refine wpAny_pure ?_
    dsimp only
    refine wpX.of ?_
    repeat' ((fail_if_success (first | (with_reducible show Exists _) | (with_reducible show wpAny _ _ (exec (Stmt.While _ _ _ _) _) _ _ _) | (with_reducible show wpAny _ _ (exec (Stmt.For _ _ _ _ _) _) _ _ _) | (with_reducible show wpAny _ _ (eval (Expr.ListComp _ _ _ _) _) _ _ _))); first | (k_unfold; (try dsimp only)) | walk1 | (dsimp only; walk1))
    all_goals (try dsimp only)
    rename_i q3 qs3 e4 x4 F4 I4 N4
    have ok3 : q3.Ok := by rw [e4]; exact ok2.hd (Qd.next_in ⟨ok2.hd0, ok2.hd1⟩)
    have hh3 := hr1.push hq1 hlt e2 e3 M2.most l1 l2
    rw [← e4] at hh3
    have fin := hQ q3
    rw [hdue] at fin
    exact fin _ _ _ (Mut.of_news F4 I4 N4 ok3.ad Hg ⟨x4.symm.trans (x2.symm.trans st.1), by rw [e4]; exact M2.kind.trans st.2.1, by rw [e4]; exact M2.wd.trans st.2.2.1, by rw [e4]; exact M2.most.trans st.2.2.2⟩) ok3 hh3
  · rename_i F1 N1 hnf
    rename IsQ _ _ _ _ => I1
    have st : q.x = q.x ∧ q.kind = q.kind ∧ q.wd = q.wd ∧ q.most = q.most := ⟨rfl, rfl, rfl, rfl⟩
    have hq1 := hq
    have hr1 := hr
    have hlt : q.cnt < q.most := by have h1 := Qd.cnt_le hq; have : q.cnt ≠ q.most := fun e => hnf ((Qd.full_iff hq).mpr e); omega
    have hdue : duePush q.most rows b fl = (0, rows ++ [b]) := by
      have h2 := hr.1
      unfold duePush; rw [if_neg (by omega), if_neg (by omega), if_neg (by omega)]
    refine wpX_execs_cons ?_
    refine wpX_Expr ?_
    refine wpX_CallMeth ?_
    repeat' ((fail_if_success (first | (with_reducible show Exists _) | (with_reducible show wpAny _ _ (exec (Stmt.While _ _ _ _) _) _ _ _) | (with_reducible show wpAny _ _ (exec (Stmt.For _ _ _ _ _) _) _ _ _) | (with_reducible show wpAny _ _ (eval (Expr.ListComp _ _ _ _) _) _ _ _))); first | (k_unfold; (try dsimp only)) | walk1 | (dsimp only; walk1))
    refine wpX_callWith_K X (by k_is) ?_
    repeat' ((fail_if_success (first | (with_reducible show Exists _) | (with_reducible show wpAny _ _ (exec (Stmt.While _ _ _ _) _) _ _ _) | (with_reducible show wpAny _ _ (exec (Stmt.For _ _ _ _ _) _) _ _ _) | (with_reducible show wpAny _ _ (eval (Expr.ListComp _ _ _ _) _) _ _ _))); first | (k_unfold; (try dsimp only)) | walk1 | (dsimp only; walk1))
    rename Fr _ _ _ _ => F3
    rename News _ _ _ _ => N3
    refine c_lay (g₀ := g) (Rm.mono R' (by decide)) Y F3.keep (fun a ha => (Own.of_hid I1 N3 hq1.ad).ng a ha) (QAt.of_news I1 N3 fun _ h => h) hq1 ⟨hq1.hd0, hq1.hd1⟩ (by rw [hb, st.2.2.1]) fun q2 h2 tk2 M2 ok2 e2 e3 l1 l2 => ?_
    obtain ⟨F2, qs2, I2, N2⟩ := Mut.news M2 F3 N3 I1 hq1.ad
    have x2 := M2.x.symm
    (try rw [x2] at F2)
    (try dsimp only at F2 N2)
    clear F3 N3 I1
    refine wpAny_pure ?_
    dsimp only
    refine wpX.of ?_
    repeat' ((fail_if_success (first | (with_reducible show Exists _) | (with_reducible show wpAny _ _ (exec (Stmt.While _ _ _ _) _) _ _ _) | (with_reducible show wpAny _ _ (exec (Stmt.For _ _ _ _ _) _) _ _ _) | (with_reducible show wpAny _ _ (eval (Expr.ListComp _ _ _ _) _) _ _ _))); first | (k_unfold; (try dsimp only)) | walk1 | (dsimp only; walk1))
    all_goals (try dsimp only)
    rename_i q3 qs3 e4 x4 F4 I4 N4
    have ok3 : q3.Ok := by rw [e4]; exact ok2.hd (Qd.next_in ⟨ok2.hd0, ok2.hd1⟩)
    have hh3 := hr1.push hq1 hlt e2 e3 M2.most l1 l2
    rw [← e4] at hh3
    have fin := hQ q3
    rw [hdue] at fin
    exact fin _ _ _ (Mut.of_news F4 I4 N4 ok3.ad Hg ⟨x4.symm.trans (x2.symm.trans st.1), by rw [e4]; exact M2.kind.trans st.2.1, by rw [e4]; exact M2.wd.trans st.2.2.1, by rw [e4]; exact M2.most.trans st.2.2.2⟩) ok3 hh3
  · have e : duePush q.most rows b fl = (-7, rows) := by
      have h2 := hr.1
      have := (Qd.full_iff hq).mp (by assumption)
      unfold duePush; rw [if_neg (by omega), if_pos (by omega)]
    have fin := hQ q
    rw [e] at fin
    exact fin _ _ _ (Mut.of_news (by assumption) IQ (by assumption) hq.ad Hg ⟨rfl, rfl, rfl, rfl⟩) hq hr
  · rename_i F1 N1 hnf
    rename IsQ _ _ _ _ => I1
    have st : q.x = q.x ∧ q.kind = q.kind ∧ q.wd = q.wd ∧ q.most = q.most := ⟨rfl, rfl, rfl, rfl⟩
    have hq1 := hq
    have hr1 := hr
    have hlt : q.cnt < q.most := by have h1 := Qd.cnt_le hq; have : q.cnt ≠ q.most := fun e => hnf ((Qd.full_iff hq).mpr e); omega
    have hdue : duePush q.most rows b fl = (0, rows ++ [b]) := by
      have h2 := hr.1
      unfold duePush; rw [if_neg (by omega), if_neg (by omega), if_neg (by omega)]
    refine wpX_execs_cons ?_
    refine wpX_Expr ?_
    refine wpX_CallMeth ?_
    repeat' ((fail_if_success (first | (with_reducible show Exists _) | (with_reducible show wpAny _ _ (exec (Stmt.While _ _ _ _) _) _ _ _) | (with_reducible show wpAny _ _ (exec (Stmt.For _ _ _ _ _) _) _ _ _) | (with_reducible show wpAny _ _ (eval (Expr.ListComp _ _ _ _) _) _ _ _))); first | (k_unfold; (try dsimp only)) | walk1 | (dsimp only; walk1))
    refine wpX_callWith_K X (by k_is) ?_
    repeat' ((fail_if_success (first | (with_reducible show Exists _) | (with_reducible show wpAny _ _ (exec (Stmt.While _ _ _ _) _) _ _ _) | (with_reducible show wpAny _ _ (exec (Stmt.For _ _ _ _ _) _) _ _ _) | (with_reducible show wpAny _ _ (eval (Expr.ListComp _ _ _ _) _) _ _ _))); first | (k_unfold; (try dsimp only)) | walk1 | (dsimp only; walk1))
    rename Fr _ _ _ _ => F3
    rename News _ _ _ _ => N3
    refine c_lay (g₀ := g) (Rm.mono R' (by decide)) Y F3.keep (fun a ha => (Own.of_hid I1 N3 hq1.ad).ng a ha) (QAt.of_news I1 N3 fun _ h => h) hq1 ⟨hq1.hd0, hq1.hd1⟩ (by rw [hb, st.2.2.1]) fun q2 h2 tk2 M2 ok2 e2 e3 l1 l2 => ?_
    obtain ⟨F2, qs2, I2, N2⟩ := Mut.news M2 F3 N3 I1 hq1.ad
    have x2 := M2.x.symm
    (try rw [x2] at F2)
    (try dsimp only at F2 N2)
    clear F3 N3 I1
    refine wpAny_pure ?_
    dsimp only
    refine wpX.of ?_
    repeat' ((fail_if_success (first | (with_reducible show Exists _) | (with_reducible show wpAny _ _ (exec (Stmt.While _ _ _ _) _) _ _ _) | (with_reducible show wpAny _ _ (exec (Stmt.For _ _ _ _ _) _) _ _ _) | (with_reducible show wpAny _ _ (eval (Expr.ListComp _ _ _ _) _) _ _ _))); first | (k_unfold; (try dsimp only)) | walk1 | (dsimp only; walk1))
    all_goals (try dsimp only)
    rename_i q3 qs3 e4 x4 F4 I4 N4
    have ok3 : q3.Ok := by rw [e4]; exact ok2.hd (Qd.next_in ⟨ok2.hd0, ok2.hd1⟩)
    have hh3 := hr1.push hq1 hlt e2 e3 M2.most l1 l2
    rw [← e4] at hh3
    have fin := hQ q3
    rw [hdue] at fin
    exact fin _ _ _ (Mut.of_news F4 I4 N4 ok3.ad Hg ⟨x4.symm.trans (x2.symm.trans st.1), by rw [e4]; exact M2.kind.trans st.2.1, by rw [e4]; exact M2.wd.trans st.2.2.1, by rw [e4]; exact M2.most.trans st.2.2.2⟩) ok3 hh3
end

/-- the law's due_pop -/
noncomputable def duePop (kind : Str) (rows : List (Array UInt8)) : Option (Array UInt8) × List (Array UInt8) :=
  if rows = [] then (none, rows)
  else if (kind == Str.ofString "queue") = true then (rows.head?, rows.tail) else (rows.getLast?, rows.dropLast)
noncomputable def IsOpt (v : Value) : Option (Array UInt8) → Prop
  | none => v = .none
  | some b => ∃ t, v = .bytes b t
theorem Holds.dropLast {q : Qd} (hq : q.Ok) {rows : List (Array UInt8)} (h : Holds q rows) (hne : q.hd ≠ q.tl) : Holds { q with hd := q.prev q.hd } rows.dropLast := by
  have hc := Qd.cnt_le hq
  have h0 : q.cnt ≠ 0 := fun e => hne ((Qd.empty_iff hq).mpr e)
  have hl := h.1
  refine ⟨?_, fun k x hk => ?_⟩
  · rw [List.length_dropLast]
    have : (({ q with hd := q.prev q.hd } : Qd).cnt : Int) = q.cnt - 1 := by
      obtain ⟨a, b, c, d, e, f, _⟩ := hq
      unfold Qd.cnt Qd.prev at *; dsimp only; split <;> split <;> split at h0 <;> omega
    rw [this]; omega
  · have hk' : k < rows.dropLast.length := (List.getElem?_eq_some_iff.mp hk).1
    rw [List.length_dropLast] at hk'
    rw [List.getElem?_dropLast, if_pos (by omega)] at hk
    obtain ⟨y, hy⟩ := h.2 k x hk
    exact ⟨y, hy⟩
theorem Holds.nxt {q : Qd} (hq : q.Ok) {rows : List (Array UInt8)} (h : Holds q rows) :
    ∃ pa pb, (q.hd ≠ q.tl → q.sl.lookup q.nxt = some (pa, pb)) ∧ (q.hd ≠ q.tl → (duePop q.kind rows).1 = some pb) ∧ pb.size ≤ sizeLine := by
  have hc := Qd.cnt_le hq
  have hl := h.1
  by_cases he : q.hd = q.tl
  · exact ⟨0, #[], fun e => (e he).elim, fun e => (e he).elim, Nat.zero_le _⟩
  have h0 : q.cnt ≠ 0 := fun e => he ((Qd.empty_iff hq).mpr e)
  have hz : ∀ {k a b}, q.sl.lookup k = some (a, b) → b.size ≤ sizeLine := fun hl => by rw [hq.size hl, sizeLine_eq]; have := hq.wd1; omega
  have hne : rows ≠ [] := fun e => by rw [e] at hl; simp at hl; omega
  by_cases hk : (q.kind == Str.ofString "queue") = true
  · obtain ⟨b, hb⟩ : ∃ b, rows[0]? = some b := ⟨rows[0]'(by omega), List.getElem?_eq_getElem (by omega)⟩
    obtain ⟨a, ha⟩ := h.2 0 b hb
    rw [show ((0 : Nat) : Int) = 0 from rfl, Qd.place_zero q hq] at ha
    refine ⟨a, b, fun _ => ?_, fun _ => ?_, hz ha⟩
    · unfold Qd.nxt; rw [if_pos hk]; exact ha
    · unfold duePop; rw [if_neg hne, if_pos hk]; rw [List.head?_eq_getElem?]; exact hb
  · obtain ⟨b, hb⟩ : ∃ b, rows[rows.length - 1]? = some b := ⟨rows[rows.length - 1]'(by omega), List.getElem?_eq_getElem (by omega)⟩
    obtain ⟨a, ha⟩ := h.2 _ b hb
    have hp : q.place ((rows.length - 1 : Nat) : Int) = q.prev q.hd := by
      have : ((rows.length - 1 : Nat) : Int) = q.cnt - 1 := by omega
      rw [this]
      obtain ⟨a, b, c, d, e, f, _⟩ := hq
      unfold Qd.place Qd.prev Qd.cnt at *; split <;> split <;> split at h0 <;> split at hl <;> omega
    rw [hp] at ha
    refine ⟨a, b, fun _ => ?_, fun _ => ?_, hz ha⟩
    · unfold Qd.nxt; rw [if_neg hk]; exact ha
    · unfold duePop; rw [if_neg hne, if_neg hk]; rw [List.getLast?_eq_getElem?]; exact hb
theorem Holds.nil_iff {q : Qd} (hq : q.Ok) {rows : List (Array UInt8)} (h : Holds q rows) : q.hd = q.tl ↔ rows = [] := by
  rw [Qd.empty_iff hq]
  have := h.1
  constructor
  · intro e; exact List.length_eq_zero_iff.mp (by omega)
  · intro e; rw [e] at this; simpa using this.symm
section
variable {prog : Program} {w : World} {A : Around} {E : Value → Shared → Prop} {s : Shared} {mg mb : Str → Option Value} {h₀ : Heap} {L : Addr} {m : Str → Option Value} {q : Qd} {dp un : Nat} {fr : Option (List Env)} {gd : Option (List Code)}
set_option maxHeartbeats 0 in
theorem c_peekR {rows : List (Array UInt8)} {Q : Value → Shared → Prop} (R : Rm (AN dp un fr gd) 4) (Y : Lay w mg mb s.heap) (H : QAt prog w s.heap q) (hq : q.Ok) (hr : Holds q rows)
    (hQ : ∀ v h' tk, Kp s.heap h' → IsOpt v (duePop q.kind rows).1 → Q v { s with heap := h', toks := tk }) :
    wpAny (model prog w) (AN dp un fr gd) (call (.ref 355) [.ref q.x]) Q E s := by
  obtain ⟨pa, pb, h1, h2, h3⟩ := hr.nxt hq
  refine c_peek R Y H hq h1 h3 (fun e h' tk k => hQ _ _ _ k ?_) (fun e t h' tk k => hQ _ _ _ k ?_)
  · have : (duePop q.kind rows).1 = none := by unfold duePop; rw [if_pos ((hr.nil_iff hq).mp e)]
    rw [this]; rfl
  · rw [h2 e]; exact ⟨t, rfl⟩
set_option maxHeartbeats 0 in
theorem c_pop {rows : List (Array UInt8)} {Q : Value → Shared → Prop} {g₀ : Heap} (R : Rm (AN dp un fr gd) 5) (Y : Lay w mg mb g₀) (k : Kp g₀ s.heap) (hg : ∀ a ∈ q.as, g₀.get? a = none) (H : QAt prog w s.heap q) (hq : q.Ok) (hr : Holds q rows)
    (hQ : ∀ q' v h' tk, Mut prog w s.heap h' q q' → q'.Ok → Holds q' (duePop q.kind rows).2 → IsOpt v (duePop q.kind rows).1 → Q v { s with heap := h', toks := tk }) :
    wpAny (model prog w) (AN dp un fr gd) (call (.ref 362) [.ref q.x]) Q E s := by
  obtain ⟨pa, pb, hs1, hs2, hs3⟩ := hr.nxt hq
  obtain ⟨qs, IQ, KQ⟩ := H
  refine wpAny_call ?_
  refine codeX.any ?_
  refine' enterX (b := false) (binds := [(Str.ofString "self", .ref q.x)]) qs ?k0 R Y k ?k1 ?k2 ?k3 ?k4 ?_ ?k5 ?k6 ?k7 ?k8
  case k0 => exact fun p hp => ⟨KQ p hp, hg _ (IQ.addrs ▸ List.mem_map_of_mem hp)⟩
  case k1 => k_is
  case k2 => k_is
  case k3 => exact BindsTo.of_eq rfl
  case k4 => exact locs rfl
  case k5 => decide
  case k6 => exact rfl
  case k7 => exact rfl
  case k8 => exact rfl
  clear Y k
  rw [IQ.addrs]
  intro L h₁ Y Hg F N R'
  generalize hideAll s.heap q.as = g at Y Hg F N
  clear KQ
  have X := Y.X
  have T := Y.T
  refine wpX.of ?_
  show wpAny _ _ _ _ _ _
  k_fold
  repeat' ((fail_if_success (first | (with_reducible show Exists _) | (with_reducible show wpAny _ _ (exec (Stmt.While _ _ _ _) _) _ _ _) | (with_reducible show wpAny _ _ (exec (Stmt.For _ _ _ _ _) _) _ _ _) | (with_reducible show wpAny _ _ (eval (Expr.ListComp _ _ _ _) _) _ _ _))); first | (k_unfold; (try dsimp only)) | walk1 | (dsimp only; walk1))
  all_goals (try dsimp only)
  · rename_i q3 qs3 e4 x4 F4 I4 N4
    have he : q.hd ≠ q.tl := by assumption
    have hne : rows ≠ [] := fun e => he ((hr.nil_iff hq).mpr e)
    have hk : (q.kind == Str.ofString "queue") = true := by assumption
    have ok3 : q3.Ok := by rw [e4]; exact hq.tl (Qd.next_in ⟨hq.tl0, hq.tl1⟩)
    have e5 : (duePop q.kind rows).2 = rows.tail := by unfold duePop; rw [if_neg hne]; simp [hk]
    have hh3 := hr.drop hq he
    rw [← e4, ← e5] at hh3
    exact hQ q3 _ _ _ (Mut.of_news F4 I4 N4 ok3.ad Hg ⟨x4.symm, by rw [e4], by rw [e4], by rw [e4]⟩) ok3 hh3 (by rw [hs2 he]; exact ⟨_, rfl⟩)
  · rename_i q3 qs3 e4 x4 F4 I4 N4
    have he : q.hd ≠ q.tl := by assumption
    have hne : rows ≠ [] := fun e => he ((hr.nil_iff hq).mpr e)
    have hk : (q.kind == Str.ofString "queue") = false := by assumption
    have ok3 : q3.Ok := by rw [e4]; exact hq.hd (Qd.prev_in ⟨hq.hd0, hq.hd1⟩)
    have e5 : (duePop q.kind rows).2 = rows.dropLast := by unfold duePop; rw [if_neg hne]; simp [hk]
    have hh3 := hr.dropLast hq he
    rw [← e4, ← e5] at hh3
    exact hQ q3 _ _ _ (Mut.of_news F4 I4 N4 ok3.ad Hg ⟨x4.symm, by rw [e4], by rw [e4], by rw [e4]⟩) ok3 hh3 (by rw [hs2 he]; exact ⟨_, rfl⟩)
  · have he : q.hd = q.tl := by assumption
    have e0 := (hr.nil_iff hq).mp he
    have e1 : duePop q.kind rows = (none, rows) := by unfold duePop; rw [if_pos e0]
    have fin := hQ q
    rw [e1] at fin
    exact fin _ _ _ (Mut.of_news (by assumption) IQ (by assumption) hq.ad Hg ⟨rfl, rfl, rfl, rfl⟩) hq hr rfl
end

section
variable {prog : Program} {w : World} {A : Around} {E : Value → Shared → Prop} {s : Shared} {mg mb : Str → Option Value} {h₀ : Heap} {L : Addr} {m : Str → Option Value} {q : Qd} {dp un : Nat} {fr : Option (List Env)} {gd : Option (List Code)}
set_option maxHeartbeats 0 in
theorem c_stride {i : Int} {t : Tok} {Q : Value → Shared → Prop} (R : Rm (AN dp un fr gd) 1) (Y : Lay w mg mb s.heap) (hi : 0 ≤ i ∧ i ≤ 1000)
    (hQ : ∀ r t h' tk, Kp s.heap h' → 8 ≤ r → r ≤ 1016 → Q (.int r t) { s with heap := h', toks := tk }) :
    wpAny (model prog w) (AN dp un fr gd) (call (.ref 68) [.int i t]) Q E s := by
  refine wpAny_call ?_
  refine' enterA (binds := [(Str.ofString "width", .int i t)]) R Y ?k1 ?k2 ?k3 ?k4 ?_ ?k5 ?k6 ?k7 ?k8
  case k1 => k_is
  case k2 => k_is
  case k3 => exact BindsTo.of_eq rfl
  case k4 => exact locs rfl
  case k5 => decide
  case k6 => exact rfl
  case k7 => exact rfl
  case k8 => exact rfl
  intro L h₁ F N R'
  have X := Y.X
  have T := Y.T
  show wpAny _ _ _ _ _ _
  k_fold
  repeat' ((fail_if_success (first | (with_reducible show Exists _) | (with_reducible show wpAny _ _ (exec (Stmt.While _ _ _ _) _) _ _ _) | (with_reducible show wpAny _ _ (exec (Stmt.For _ _ _ _ _) _) _ _ _) | (with_reducible show wpAny _ _ (eval (Expr.ListComp _ _ _ _) _) _ _ _))); first | (k_unfold; (try dsimp only)) | walk1 | (dsimp only; walk1))
  exact hQ _ _ _ _ (Fr.keep (by k_asm)) (by rw [Int.fdiv_eq_ediv_of_nonneg _ (by decide)]; omega) (by rw [Int.fdiv_eq_ediv_of_nonneg _ (by decide)]; omega)
set_option maxHeartbeats 0 in
theorem c_check_key_width {kind : Str} {tk t : Tok} {Q : Value → Shared → Prop} (R : Rm (AN dp un fr gd) 1) (Y : Lay w mg mb s.heap) (hk : kind = Str.ofString "queue" ∨ kind = Str.ofString "stack")
    (hQ : ∀ h' tk, Kp s.heap h' → Q .none { s with heap := h', toks := tk }) :
    wpAny (model prog w) (AN dp un fr gd) (call (.ref 82) [.str kind tk, .int 0 t]) Q E s := by
  rcases hk with rfl | rfl
  ·
    refine wpAny_call ?_
    refine' enterA (binds := [(Str.ofString "kind", .str (Str.ofString "queue") tk), (Str.ofString "key_width", .int 0 t)]) R Y ?k1 ?k2 ?k3 ?k4 ?_ ?k5 ?k6 ?k7 ?k8
    case k1 => k_is
    case k2 => k_is
    case k3 => exact BindsTo.of_eq rfl
    case k4 => exact locs rfl
    case k5 => decide
    case k6 => exact rfl
    case k7 => exact rfl
    case k8 => exact rfl
    intro L h₁ F N R'
    have X := Y.X
    have T := Y.T
    show wpAny _ _ _ _ _ _
    k_fold
    repeat' ((fail_if_success (first | (with_reducible show Exists _) | (with_reducible show wpAny _ _ (exec (Stmt.While _ _ _ _) _) _ _ _) | (with_reducible show wpAny _ _ (exec (Stmt.For _ _ _ _ _) _) _ _ _) | (with_reducible show wpAny _ _ (eval (Expr.ListComp _ _ _ _) _) _ _ _))); first | (k_unfold; (try dsimp only)) | walk1 | (dsimp only; walk1))
    exact hQ _ _ (Fr.keep (by k_asm))
  ·
    refine wpAny_call ?_
    refine' enterA (binds := [(Str.ofString "kind", .str (Str.ofString "stack") tk), (Str.ofString "key_width", .int 0 t)]) R Y ?k1 ?k2 ?k3 ?k4 ?_ ?k5 ?k6 ?k7 ?k8
    case k1 => k_is
    case k2 => k_is
    case k3 => exact BindsTo.of_eq rfl
    case k4 => exact locs rfl
    case k5 => decide
    case k6 => exact rfl
    case k7 => exact rfl
    case k8 => exact rfl
    intro L h₁ F N R'
    have X := Y.X
    have T := Y.T
    show wpAny _ _ _ _ _ _
    k_fold
    repeat' ((fail_if_success (first | (with_reducible show Exists _) | (with_reducible show wpAny _ _ (exec (Stmt.While _ _ _ _) _) _ _ _) | (with_reducible show wpAny _ _ (exec (Stmt.For _ _ _ _ _) _) _ _ _) | (with_reducible show wpAny _ _ (eval (Expr.ListComp _ _ _ _) _) _ _ _))); first | (k_unfold; (try dsimp only)) | walk1 | (dsimp only; walk1))
    exact hQ _ _ (Fr.keep (by k_asm))
end
theorem kw_f_15 : True := by
  k_with "call ref" => ((with_reducible show wpAny _ _ (call (Value.ref 68) _) _ _ _); k_dflt (refine' c_stride (by walk_at "my rm") (by walk_at "my lay") (by omega) ?_; intro _ _; walk_at "my after"; intro _ _))
  k_with "call ref" => ((with_reducible show wpAny _ _ (call (Value.ref 82) _) _ _ _); k_dflt (refine' c_check_key_width (by walk_at "my rm") (by walk_at "my lay") (by first | exact .inl rfl | exact .inr rfl | assumption) ?_; walk_at "my after"))
  exact trivial
section
variable {prog : Program} {w : World} {A : Around} {E : Value → Shared → Prop} {s : Shared} {mg mb : Str → Option Value} {h₀ : Heap} {L : Addr} {m : Str → Option Value} {q : Qd} {dp un : Nat} {fr : Option (List Env)} {gd : Option (List Code)}
set_option maxHeartbeats 0 in
theorem c_check_widths {kind : Str} {tk t tw tm : Tok} {wd most : Int} {Q : Value → Shared → Prop} (R : Rm (AN dp un fr gd) 2) (Y : Lay w mg mb s.heap) (hk : kind = Str.ofString "queue" ∨ kind = Str.ofString "stack") (hw : 1 ≤ wd ∧ wd ≤ 4) (hm : 1 ≤ most ∧ most ≤ 6)
    (hQ : ∀ h' tk, Kp s.heap h' → Q .none { s with heap := h', toks := tk }) :
    wpAny (model prog w) (AN dp un fr gd) (call (.ref 89) [.str kind tk, .int 0 t, .int wd tw, .int most tm]) Q E s := by
  rcases hk with rfl | rfl
  ·
    refine wpAny_call ?_
    refine' enterA (binds := [(Str.ofString "kind", .str (Str.ofString "queue") tk), (Str.ofString "key_width", .int 0 t), (Str.ofString "value_width", .int wd tw), (Str.ofString "most", .int most tm)]) R Y ?k1 ?k2 ?k3 ?k4 ?_ ?k5 ?k6 ?k7 ?k8
    case k1 => k_is
    case k2 => k_is
    case k3 => exact BindsTo.of_eq rfl
    case k4 => exact locs rfl
    case k5 => decide
    case k6 => exact rfl
    case k7 => exact rfl
    case k8 => exact rfl
    intro L h₁ F N R'
    have X := Y.X
    have T := Y.T
    show wpAny _ _ _ _ _ _
    k_fold
    repeat' ((fail_if_success (first | (with_reducible show Exists _) | (with_reducible show wpAny _ _ (exec (Stmt.While _ _ _ _) _) _ _ _) | (with_reducible show wpAny _ _ (exec (Stmt.For _ _ _ _ _) _) _ _ _) | (with_reducible show wpAny _ _ (eval (Expr.ListComp _ _ _ _) _) _ _ _))); first | (k_unfold; (try dsimp only)) | walk1 | (dsimp only; walk1))
    all_goals (try dsimp only)
    · rename_i r1 r2 hbig
      exfalso
      rename Int => r
      have : r * (most + 1) ≤ 1016 * 7 := Int.mul_le_mul r2 (by omega) (by omega) (by omega)
      omega
    all_goals exact hQ _ _ (Fr.keep (by k_asm))
  ·
    refine wpAny_call ?_
    refine' enterA (binds := [(Str.ofString "kind", .str (Str.ofString "stack") tk), (Str.ofString "key_width", .int 0 t), (Str.ofString "value_width", .int wd tw), (Str.ofString "most", .int most tm)]) R Y ?k1 ?k2 ?k3 ?k4 ?_ ?k5 ?k6 ?k7 ?k8
    case k1 => k_is
    case k2 => k_is
    case k3 => exact BindsTo.of_eq rfl
    case k4 => exact locs rfl
    case k5 => decide
    case k6 => exact rfl
    case k7 => exact rfl
    case k8 => exact rfl
    intro L h₁ F N R'
    have X := Y.X
    have T := Y.T
    show wpAny _ _ _ _ _ _
    k_fold
    repeat' ((fail_if_success (first | (with_reducible show Exists _) | (with_reducible show wpAny _ _ (exec (Stmt.While _ _ _ _) _) _ _ _) | (with_reducible show wpAny _ _ (exec (Stmt.For _ _ _ _ _) _) _ _ _) | (with_reducible show wpAny _ _ (eval (Expr.ListComp _ _ _ _) _) _ _ _))); first | (k_unfold; (try dsimp only)) | walk1 | (dsimp only; walk1))
    all_goals (try dsimp only)
    · rename_i r1 r2 hbig
      exfalso
      rename Int => r
      have : r * (most + 1) ≤ 1016 * 7 := Int.mul_le_mul r2 (by omega) (by omega) (by omega)
      omega
    all_goals exact hQ _ _ (Fr.keep (by k_asm))
end

noncomputable abbrev qes6 (P : Params) (kind : Str) (wd most : Int) (vd : Addr) (t0 t1 t2 t3 t4 t5 t6 t7 t8 t9 t10 : Tok) : List DictEntry :=
  [⟨PyData.keyHash P (Str.ofString "kind"), .str (Str.ofString "kind") t0, .str kind t1⟩,
   ⟨PyData.keyHash P (Str.ofString "number"), .str (Str.ofString "number") t2, .int 3 t3⟩,
   ⟨PyData.keyHash P (Str.ofString "key_width"), .str (Str.ofString "key_width") t4, .int 0 t5⟩,
   ⟨PyData.keyHash P (Str.ofString "value_width"), .str (Str.ofString "value_width") t6, .int wd t7⟩,
   ⟨PyData.keyHash P (Str.ofString "most"), .str (Str.ofString "most") t8, .int most t9⟩,
   ⟨PyData.keyHash P (Str.ofString "values"), .str (Str.ofString "values") t10, .ref vd⟩]
theorem kw_f_16 : True := by
  k_with "call ref" => ((with_reducible show wpAny _ _ (call (Value.ref 89) _) _ _ _); k_dflt (refine' c_check_widths (by walk_at "my rm") (by walk_at "my lay") (by assumption) (by assumption) (by assumption) ?_; walk_at "my after"))
  exact trivial
section
variable {prog : Program} {w : World} {A : Around} {E : Value → Shared → Prop} {s : Shared} {mg mb : Str → Option Value} {h₀ : Heap} {L : Addr} {m : Str → Option Value} {q : Qd} {dp un : Nat} {fr : Option (List Env)} {gd : Option (List Code)}
set_option maxHeartbeats 0 in
theorem c_map_init {x dx : Addr} {kind : Str} {tk t tn tw tm : Tok} {wd most : Int} {Q : Value → Shared → Prop} {g₀ : Heap} (R : Rm (AN dp un fr gd) 3) (Y : Lay w mg mb g₀) (k : Kp g₀ s.heap)
    (hx : s.heap.get? x = some (instObj 412 dx)) (hdx : s.heap.get? dx = some emptyDict) (gx : g₀.get? x = none) (gdx : g₀.get? dx = none) (ne : x ≠ dx)
    (hk : kind = Str.ofString "queue" ∨ kind = Str.ofString "stack") (hw : 1 ≤ wd ∧ wd ≤ 4) (hm : 1 ≤ most ∧ most ≤ 6)
    (hQ : ∀ (vd : Addr) (ov : Obj) (t0 t1 t2 t3 t4 t5 : Tok) (h' : Heap) (tk' : Nat), (∀ b o, b ≠ dx → s.heap.get? b = some o → h'.get? b = some o) → s.heap.get? vd = none → h'.get? vd = some ov → ov.IsDictOf (intKind prog w) [] → (vd == sysModules) = false →
      h'.get? dx = some (dictOf (qes6 w.params kind wd most vd t0 tk t1 tn t2 t t3 tw t4 tm t5) 6) → Q .none { s with heap := h', toks := tk' }) :
    wpAny (model prog w) (AN dp un fr gd) (call (.ref 103) [.ref x, .str kind tk, .int 3 tn, .int 0 t, .int wd tw, .int most tm]) Q E s := by
  refine wpAny_call ?_
  refine codeX.any ?_
  refine' enterX (b := false) (binds := [(Str.ofString "self", .ref x), (Str.ofString "kind", .str kind tk), (Str.ofString "number", .int 3 tn), (Str.ofString "key_width", .int 0 t), (Str.ofString "value_width", .int wd tw), (Str.ofString "most", .int most tm)]) [(x, instObj 412 dx), (dx, emptyDict)] ?k0 R Y k ?k1 ?k2 ?k3 ?k4 ?_ ?k5 ?k6 ?k7 ?k8
  case k0 =>
    intro p hp
    rcases List.mem_cons.mp hp with rfl | hp
    · exact ⟨hx, gx⟩
    rcases List.mem_cons.mp hp with rfl | hp
    · exact ⟨hdx, gdx⟩
    cases hp
  case k1 => k_is
  case k2 => k_is
  case k3 => exact BindsTo.of_eq rfl
  case k4 => exact locs rfl
  case k5 => decide
  case k6 => exact rfl
  case k7 => exact rfl
  case k8 => exact rfl
  clear Y k
  intro L h₁ Y Hg F N R'
  generalize hideAll s.heap (List.map (·.1) [(x, instObj 412 dx), (dx, emptyDict)]) = g at Y Hg F N
  have X := Y.X
  have T := Y.T
  refine wpX.of ?_
  show wpAny _ _ _ _ _ _
  k_fold
  repeat' ((fail_if_success (first | (with_reducible show Exists _) | (with_reducible show wpAny _ _ (exec (Stmt.While _ _ _ _) _) _ _ _) | (with_reducible show wpAny _ _ (exec (Stmt.For _ _ _ _ _) _) _ _ _) | (with_reducible show wpAny _ _ (eval (Expr.ListComp _ _ _ _) _) _ _ _))); first | (k_unfold; (try dsimp only)) | walk1 | (dsimp only; walk1))
  all_goals (try dsimp only)
  rename_i vd h2 ov lo _ _ hi _ l1 h3 F3 N3
  have hf := News.fresh N3 (.head _)
  have hdv : vd ≠ dx := fun e => Nat.lt_irrefl dx (by have := l1.2; rw [e] at this; exact this)
  have hxv : vd ≠ x := fun e => Nat.lt_irrefl x (by have := l1.1; rw [e] at this; exact this)
  refine hQ vd ov _ _ _ _ _ _ h3 _ (fun b o hb e => ?_) ?_ (News.get N3 (.head _)) hi lo (News.get N3 (.tail _ (.tail _ (.head _))))
  · by_cases hbx : b = x
    · subst hbx; rw [hx] at e; cases e; exact News.get N3 (.tail _ (.head _))
    · exact F3.keep b o (Hg.get b o e (by simp [hbx, hb]))
  · cases e : s.heap.get? vd with
    | none => rfl
    | some o => have := Hg.get vd o e (by simp [hdv, hxv]); rw [hf] at this; cases this
end

theorem isQ_new {prog : Program} {w : World} {x dx vd : Addr} {kind : Str} {wd most : Int} {ov : Obj} {t0 t1 t2 t3 t4 t5 t6 t7 t8 t9 t10 t11 t12 t13 t14 : Tok} (hi : ov.IsDictOf (intKind prog w) []) (lo : (vd == sysModules) = false) :
    IsQ prog w ⟨x, dx, vd, kind, wd, most, 0, 0, []⟩ [(x, instObj 412 dx), (dx, dictOf [⟨PyData.keyHash w.params (Str.ofString "kind"), .str (Str.ofString "kind") t0, .str kind t1⟩,
     ⟨PyData.keyHash w.params (Str.ofString "number"), .str (Str.ofString "number") t2, .int 3 t3⟩,
     ⟨PyData.keyHash w.params (Str.ofString "key_width"), .str (Str.ofString "key_width") t4, .int 0 t5⟩,
     ⟨PyData.keyHash w.params (Str.ofString "value_width"), .str (Str.ofString "value_width") t6, .int wd t7⟩,
     ⟨PyData.keyHash w.params (Str.ofString "most"), .str (Str.ofString "most") t8, .int most t9⟩,
     ⟨PyData.keyHash w.params (Str.ofString "values"), .str (Str.ofString "values") t10, .ref vd⟩,
     ⟨PyData.keyHash w.params (Str.ofString "head"), .str (Str.ofString "head") t11, .int 0 t12⟩,
     ⟨PyData.keyHash w.params (Str.ofString "tail"), .str (Str.ofString "tail") t13, .int 0 t14⟩] 8), (vd, ov)] :=
  IsQ.mk (q := ⟨x, dx, vd, kind, wd, most, 0, 0, []⟩) (fun k => match k with | 0 => t0 | 1 => t1 | 2 => t2 | 3 => t3 | 4 => t4 | 5 => t5 | 6 => t6 | 7 => t7 | 8 => t8 | 9 => t9 | 10 => t10 | 11 => t11 | 12 => t12 | 13 => t13 | _ => t14) 8 ov hi lo
section
variable {prog : Program} {w : World} {A : Around} {E : Value → Shared → Prop} {s : Shared} {mg mb : Str → Option Value} {h₀ : Heap} {L : Addr} {m : Str → Option Value} {q : Qd} {dp un : Nat} {fr : Option (List Env)} {gd : Option (List Code)}
theorem c_map_initN {g : Heap} {x dx : Addr} {kind : Str} {tk t tn tw tm : Tok} {wd most : Int} {Q : Value → Shared → Prop} (R : Rm (AN dp un fr gd) 3) (Y : Lay w mg mb g) (F : Fr g L s.heap m) (N : News g L s.heap [(x, instObj 412 dx), (dx, emptyDict)]) (ne : x ≠ dx)
    (hk : kind = Str.ofString "queue" ∨ kind = Str.ofString "stack") (hw : 1 ≤ wd ∧ wd ≤ 4) (hm : 1 ≤ most ∧ most ≤ 6)
    (hQ : ∀ (vd : Addr) (ov : Obj) (t0 t1 t2 t3 t4 t5 : Tok) (h' : Heap) (tk' : Nat), Fr g L h' m → News g L h' [(x, instObj 412 dx), (dx, dictOf (qes6 w.params kind wd most vd t0 tk t1 tn t2 t t3 tw t4 tm t5) 6), (vd, ov)] → vd ≠ x → vd ≠ dx →
      ov.IsDictOf (intKind prog w) [] → (vd == sysModules) = false → Q .none { s with heap := h', toks := tk' }) :
    wpAny (model prog w) (AN dp un fr gd) (call (.ref 103) [.ref x, .str kind tk, .int 3 tn, .int 0 t, .int wd tw, .int most tm]) Q E s := by
  have n1 := N _ (.head _)
  have n2 := N _ (.tail _ (.head _))
  refine c_map_init R Y F.keep n1.1 n2.1 n1.2.2 n2.2.2 ne hk hw hm fun vd ov t0 t1 t2 t3 t4 t5 h' tk' kp hv hov hi lo hdx => ?_
  have v1 : vd ≠ x := fun e => by rw [e, n1.1] at hv; cases hv
  have v2 : vd ≠ dx := fun e => by rw [e, n2.1] at hv; cases hv
  have vg : g.get? vd = none := by
    cases e : g.get? vd with
    | none => rfl
    | some o => rw [F.keep _ _ e] at hv; cases hv
  obtain ⟨oL, p, r, hL, z⟩ := F.ns
  have vL : vd ≠ L := fun e => by rw [e, hL] at hv; cases hv
  refine hQ vd ov t0 t1 t2 t3 t4 t5 h' tk' ⟨⟨oL, p, r, kp _ _ (fun e => n2.2.1 e.symm) hL, z⟩, fun b o e => kp b o (fun q => by rw [q, n2.2.2] at e; cases e) (F.keep b o e), F.above⟩ ?_ v1 v2 hi lo
  intro p hp
  rcases List.mem_cons.mp hp with rfl | hp
  · exact ⟨kp _ _ ne n1.1, n1.2⟩
  rcases List.mem_cons.mp hp with rfl | hp
  · exact ⟨hdx, n2.2⟩
  rcases List.mem_cons.mp hp with rfl | hp
  · exact ⟨hov, vL, vg⟩
  cases hp
end
theorem kw_f_17 : True := by
  k_with "my map init" => (refine' c_map_initN (by walk_at "my rm") (by assumption) (by k_asm) (by k_asm) (by assumption) (by assumption) (by assumption) (by assumption) ?_; intro _ _ _ _ _ _ _ _ _ _ _ _ _ _ _ _; (try k_sweep))
  k_with "call ref" => ((with_reducible show wpAny _ _ (call (Value.ref 103) _) _ _ _); k_dflt (walk_at "my map init"))
  exact trivial
section
variable {prog : Program} {w : World} {A : Around} {E : Value → Shared → Prop} {s : Shared} {mg mb : Str → Option Value} {h₀ : Heap} {L : Addr} {m : Str → Option Value} {q : Qd} {dp un : Nat} {fr : Option (List Env)} {gd : Option (List Code)}
set_option maxHeartbeats 0 in
theorem c_qinit {A₀ : Around} {x dx : Addr} {kind : Str} {tk tn tw tm : Tok} {wd most : Int} {R₀ : Result → Shared → Prop} {g₀ : Heap} (hA : A₀ = AN dp un fr gd) (R : Rm (AN dp un fr gd) 4) (Y : Lay w mg mb g₀) (k : Kp g₀ s.heap)
    (hx : s.heap.get? x = some (instObj 412 dx)) (hdx : s.heap.get? dx = some emptyDict) (gx : g₀.get? x = none) (gdx : g₀.get? dx = none) (ne : x ≠ dx)
    (hk : kind = Str.ofString "queue" ∨ kind = Str.ofString "stack") (hw : 1 ≤ wd ∧ wd ≤ 4) (hm : 1 ≤ most ∧ most ≤ 6)
    (hQ : ∀ (q : Qd) (h' : Heap) (tk' : Nat), (∀ b o, b ≠ dx → s.heap.get? b = some o → h'.get? b = some o) → q.as = [x, dx, q.vd] → s.heap.get? q.vd = none → q.kind = kind → q.wd = wd → q.most = most → q.hd = 0 → q.tl = 0 → q.sl = [] → QAt prog w h' q → q.Ok →
      R₀ (.ok (.ret .none)) { s with heap := h', toks := tk' }) :
    codeAny (model prog w) A₀ (.call (.ref 292) ⟨[.ref x, .str kind tk, .int 3 tn, .int wd tw, .int most tm], []⟩) R₀ s := by
  subst hA
  refine codeX.any ?_
  refine' enterX (b := false) (binds := [(Str.ofString "self", .ref x), (Str.ofString "kind", .str kind tk), (Str.ofString "number", .int 3 tn), (Str.ofString "value_width", .int wd tw), (Str.ofString "most", .int most tm)]) [(x, instObj 412 dx), (dx, emptyDict)] ?k0 R Y k ?k1 ?k2 ?k3 ?k4 ?_ ?k5 ?k6 ?k7 ?k8
  case k0 =>
    intro p hp
    rcases List.mem_cons.mp hp with rfl | hp
    · exact ⟨hx, gx⟩
    rcases List.mem_cons.mp hp with rfl | hp
    · exact ⟨hdx, gdx⟩
    cases hp
  case k1 => k_is
  case k2 => k_is
  case k3 => exact BindsTo.of_eq rfl
  case k4 => exact locs rfl
  case k5 => decide
  case k6 => exact rfl
  case k7 => exact rfl
  case k8 => exact rfl
  clear Y k
  intro L h₁ Y Hg F N R'
  generalize hideAll s.heap (List.map (·.1) [(x, instObj 412 dx), (dx, emptyDict)]) = g at Y Hg F N
  have X := Y.X
  have T := Y.T
  refine wpX.of ?_
  show wpAny _ _ _ _ _ _
  repeat' ((fail_if_success (first | (with_reducible show Exists _) | (with_reducible show wpAny _ _ (exec (Stmt.While _ _ _ _) _) _ _ _) | (with_reducible show wpAny _ _ (exec (Stmt.For _ _ _ _ _) _) _ _ _) | (with_reducible show wpAny _ _ (eval (Expr.ListComp _ _ _ _) _) _ _ _))); first | (k_unfold; (try dsimp only)) | walk1 | (dsimp only; walk1))
  all_goals (try dsimp only)
  rename_i vd ov _ _ _ _ _ _ _ _ v1 v2 hi lo _ h3 F3 N3
  have hf := News.fresh N3 (.tail _ (.tail _ (.head _)))
  refine hQ ⟨x, dx, vd, kind, wd, most, 0, 0, []⟩ h3 _ (fun b o hb e => ?_) rfl ?_ rfl rfl rfl rfl rfl rfl ⟨_, isQ_new hi lo, fun p hp => (N3 p hp).1⟩ ?_
  · by_cases hbx : b = x
    · subst hbx; rw [hx] at e; cases e; exact News.get N3 (.head _)
    · exact F3.keep b o (Hg.get b o e (by simp [hbx, hb]))
  · cases e : s.heap.get? vd with
    | none => rfl
    | some o => have := Hg.get vd o e (by simp [v1, v2]); rw [hf] at this; cases this
  · refine ⟨hm.1, hm.2, Int.le_refl _, by dsimp only; omega, Int.le_refl _, by dsimp only; omega, hw.1, hw.2, hk, List.nodup_nil, fun e he => (nomatch he), fun e he => (nomatch he), ?_⟩
    simp [Qd.as, ne, Ne.symm v1, Ne.symm v2]
set_option maxHeartbeats 0 in
theorem c_make {kind : Str} {tk tn tw tm : Tok} {wd most : Int} {Q : Value → Shared → Prop} (R : Rm (AN dp un fr gd) 6) (Y : Lay w mg mb s.heap)
    (hk : kind = Str.ofString "queue" ∨ kind = Str.ofString "stack") (hw : 1 ≤ wd ∧ wd ≤ 4) (hm : 1 ≤ most ∧ most ≤ 6)
    (hQ : ∀ (q : Qd) (h' : Heap) (tk' : Nat), Kp s.heap h' → (∀ a ∈ q.as, s.heap.get? a = none) → q.kind = kind → q.wd = wd → q.most = most → q.hd = 0 → q.tl = 0 → q.sl = [] → QAt prog w h' q → q.Ok →
      Q (.ref q.x) { s with heap := h', toks := tk' }) :
    wpAny (model prog w) (AN dp un fr gd) (call (.ref 412) [.str kind tk, .int 3 tn, .int wd tw, .int most tm]) Q E s := by
  obtain ⟨hh, g, d, t, os⟩ := s
  have X := Y.X
  dsimp only at Y X hQ
  refine wpAny_call ?_
  have hi : findIn (hd.heap_1 w.params) (.ref 412) "__init__" = some (some (.ref 292)) := by k_is
  have hf : typeIn (hd.heap_1 w.params) (.ref 292) = some (.type "function") := by k_is
  refine make_core (makes_of X (by k_is)) (looks_findIn X hi) (fun self => bind_fn X self hf) (.inl rfl) ?_
  have k1 : Kp hh (hh.push emptyDict) := fun b o e => Heap.get?_push_of_some _ e
  have k2 : Kp (hh.push emptyDict) ((hh.push emptyDict).push (instObj 412 hh.objs.size)) := fun b o e => Heap.get?_push_of_some _ e
  have s1 : (hh.push emptyDict).objs.size = hh.objs.size + 1 := Heap.size_push _ _
  have n0 : ∀ a, hh.objs.size ≤ a → hh.get? a = none := fun a ha => by
    cases e : hh.get? a with
    | none => rfl
    | some o => exact absurd (Heap.lt_size e) (Nat.not_lt.mpr ha)
  refine c_qinit (g₀ := hh) (x := hh.objs.size + 1) (dx := hh.objs.size) rfl ?_ Y (fun b o e => k2 b o (k1 b o e)) ?_ ?_ (n0 _ (Nat.le_succ _)) (n0 _ (Nat.le_refl _)) (Nat.succ_ne_self _) hk hw hm fun q h' tk' kp has hv e1 e2 e3 e4 e5 e6 H ok => ?_
  · obtain ⟨r1, r2, r3⟩ := R
    refine ⟨?_, ?_, rfl⟩
    · show dp + 1 + 4 < _
      dsimp only at r1; omega
    · dsimp only at r2
      first
        | (show un + 0 + 8 * 4 < _; omega)
        | (show un + 1 + 8 * 4 < _; omega)
        | (show un + 2 + 8 * 4 < _; omega)
        | (show un + 3 + 8 * 4 < _; omega)
        | (show un + 4 + 8 * 4 < _; omega)
  · have := Heap.get?_push_size (h := hh.push emptyDict) (o := instObj 412 hh.objs.size) rfl
    rwa [s1] at this
  · exact k2 _ _ (Heap.get?_push_size _ rfl)
  · have ex : q.x = hh.objs.size + 1 := by have := has; unfold Qd.as at this; exact (List.cons.inj this).1
    refine ⟨rfl, ?_⟩
    rw [← ex]
    refine hQ q h' tk' (fun b o e => kp b o (Nat.ne_of_lt (Heap.lt_size e)) (k2 b o (k1 b o e))) (fun a ha => ?_) e1 e2 e3 e4 e5 e6 H ok
    rw [has] at ha
    rcases List.mem_cons.mp ha with rfl | ha
    · exact n0 _ (Nat.le_succ _)
    rcases List.mem_cons.mp ha with rfl | ha
    · exact n0 _ (Nat.le_refl _)
    rcases List.mem_cons.mp ha with rfl | ha
    · cases e : hh.get? q.vd with
      | none => rfl
      | some o => rw [k2 _ _ (k1 _ _ e)] at hv; cases hv
    · cases ha
end

section
variable {prog : Program} {w : World} {A : Around} {E : Value → Shared → Prop} {s : Shared} {mg mb : Str → Option Value} {h₀ : Heap} {L : Addr} {m : Str → Option Value} {q : Qd} {dp un : Nat} {fr : Option (List Env)} {gd : Option (List Code)}
theorem News.mono {g h : Heap} {n n' : List (Addr × Obj)} (N : News g L h n) (e : ∀ p ∈ n', p ∈ n) : News g L h n' := fun p hp => N p (e p hp)
/-- a new queue among the news -/
inductive MadeP (prog : Program) (w : World) (g : Heap) (L : Addr) (h' : Heap) (news : List (Addr × Obj)) (q : Qd) : Prop
  | mk (qs : List (Addr × Obj)) (I : IsQ prog w q qs) (N : News g L h' (qs ++ news)) (ap : ∀ p ∈ news, p.1 ∉ q.as) : MadeP prog w g L h' news q
theorem News.made {g h h' : Heap} {news : List (Addr × Obj)} {q : Qd} (F : Fr g L h m) (N : News g L h news) (k : Kp h h') (fr : ∀ a ∈ q.as, h.get? a = none) (H : QAt prog w h' q) :
    MadeP prog w g L h' news q := by
  obtain ⟨qs, I, kk⟩ := H
  refine ⟨qs, I, fun p hp => ?_, fun p hp ha => ?_⟩
  · rcases List.mem_append.mp hp with hp | hp
    · have hn := fr p.1 (I.addrs ▸ List.mem_map_of_mem hp)
      refine ⟨kk p hp, fun e => ?_, ?_⟩
      · obtain ⟨oL, _, _, hL, _⟩ := F.ns
        rw [e, hL] at hn; cases hn
      · cases e : g.get? p.1 with
        | none => rfl
        | some o => rw [F.keep _ _ e] at hn; cases hn
    · exact ⟨k _ _ (N p hp).1, (N p hp).2⟩
  · have := fr _ ha; rw [(N p hp).1] at this; cases this
end
theorem kw_f_18 : True := by
  k_with "my make" => (refine' c_make (by walk_at "my rm") (by walk_at "my lay") (by (first | assumption | exact Qd.Ok.kd (by assumption))) (by (first | assumption | exact ⟨Qd.Ok.wd0 (by assumption), Qd.Ok.wd1 (by assumption)⟩)) (by (first | assumption | exact ⟨Qd.Ok.most0 (by assumption), Qd.Ok.most1 (by assumption)⟩)) ?_)
  exact trivial
section
variable {prog : Program} {w : World} {A : Around} {E : Value → Shared → Prop} {s : Shared} {mg mb : Str → Option Value} {h₀ : Heap} {L : Addr} {m : Str → Option Value} {q : Qd} {dp un : Nat} {fr : Option (List Env)} {gd : Option (List Code)}
set_option maxHeartbeats 0 in
theorem c_twin {Q : Value → Shared → Prop} (R : Rm (AN dp un fr gd) 7) (Y : Lay w mg mb s.heap) (H : QAt prog w s.heap q) (hq : q.Ok)
    (hQ : ∀ (q2 : Qd) (h' : Heap) (tk' : Nat), Kp s.heap h' → (∀ a ∈ q2.as, s.heap.get? a = none) → q2.kind = q.kind → q2.wd = q.wd → q2.most = q.most → q2.hd = 0 → q2.tl = 0 → q2.sl = [] → QAt prog w h' q2 → q2.Ok →
      Q (.ref q2.x) { s with heap := h', toks := tk' }) :
    wpAny (model prog w) (AN dp un fr gd) (call (.ref 395) [.ref q.x]) Q E s := by
  refine wpAny_call ?_
  refine' enterA (binds := [(Str.ofString "self", .ref q.x)]) R Y ?k1 ?k2 ?k3 ?k4 ?_ ?k5 ?k6 ?k7 ?k8
  case k1 => k_is
  case k2 => k_is
  case k3 => exact BindsTo.of_eq rfl
  case k4 => exact locs rfl
  case k5 => decide
  case k6 => exact rfl
  case k7 => exact rfl
  case k8 => exact rfl
  intro L h₁ F N R'
  have X := Y.X
  have T := Y.T
  show wpAny _ _ _ _ _ _
  k_fold
  repeat' ((fail_if_success (first | (with_reducible show Exists _) | (with_reducible show wpAny _ _ (exec (Stmt.While _ _ _ _) _) _ _ _) | (with_reducible show wpAny _ _ (exec (Stmt.For _ _ _ _ _) _) _ _ _) | (with_reducible show wpAny _ _ (eval (Expr.ListComp _ _ _ _) _) _ _ _))); first | (k_unfold; (try dsimp only)) | walk1 | (dsimp only; walk1))
  walk_at "my make"
  intro q2 h' tk' k' fr' e1 e2 e3 e4 e5 e6 H2 ok2
  rename Fr _ _ _ _ => F1
  refine hQ q2 h' tk' (fun b o e => k' b o (F1.keep b o e)) (fun a ha => ?_) e1 e2 e3 e4 e5 e6 H2 ok2
  cases e : s.heap.get? a with
  | none => rfl
  | some o => have := fr' a ha; rw [F1.keep _ _ e] at this; cases this
end

section
variable {prog : Program} {w : World} {A : Around} {E : Value → Shared → Prop} {s : Shared} {mg mb : Str → Option Value} {h₀ : Heap} {L : Addr} {m : Str → Option Value} {q : Qd} {dp un : Nat} {fr : Option (List Env)} {gd : Option (List Code)}
theorem q_set_vd {d : Addr} {o : Obj} {Q : Unit → Shared → Prop} {g : Heap} (F : Fr g L s.heap m) (X : (hd.heap_1 w.params).In g) (O : Own prog w g L s.heap q) (hs : q.sl = []) (ho : s.heap.get? d = some o) (hi : o.IsDictOf (intKind prog w) []) (lo' : (d == sysModules) = false)
    (dn : d ∉ q.as) (dL : d ≠ L) (dg : g.get? d = none)
    (h : ∀ h', Fr g L h' m → Own prog w g L h' { q with vd := d } → Q () { s with heap := h', toks := s.toks + 2 }) :
    wpAny (model prog w) A (setAttr (.ref q.x) (Str.ofString "values") (.ref d)) Q E s := by
  obtain ⟨⟨qs, I, K⟩, nl, ng, nd⟩ := O
  cases I with
  | mk tk n ov hv lo =>
    have hx := K _ (.head _)
    have hdx := K _ (.tail _ (.head _))
    have N : News g L s.heap ((q.dx, dictOf (qes w.params q tk) n) :: others g L q.dx s.heap) := by
      intro p hp
      rcases List.mem_cons.mp hp with rfl | hp
      · exact ⟨hdx, nl _ (.tail _ (.head _)), ng _ (.tail _ (.head _))⟩
      · obtain ⟨a, b, c, d⟩ := mem_others.mp hp; exact ⟨a, c, d⟩
    refine' set_dict F X N ⟨hx, rfl, rfl, hdx⟩ rfl (by k_is) (by k_is) (by k_is) (by k_is) (by k_get) ?put (.head fun p hp => (mem_others.mp hp).2.1) ?sz fun h' F' N' => ?_
    case put => simp only [putL, putN, qes, isStr_str, show (Str.ofString "kind" == Str.ofString "values") = false by decide +kernel, show (Str.ofString "number" == Str.ofString "values") = false by decide +kernel, show (Str.ofString "key_width" == Str.ofString "values") = false by decide +kernel, show (Str.ofString "value_width" == Str.ofString "values") = false by decide +kernel, show (Str.ofString "most" == Str.ofString "values") = false by decide +kernel, show (Str.ofString "values" == Str.ofString "values") = true by decide +kernel, List.any_cons, if_true, Bool.false_eq_true, if_false, Bool.or_true, Bool.true_or, Bool.or_false, Bool.false_or]; exact rfl
    case sz => exact Nat.le_of_ble_eq_true rfl
    have hn : ∀ (b : Addr) (o : Obj), s.heap.get? b = some o → b ≠ q.dx → b ≠ L → g.get? b = none → h'.get? b = some o := fun b o a c e f => (N' (b, o) (.tail _ (mem_others.mpr ⟨a, c, e, f⟩))).1
    have nd' := nd
    unfold Qd.as at nd' dn
    rw [hs] at nd'
    rw [hs, List.map_nil] at dn
    rw [List.nodup_cons, List.nodup_cons] at nd'
    obtain ⟨n1, n2, n3⟩ := nd'
    have d1 : d ≠ q.x := fun e => dn (e ▸ .head _)
    have d2 : d ≠ q.dx := fun e => dn (e ▸ .tail _ (.head _))
    have x1 : q.x ≠ q.dx := fun e => n1 (e ▸ .head _)
    refine h h' F' ⟨⟨_, .mk tk n o (by dsimp only; rw [hs]; exact hi) lo', fun p hp => ?_⟩, fun a ha => ?_, fun a ha => ?_, ?_⟩
    · dsimp only at hp
      rw [hs, List.map_nil] at hp
      rcases List.mem_cons.mp hp with rfl | hp
      · exact hn _ _ hx x1 (nl _ (.head _)) (ng _ (.head _))
      rcases List.mem_cons.mp hp with rfl | hp
      · exact (N' _ (.head _)).1
      rcases List.mem_cons.mp hp with rfl | hp
      · exact hn _ _ ho d2 dL dg
      cases hp
    · unfold Qd.as at ha; dsimp only at ha; rw [hs, List.map_nil] at ha
      rcases List.mem_cons.mp ha with rfl | ha
      · exact nl _ (.head _)
      rcases List.mem_cons.mp ha with rfl | ha
      · exact nl _ (.tail _ (.head _))
      rcases List.mem_cons.mp ha with rfl | ha
      · exact dL
      cases ha
    · unfold Qd.as at ha; dsimp only at ha; rw [hs, List.map_nil] at ha
      rcases List.mem_cons.mp ha with rfl | ha
      · exact ng _ (.head _)
      rcases List.mem_cons.mp ha with rfl | ha
      · exact ng _ (.tail _ (.head _))
      rcases List.mem_cons.mp ha with rfl | ha
      · exact dg
      cases ha
    · unfold Qd.as; dsimp only; rw [hs, List.map_nil]
      simp [x1, d1.symm, d2.symm]
theorem Own.news {g h : Heap} (O : Own prog w g L h q) : ∃ qs, IsQ prog w q qs ∧ News g L h qs := by
  obtain ⟨⟨qs, I, k⟩, nl, ng, _⟩ := O
  exact ⟨qs, I, fun p hp => ⟨k p hp, nl _ (I.addrs ▸ List.mem_map_of_mem hp), ng _ (I.addrs ▸ List.mem_map_of_mem hp)⟩⟩
theorem fresh_of_size {h : Heap} {a : Addr} (e : a = h.objs.size) : h.get? a = none := by
  cases q : h.get? a with
  | none => rfl
  | some o => have := Heap.lt_size q; rw [e] at this; exact absurd this (Nat.lt_irrefl _)
theorem lookup_none_of {k : Int} : ∀ {sl : List (Int × Addr × Array UInt8)}, k ∉ sl.map (·.1) → sl.lookup k = none
  | [], _ => rfl
  | (j, c) :: r, h => by
    rw [List.map_cons, List.mem_cons, not_or] at h
    rw [List.lookup_cons, beq_eq_false_iff_ne.mpr h.1]
    exact lookup_none_of h.2
theorem lookup_of_get : ∀ {sl : List (Int × Addr × Array UInt8)}, (sl.map (·.1)).Nodup → ∀ (i : Nat) {k : Int} {x : Addr × Array UInt8}, sl[i]? = some (k, x) → sl.lookup k = some x
  | [], _, _, _, _, h => by simp at h
  | (j, c) :: r, nd, 0, k, x, h => by simp at h; obtain ⟨rfl, rfl⟩ := h; simp
  | (j, c) :: r, nd, i + 1, k, x, h => by
    rw [List.map_cons, List.nodup_cons] at nd
    rw [List.getElem?_cons_succ] at h
    have hne : k ≠ j := fun e => nd.1 (by rw [← e]; exact List.mem_map.mpr ⟨_, List.mem_of_getElem? h, rfl⟩)
    rw [List.lookup_cons, beq_eq_false_iff_ne.mpr hne]
    exact lookup_of_get nd.2 i h
theorem same_keys {sl sl' : List (Int × Addr × Array UInt8)} (h : sl'.map (fun e => (e.1, e.2.2)) = sl.map (fun e => (e.1, e.2.2))) : sl'.map (·.1) = sl.map (·.1) := by
  have := congrArg (List.map Prod.fst) h
  rwa [List.map_map, List.map_map] at this
theorem same_lookup {k : Int} {a : Addr} {b : Array UInt8} : ∀ {sl sl' : List (Int × Addr × Array UInt8)}, sl'.map (fun e => (e.1, e.2.2)) = sl.map (fun e => (e.1, e.2.2)) → sl.lookup k = some (a, b) → ∃ a', sl'.lookup k = some (a', b)
  | [], _, _, hl => by cases hl
  | (j, c, d) :: r, [], h, _ => by simp at h
  | (j, c, d) :: r, (j', c', d') :: r', h, hl => by
    simp only [List.map_cons, List.cons.injEq, Prod.mk.injEq] at h
    obtain ⟨⟨rfl, rfl⟩, h⟩ := h
    rw [List.lookup_cons] at hl ⊢
    by_cases e : k = j'
    · subst e; simp at hl ⊢; exact hl.2
    · rw [beq_eq_false_iff_ne.mpr e] at hl ⊢
      exact same_lookup h hl
theorem Qd.Ok.of_same {q q2 : Qd} (hq : q.Ok) (st : q2.kind = q.kind ∧ q2.wd = q.wd ∧ q2.most = q.most ∧ q2.hd = 0 ∧ q2.tl = 0) (e : q2.sl.map (fun e => (e.1, e.2.2)) = q.sl.map (fun e => (e.1, e.2.2))) (nd : q2.as.Nodup) : q2.Ok := by
  obtain ⟨e1, e2, e3, e4, e5⟩ := st
  have hm : ∀ x ∈ q2.sl, ∃ y ∈ q.sl, x.1 = y.1 ∧ x.2.2 = y.2.2 := fun x hx => by
    have : (x.1, x.2.2) ∈ q.sl.map (fun e => (e.1, e.2.2)) := by rw [← e]; exact List.mem_map.mpr ⟨x, hx, rfl⟩
    obtain ⟨y, hy, h⟩ := List.mem_map.mp this
    simp only [Prod.mk.injEq] at h
    exact ⟨y, hy, h.1.symm, h.2.symm⟩
  have := hq.most0
  refine ⟨by rw [e3]; exact hq.most0, by rw [e3]; exact hq.most1, by omega, by rw [e3]; omega, by omega, by rw [e3]; omega, by rw [e2]; exact hq.wd0, by rw [e2]; exact hq.wd1, by rw [e1]; exact hq.kd, by rw [same_keys e]; exact hq.nodup, fun x hx => ?_, fun x hx => ?_, nd⟩
  · obtain ⟨y, hy, h1, h2⟩ := hm x hx; rw [h1, e3]; exact hq.keys y hy
  · obtain ⟨y, hy, h1, h2⟩ := hm x hx; rw [h2, e2]; exact hq.sizes y hy
theorem iter_step {g h h' : Heap} {I : Addr} {oI oI' : Obj} {news : List (Addr × Obj)} (F : Fr g L h m) (N : News g L h ((I, oI) :: news)) (ap : ∀ p ∈ news, p.1 ≠ I) (k : ∀ a o, a ∉ [I] → h.get? a = some o → h'.get? a = some o) (hI : h'.get? I = some oI') :
    Fr g L h' m ∧ News g L h' ((I, oI') :: news) := by
  have n := N _ (.head _)
  refine ⟨⟨?_, fun b o e => k b o (fun hb => ?_) (F.keep b o e), F.above⟩, fun p hp => ?_⟩
  · obtain ⟨oL, p, r, hL, z⟩ := F.ns
    exact ⟨oL, p, r, k _ _ (fun hb => n.2.1 (List.mem_singleton.mp hb).symm) hL, z⟩
  · rw [List.mem_singleton.mp hb, n.2.2] at e; cases e
  · rcases List.mem_cons.mp hp with rfl | hp
    · exact ⟨hI, n.2⟩
    · have := N p (.tail _ hp)
      exact ⟨k _ _ (fun hb => ap p hp (List.mem_singleton.mp hb)) this.1, this.2⟩
theorem iter_end {g h h' : Heap} {I : Addr} {oI : Obj} {news : List (Addr × Obj)} (F : Fr g L h m) (N : News g L h ((I, oI) :: news)) (ap : ∀ p ∈ news, p.1 ≠ I) (k : ∀ a o, a ∉ [I] → h.get? a = some o → h'.get? a = some o) :
    Fr g L h' m ∧ News g L h' news := by
  have n := N _ (.head _)
  refine ⟨⟨?_, fun b o e => k b o (fun hb => ?_) (F.keep b o e), F.above⟩, fun p hp => ?_⟩
  · obtain ⟨oL, p, r, hL, z⟩ := F.ns
    exact ⟨oL, p, r, k _ _ (fun hb => n.2.1 (List.mem_singleton.mp hb).symm) hL, z⟩
  · rw [List.mem_singleton.mp hb, n.2.2] at e; cases e
  · have := N p (.tail _ hp)
    exact ⟨k _ _ (fun hb => ap p hp (List.mem_singleton.mp hb)) this.1, this.2⟩
end
section
variable {prog : Program} {w : World} {A : Around} {E : Value → Shared → Prop} {s : Shared} {mg mb : Str → Option Value} {h₀ : Heap} {L : Addr} {m : Str → Option Value} {q : Qd} {dp un : Nat} {fr : Option (List Env)} {gd : Option (List Code)}
set_option maxHeartbeats 0 in
theorem c_mapcopy {Q : Value → Shared → Prop} (R : Rm (AN dp un fr gd) 9) (Y : Lay w mg mb s.heap) (H : QAt prog w s.heap q) (hq : q.Ok)
    (hQ : ∀ (q2 : Qd) (h' : Heap) (tk' : Nat), Kp s.heap h' → (∀ a ∈ q2.as, s.heap.get? a = none) → q2.kind = q.kind → q2.wd = q.wd → q2.most = q.most → q2.hd = 0 → q2.tl = 0 → q2.sl.map (fun e => (e.1, e.2.2)) = q.sl.map (fun e => (e.1, e.2.2)) → QAt prog w h' q2 → q2.Ok →
      Q (.ref q2.x) { s with heap := h', toks := tk' }) :
    wpT (model prog w) (AN dp un fr gd) (call (.ref 259) [.ref q.x]) Q E s := by
  refine wpT_call ?_
  refine' enterX (b := true) (binds := [(Str.ofString "self", .ref q.x)]) [] (fun _ h => nomatch h) R Y (fun _ _ e => e) ?k1 ?k2 ?k3 ?k4 ?_ ?k5 ?k6 ?k7 ?k8
  case k1 => k_is
  case k2 => k_is
  case k3 => exact BindsTo.of_eq rfl
  case k4 => exact locs rfl
  case k5 => decide
  case k6 => exact rfl
  case k7 => exact rfl
  case k8 => exact rfl
  intro L h₁ Y0 Hg0 F0 N0 R'
  have X := Y.X
  have T := Y.T
  have F : Fr s.heap L h₁ _ := F0
  have N : News s.heap L h₁ [] := N0
  clear F0 N0 Y0 Hg0
  refine wpX_execs_cons (wpX.of ?_)
  repeat' ((fail_if_success (first | (with_reducible show Exists _) | (with_reducible show wpAny _ _ (exec (Stmt.While _ _ _ _) _) _ _ _) | (with_reducible show wpAny _ _ (exec (Stmt.For _ _ _ _ _) _) _ _ _) | (with_reducible show wpAny _ _ (eval (Expr.ListComp _ _ _ _) _) _ _ _))); first | (k_unfold; (try dsimp only)) | walk1 | (dsimp only; walk1))
  dsimp only
  refine c_twin (Rm.mono R' (by decide)) (Y.keeps F.keep) (H.keeps F.keep) hq fun q2 h2 tk2 k2 fr2 e1 e2 e3 e4 e5 e6 H2 ok2 => ?_
  obtain ⟨qs2, I2, N2, _⟩ := News.made F N k2 fr2 H2
  rw [List.append_nil] at N2
  have F2 := F.keeps k2
  clear F N k2 fr2 H2
  repeat' ((fail_if_success (first | (with_reducible show Exists _) | (with_reducible show wpAny _ _ (exec (Stmt.While _ _ _ _) _) _ _ _) | (with_reducible show wpAny _ _ (exec (Stmt.For _ _ _ _ _) _) _ _ _) | (with_reducible show wpAny _ _ (eval (Expr.ListComp _ _ _ _) _) _ _ _))); first | (k_unfold; (try dsimp only)) | walk1 | (dsimp only; walk1))
  refine wpX_execs_cons (wpX.of ?_)
  repeat' ((fail_if_success (first | (with_reducible show Exists _) | (with_reducible show wpAny _ _ (exec (Stmt.While _ _ _ _) _) _ _ _) | (with_reducible show wpAny _ _ (exec (Stmt.For _ _ _ _ _) _) _ _ _) | (with_reducible show wpAny _ _ (eval (Expr.ListComp _ _ _ _) _) _ _ _))); first | (k_unfold; (try dsimp only)) | walk1 | (dsimp only; walk1))
  rename_i hA d' hB o' F3 N3 l1 lo' _ _ hi' _
  have dn : d' ∉ q2.as := fun hm => by
    rw [← I2.addrs] at hm
    obtain ⟨p, hp, e⟩ := List.mem_map.mp hm
    have := l1 p hp
    rw [e] at this; exact Nat.lt_irrefl _ this
  have n1 := N3 _ (.head _)
  refine q_set_vd F3 X (Own.of_hid I2 (News.mono N3 fun p hp => .tail _ hp) ok2.ad) e6 n1.1 hi' lo' dn n1.2.1 n1.2.2 fun h4 F4 O4 => ?_
  dsimp only
  obtain ⟨q3, hq3⟩ : ∃ q3 : Qd, q3 = { q2 with vd := d' } := ⟨_, rfl⟩
  rw [← hq3] at O4
  have ex : q2.x = q3.x := by rw [hq3]
  rw [ex] at F4
  have st3 : q3.kind = q.kind ∧ q3.wd = q.wd ∧ q3.most = q.most ∧ q3.hd = 0 ∧ q3.tl = 0 := by rw [hq3]; exact ⟨e1, e2, e3, e4, e5⟩
  have sl3 : q3.sl = [] := by rw [hq3]; exact e6
  obtain ⟨qs3, I3, N4⟩ := O4.news
  have nd3 := O4.nd
  clear hq3 ex F3 N3 l1 I2 dn n1 O4 e1 e2 e3 e4 e5 e6
  refine wpX_execs_cons ?_
  refine my_For (wpX.of ?_)
  repeat' ((fail_if_success (first | (with_reducible show Exists _) | (with_reducible show wpAny _ _ (exec (Stmt.While _ _ _ _) _) _ _ _) | (with_reducible show wpAny _ _ (exec (Stmt.For _ _ _ _ _) _) _ _ _) | (with_reducible show wpAny _ _ (eval (Expr.ListComp _ _ _ _) _) _ _ _))); first | (k_unfold; (try dsimp only)) | walk1 | (dsimp only; walk1))
  dsimp only
  obtain ⟨Dc, lov⟩ := H.dict
  obtain ⟨ep, DA0⟩ : ∃ ep, s.heap.DictAt (intKind prog w) q.vd (kvsOf q.sl) ep := by
    obtain ⟨o, es, ep, r⟩ := Dc; exact ⟨ep, o, es, r⟩
  have DA := DA0.at' (h' := h4) fun o e => F4.keep _ _ e
  have hvdI : q.vd ≠ h4.objs.size := fun e => by
    obtain ⟨o, es, ho, r⟩ := DA
    have := Heap.lt_size ho; rw [e] at this; exact Nat.lt_irrefl _ this
  refine wpAny_pyIter_dict lov DA ?_
  dsimp only
  generalize hI0 : h4.objs.size = I0 at hvdI ⊢
  refine codeX_for (Walks.dictKeys (knd := intKind prog w) (A := (AN dp un fr gd).deeper _) rfl I0 q.vd hvdI (kvsOf q.sl) ep)
    (fun i s' => (Ex6 fun h tk m' q4 qs4 oI => All11 (s' = { s with heap := h, toks := tk }) (Fr s.heap L h m') (m' (Str.ofString "other") = some (.ref q4.x)) (m' (Str.ofString "self") = some (.ref q.x)) (IsQ prog w q4 qs4) (News s.heap L h ((I0, oI) :: qs4)) (I0 ∉ q4.as) (h.IsKeyIter I0 q.vd i (kvsOf q.sl).length ep) (q4.as.Nodup) ((q4.kind = q.kind ∧ q4.wd = q.wd ∧ q4.most = q.most ∧ q4.hd = 0 ∧ q4.tl = 0)) (q4.sl.map (fun e => (e.1, e.2.2)) = (q.sl.take i).map (fun e => (e.1, e.2.2)))))
    ?hst ?turn ?done (kvsOf q.sl).length 0 _ (Nat.sub_zero _) (Nat.zero_le _) ?init
  case hst =>
    rintro i s' ⟨h, tk, m', q4, qs4, oI, rfl, F, _, _, _, N, _, hI, _⟩
    refine ⟨hI, ?_⟩
    exact DA0.at' fun o e => F.keep _ _ e
  case init =>
    subst hI0
    refine ⟨_, _, _, q3, qs3, _, rfl, F4.push _, rfl, rfl, I3, N4.push F4 _, fun hm => ?_, ⟨_, Heap.get?_push_size _ rfl, rfl, rfl⟩, nd3, st3, by rw [sl3]; rfl⟩
    rw [← I3.addrs] at hm
    obtain ⟨p, hp, e⟩ := List.mem_map.mp hm
    have := Heap.lt_size (N4 p hp).1
    rw [e] at this; exact Nat.lt_irrefl _ this
  case done =>
    rintro s₁ h' tk ⟨h, tk0, m', q4, qs4, oI, rfl, F, hm1, hm2, I4, N, hIn, hIt, nd4, st4, sl4⟩ hk
    obtain ⟨F5, N5⟩ := iter_end F N (fun p hp e => hIn (by rw [← I4.addrs, ← e]; exact List.mem_map_of_mem hp)) hk
    clear F4 N4 F N
    dsimp only
    refine wpX.of ?_
    repeat' ((fail_if_success (first | (with_reducible show Exists _) | (with_reducible show wpAny _ _ (exec (Stmt.While _ _ _ _) _) _ _ _) | (with_reducible show wpAny _ _ (exec (Stmt.For _ _ _ _ _) _) _ _ _) | (with_reducible show wpAny _ _ (eval (Expr.ListComp _ _ _ _) _) _ _ _))); first | (k_unfold; (try dsimp only)) | walk1 | (dsimp only; walk1))
    all_goals (try dsimp only)
    have hlen : (kvsOf q.sl).length = q.sl.length := by simp [kvsOf]
    rw [hlen, List.take_length] at sl4
    have ok4 := Qd.Ok.of_same hq st4 sl4 nd4
    refine hQ q4 h' _ F5.keep (fun a ha => ?_) st4.1 st4.2.1 st4.2.2.1 st4.2.2.2.1 st4.2.2.2.2 sl4 ⟨_, I4, fun p hp => (N5 p hp).1⟩ ok4
    rw [← I4.addrs] at ha
    obtain ⟨p, hp, rfl⟩ := List.mem_map.mp ha
    exact (N5 p hp).2.2
  case turn =>
    rintro i v s₁ h' tk hi ⟨h, tk0, m', q4, qs4, oI, rfl, F, hm1, hm2, I4, N, hIn, hIt, nd4, st4, sl4⟩ ⟨kk, xx, hx, hkv⟩ ⟨⟨oI', hI', cI', dI'⟩, _⟩ hk
    obtain ⟨F5, N5⟩ := iter_step F N (fun p hp e => hIn (by rw [← I4.addrs, ← e]; exact List.mem_map_of_mem hp)) hk hI'
    obtain ⟨tv, rfl⟩ := Value.isInt_shape hkv
    clear F4 N4 F N hI0
    dsimp only
    repeat' ((fail_if_success (first | (with_reducible show Exists _) | (with_reducible show wpAny _ _ (exec (Stmt.While _ _ _ _) _) _ _ _) | (with_reducible show wpAny _ _ (exec (Stmt.For _ _ _ _ _) _) _ _ _) | (with_reducible show wpAny _ _ (eval (Expr.ListComp _ _ _ _) _) _ _ _))); first | (k_unfold; (try dsimp only)) | walk1 | (dsimp only; walk1))
    rename Fr _ _ _ _ => F6
    obtain ⟨m2, F6', hm3, hm1', hm2'⟩ : ∃ m2, Fr s.heap L _ m2 ∧ m2 (Str.ofString "slot") = some (.int kk tv) ∧ m2 (Str.ofString "other") = some (.ref q4.x) ∧ m2 (Str.ofString "self") = some (.ref q.x) :=
      ⟨_, F6, if_pos rfl, (if_neg (by decide +kernel)).trans hm1, (if_neg (by decide +kernel)).trans hm2⟩
    clear F6 hm1 hm2
    obtain ⟨a, b, hse⟩ : ∃ a b, q.sl[i]? = some (kk, a, b) := by
      unfold kvsOf at hx
      rw [List.getElem?_map, Option.map_eq_some_iff] at hx
      obtain ⟨⟨k1, a, b⟩, e1, e2⟩ := hx
      cases e2; exact ⟨a, b, e1⟩
    have hl : q.sl.lookup kk = some (a, b) := lookup_of_get hq.nodup i hse
    have hbz : b.size ≤ sizeLine := by rw [hq.size hl, sizeLine_eq]; have := hq.wd1; omega
    refine wpX_execs_cons ?_
    refine wpX_Assign ?_
    refine wpX_CallName ?_
    repeat' ((fail_if_success (first | (with_reducible show Exists _) | (with_reducible show wpAny _ _ (exec (Stmt.While _ _ _ _) _) _ _ _) | (with_reducible show wpAny _ _ (exec (Stmt.For _ _ _ _ _) _) _ _ _) | (with_reducible show wpAny _ _ (eval (Expr.ListComp _ _ _ _) _) _ _ _))); first | (k_unfold; (try dsimp only)) | walk1 | (dsimp only; walk1))
    refine wpX_callWith_B rfl ?_
    repeat' ((fail_if_success (first | (with_reducible show Exists _) | (with_reducible show wpAny _ _ (exec (Stmt.While _ _ _ _) _) _ _ _) | (with_reducible show wpAny _ _ (exec (Stmt.For _ _ _ _ _) _) _ _ _) | (with_reducible show wpAny _ _ (eval (Expr.ListComp _ _ _ _) _) _ _ _))); first | (k_unfold; (try dsimp only)) | walk1 | (dsimp only; walk1))
    rename Fr _ _ _ _ => F6
    rename News _ _ _ _ => N6
    refine ba_of_ba (QAt.ba (H.keeps F6.keep) hl) hbz fun h7 a7 ea7 hba7 k7 => ?_
    dsimp only at ea7 k7
    have na := fresh_of_size ea7
    have F7 := F6.keeps k7
    have N7 := N6.keeps k7
    have naq : a7 ∉ q4.as := fun hm => by
      rw [← I4.addrs] at hm
      obtain ⟨p, hp, rfl⟩ := List.mem_map.mp hm
      have := (N6 p (.tail _ hp)).1
      rw [na] at this; cases this
    have naI : a7 ≠ I0 := fun e => by
      have := (N6 _ (.head _)).1
      rw [← e, na] at this; cases this
    have nL : a7 ≠ L := fun e => by
      obtain ⟨oL, _, _, hL, _⟩ := F6.ns
      rw [← e, na] at hL; cases hL
    have ng : s.heap.get? a7 = none := by
      cases e : s.heap.get? a7 with
      | none => rfl
      | some o => have := F6.keep _ _ e; rw [na] at this; cases this
    clear F6 N6 na ea7 k7
    refine wpX_store ?_
    dsimp only
    repeat' ((fail_if_success (first | (with_reducible show Exists _) | (with_reducible show wpAny _ _ (exec (Stmt.While _ _ _ _) _) _ _ _) | (with_reducible show wpAny _ _ (exec (Stmt.For _ _ _ _ _) _) _ _ _) | (with_reducible show wpAny _ _ (eval (Expr.ListComp _ _ _ _) _) _ _ _))); first | (k_unfold; (try dsimp only)) | walk1 | (dsimp only; walk1))
    have hno : q4.sl.lookup kk = none := lookup_none_of fun hm => by
      have e0 := same_keys sl4
      rw [e0, List.map_take] at hm
      obtain ⟨j, hj⟩ := List.mem_iff_getElem?.mp hm
      have hji : j < i := by
        have := (List.getElem?_eq_some_iff.mp hj).1
        rw [List.length_take] at this; omega
      rw [List.getElem?_take_of_lt hji] at hj
      have hki : (q.sl.map (·.1))[i]? = some kk := by rw [List.getElem?_map, hse]; rfl
      have hlt := (List.getElem?_eq_some_iff.mp hki).1
      have := (List.getElem?_inj (by omega) hq.nodup).mp (hj.trans hki.symm)
      omega
    have hz4 : q4.sl.length ≤ sizeLine := by
      have e0 := congrArg List.length sl4
      rw [List.length_map, List.length_map, List.length_take] at e0
      have := hq.slen
      rw [sizeLine_eq]; omega
    refine wpX.of (q_put_new F7 (Own.of_hid I4 (News.mono N7 fun p hp => .tail _ hp) nd4) hba7 naq nL ng hno hz4 fun h8 k8 F8 O8 => ?_)
    refine wpX_execs_nil ?_
    obtain ⟨qs8, I8, N8⟩ := O8.news
    have hvd4 : I0 ≠ q4.vd := fun e => hIn (by rw [e]; exact .tail _ (.tail _ (.head _)))
    have n7 := N7 _ (.head _)
    have hI8 : h8.get? I0 = some oI' := (k8 I0 hvd4).trans n7.1
    refine ⟨h8, _, m2, { q4 with sl := q4.sl ++ [(kk, a7, b)] }, qs8, oI', rfl, F8, hm1', hm2', I8, ?_, ?_, ⟨oI', hI8, cI', dI'⟩, O8.nd, st4, ?_⟩
    · intro p hp
      rcases List.mem_cons.mp hp with rfl | hp
      · exact ⟨hI8, n7.2⟩
      · exact N8 p hp
    · intro hm
      have : I0 ∈ q4.as ++ [a7] := by simpa [Qd.as] using hm
      rcases List.mem_append.mp this with h | h
      · exact hIn h
      · exact naI (List.mem_singleton.mp h).symm
    · dsimp only
      rw [List.take_add_one, hse, List.map_append, sl4, List.map_append]; rfl
end

theorem Holds.same {q q2 : Qd} {rows : List (Array UInt8)} (h : Holds q rows) (e1 : q2.most = q.most) (e2 : q2.hd = q.hd) (e3 : q2.tl = q.tl) (e : q2.sl.map (fun e => (e.1, e.2.2)) = q.sl.map (fun e => (e.1, e.2.2))) : Holds q2 rows := by
  refine ⟨?_, fun k b hb => ?_⟩
  · rw [h.1]; unfold Qd.cnt; rw [e1, e2, e3]
  · obtain ⟨a, ha⟩ := h.2 k b hb
    have : q2.place (k : Int) = q.place (k : Int) := by unfold Qd.place; rw [e1, e3]
    rw [this]
    exact same_lookup e ha
section
variable {prog : Program} {w : World} {A : Around} {E : Value → Shared → Prop} {s : Shared} {mg mb : Str → Option Value} {h₀ : Heap} {L : Addr} {m : Str → Option Value} {q : Qd} {dp un : Nat} {fr : Option (List Env)} {gd : Option (List Code)}
set_option maxHeartbeats 0 in
theorem c_copy {rows : List (Array UInt8)} {Q : Value → Shared → Prop} (R : Rm (AN dp un fr gd) 10) (Y : Lay w mg mb s.heap) (H : QAt prog w s.heap q) (hq : q.Ok) (hr : Holds q rows)
    (hQ : ∀ (q2 : Qd) (h' : Heap) (tk' : Nat), Kp s.heap h' → (∀ a ∈ q2.as, s.heap.get? a = none) → q2.kind = q.kind → q2.wd = q.wd → q2.most = q.most → Holds q2 rows → QAt prog w h' q2 → q2.Ok →
      Q (.ref q2.x) { s with heap := h', toks := tk' }) :
    wpT (model prog w) (AN dp un fr gd) (call (.ref 402) [.ref q.x]) Q E s := by
  refine wpT_call ?_
  refine' enterX (b := true) (binds := [(Str.ofString "self", .ref q.x)]) [] (fun _ h => nomatch h) R Y (fun _ _ e => e) ?k1 ?k2 ?k3 ?k4 ?_ ?k5 ?k6 ?k7 ?k8
  case k1 => k_is
  case k2 => k_is
  case k3 => exact BindsTo.of_eq rfl
  case k4 => exact locs rfl
  case k5 => decide
  case k6 => exact rfl
  case k7 => exact rfl
  case k8 => exact rfl
  intro L h₁ Y0 Hg0 F0 N0 R'
  have X := Y.X
  have T := Y.T
  have F : Fr s.heap L h₁ _ := F0
  have N : News s.heap L h₁ [] := N0
  clear F0 N0 Y0 Hg0
  refine wpX_execs_cons ?_
  refine wpX_Assign ?_
  refine wpX_CallMeth ?_
  repeat' ((fail_if_success (first | (with_reducible show Exists _) | (with_reducible show wpAny _ _ (exec (Stmt.While _ _ _ _) _) _ _ _) | (with_reducible show wpAny _ _ (exec (Stmt.For _ _ _ _ _) _) _ _ _) | (with_reducible show wpAny _ _ (eval (Expr.ListComp _ _ _ _) _) _ _ _))); first | (k_unfold; (try dsimp only)) | walk1 | (dsimp only; walk1))
  refine wpX_callWith_K X (by k_is) ?_
  repeat' ((fail_if_success (first | (with_reducible show Exists _) | (with_reducible show wpAny _ _ (exec (Stmt.While _ _ _ _) _) _ _ _) | (with_reducible show wpAny _ _ (exec (Stmt.For _ _ _ _ _) _) _ _ _) | (with_reducible show wpAny _ _ (eval (Expr.ListComp _ _ _ _) _) _ _ _))); first | (k_unfold; (try dsimp only)) | walk1 | (dsimp only; walk1))
  rename Fr _ _ _ _ => F1
  rename News _ _ _ _ => N1
  refine c_mapcopy (Rm.mono R' (by decide)) (Y.keeps F1.keep) (H.keeps F1.keep) hq fun q2 h2 tk2 k2 fr2 e1 e2 e3 e4 e5 sl2 H2 ok2 => ?_
  obtain ⟨qs2, I2, N2, _⟩ := News.made F1 N1 k2 fr2 H2
  rw [List.append_nil] at N2
  have F2 := F1.keeps k2
  clear F1 N1 k2 fr2 H2
  refine wpX.of ?_
  repeat' ((fail_if_success (first | (with_reducible show Exists _) | (with_reducible show wpAny _ _ (exec (Stmt.While _ _ _ _) _) _ _ _) | (with_reducible show wpAny _ _ (exec (Stmt.For _ _ _ _ _) _) _ _ _) | (with_reducible show wpAny _ _ (eval (Expr.ListComp _ _ _ _) _) _ _ _))); first | (k_unfold; (try dsimp only)) | walk1 | (dsimp only; walk1))
  refine wpX_execs_cons (wpX.of ?_)
  have nd2 := ok2.ad
  repeat' ((fail_if_success (first | (with_reducible show Exists _) | (with_reducible show wpAny _ _ (exec (Stmt.While _ _ _ _) _) _ _ _) | (with_reducible show wpAny _ _ (exec (Stmt.For _ _ _ _ _) _) _ _ _) | (with_reducible show wpAny _ _ (eval (Expr.ListComp _ _ _ _) _) _ _ _))); first | (k_unfold; (try dsimp only)) | walk1 | (dsimp only; walk1))
  rename_i q3 qs3 e6 x3 F3 I3 N3
  clear I2
  have nd3 : q3.as.Nodup := by rw [e6]; exact nd2
  refine wpX_execs_cons (wpX.of ?_)
  repeat' ((fail_if_success (first | (with_reducible show Exists _) | (with_reducible show wpAny _ _ (exec (Stmt.While _ _ _ _) _) _ _ _) | (with_reducible show wpAny _ _ (exec (Stmt.For _ _ _ _ _) _) _ _ _) | (with_reducible show wpAny _ _ (eval (Expr.ListComp _ _ _ _) _) _ _ _))); first | (k_unfold; (try dsimp only)) | walk1 | (dsimp only; walk1))
  refine wpX.of ?_
  repeat' ((fail_if_success (first | (with_reducible show Exists _) | (with_reducible show wpAny _ _ (exec (Stmt.While _ _ _ _) _) _ _ _) | (with_reducible show wpAny _ _ (exec (Stmt.For _ _ _ _ _) _) _ _ _) | (with_reducible show wpAny _ _ (eval (Expr.ListComp _ _ _ _) _) _ _ _))); first | (k_unfold; (try dsimp only)) | walk1 | (dsimp only; walk1))
  rename_i q4 qs4 e7 x4 F4 I4 N4
  dsimp only
  have ok4 : q4.Ok := by
    rw [e7, e6]
    exact (ok2.hd (i := q.hd) (by rw [e3]; exact ⟨hq.hd0, hq.hd1⟩)).tl (i := q.tl) (by dsimp only; rw [e3]; exact ⟨hq.tl0, hq.tl1⟩)
  refine hQ q4 _ _ F4.keep (fun a ha => ?_) (by rw [e7, e6]; exact e1) (by rw [e7, e6]; exact e2) (by rw [e7, e6]; exact e3) (hr.same (by rw [e7, e6]; exact e3) (by rw [e7, e6]) (by rw [e7]) (by rw [e7, e6]; exact sl2)) ⟨_, I4, fun p hp => (N4 p hp).1⟩ ok4
  rw [← I4.addrs] at ha
  obtain ⟨p, hp, rfl⟩ := List.mem_map.mp ha
  exact (N4 p hp).2.2
end

section
variable {prog : Program} {w : World} {A : Around} {E : Value → Shared → Prop} {s : Shared} {mg mb : Str → Option Value} {h₀ : Heap} {L : Addr} {m : Str → Option Value} {q : Qd} {dp un : Nat} {fr : Option (List Env)} {gd : Option (List Code)}
inductive NewsP (prog : Program) (w : World) (g : Heap) (L : Addr) (h' : Heap) (m : Str → Option Value) (pre : List (Addr × Obj)) (q' : Qd) : Prop
  | mk (F : Fr g L h' m) (qs' : List (Addr × Obj)) (I : IsQ prog w q' qs') (N : News g L h' (pre ++ qs')) (ap : ∀ p ∈ pre, p.1 ∉ q'.as) : NewsP prog w g L h' m pre q'
theorem Mut.newsP {g h h' : Heap} {q' : Qd} {pre qs : List (Addr × Obj)} (M : Mut prog w h h' q q') (F : Fr g L h m) (N : News g L h (pre ++ qs)) (I : IsQ prog w q qs) (nd : q.as.Nodup) (ap : ∀ p ∈ pre, p.1 ∉ q.as) :
    NewsP prog w g L h' m pre q' := by
  obtain ⟨F', qs', I', N'⟩ := Mut.news M F (News.mono N fun p hp => List.mem_append_right _ hp) I nd
  obtain ⟨N2, ap2⟩ := News.mut (News.mono N fun p hp => List.mem_append_left _ hp) ap M
  refine ⟨F', qs', I', fun p hp => ?_, ap2⟩
  rcases List.mem_append.mp hp with hp | hp
  · exact N2 p hp
  · exact N' p hp
theorem IsQ.apart {qs : List (Addr × Obj)} {l : Addr} (I : IsQ prog w q qs) (h : l ∉ q.as) : ∀ p ∈ qs, p.1 ≠ l := fun p hp e => h (by rw [← I.addrs, ← e]; exact List.mem_map_of_mem hp)
end
theorem kw_f_19 : True := by
  k_with "call builtin:list.append" => ((with_reducible show wpAny _ _ (call (Value.builtin "list.append") [Value.ref _, _]) _ _ _); k_dflt (refine' append_K (by k_asm) (by k_asm) (by exact Upd.head (by assumption)) ?_ (by assumption); k_whole); intro _ _ _; (try k_sweep))
  exact trivial
theorem duePop_inTurn {kind : Str} {rows : List (Array UInt8)} (h : rows ≠ []) : ∃ b, (duePop kind rows).1 = some b ∧ inTurn kind rows = b :: inTurn kind (duePop kind rows).2 ∧ (duePop kind rows).2.length + 1 = rows.length := by
  unfold duePop inTurn
  rw [if_neg h]
  have hl : 0 < rows.length := List.length_pos_iff.mpr h
  by_cases hk : (kind == Str.ofString "queue") = true
  · simp only [hk, if_true]
    cases rows with
    | nil => exact (h rfl).elim
    | cons b r => exact ⟨b, rfl, rfl, rfl⟩
  · simp only [hk, if_false, Bool.false_eq_true]
    refine ⟨rows.getLast h, List.getLast?_eq_some_getLast h, ?_, ?_⟩
    · conv => lhs; rw [← List.dropLast_concat_getLast h]
      simp
    · rw [List.length_dropLast]; omega
section
variable {prog : Program} {w : World} {A : Around} {E : Value → Shared → Prop} {s : Shared} {mg mb : Str → Option Value} {h₀ : Heap} {L : Addr} {m : Str → Option Value} {q : Qd} {dp un : Nat} {fr : Option (List Env)} {gd : Option (List Code)}
set_option maxHeartbeats 0 in
theorem c_drain {rows : List (Array UInt8)} {Q : Value → Shared → Prop} {g₀ : Heap} (R : Rm (AN dp un fr gd) 7) (Y : Lay w mg mb g₀) (k : Kp g₀ s.heap) (hg : ∀ a ∈ q.as, g₀.get? a = none) (H : QAt prog w s.heap q) (hq : q.Ok) (hr : Holds q rows)
    (hQ : ∀ q' r vs c h' tk, Mut prog w s.heap h' q q' → q'.Ok → Holds q' [] → s.heap.get? r = none → h'.get? r = some (W.listOf (List.toArray vs) c) → BytesAre vs (inTurn q.kind rows) → Q (.ref r) { s with heap := h', toks := tk }) :
    wpAny (model prog w) (AN dp un fr gd) (call (.ref 427) [.ref q.x]) Q E s := by
  obtain ⟨qs, IQ, KQ⟩ := H
  refine wpAny_call ?_
  refine codeX.any ?_
  refine' enterX (b := false) (binds := [(Str.ofString "queue", .ref q.x)]) qs ?k0 R Y k ?k1 ?k2 ?k3 ?k4 ?_ ?k5 ?k6 ?k7 ?k8
  case k0 => exact fun p hp => ⟨KQ p hp, hg _ (IQ.addrs ▸ List.mem_map_of_mem hp)⟩
  case k1 => k_is
  case k2 => k_is
  case k3 => exact BindsTo.of_eq rfl
  case k4 => exact locs rfl
  case k5 => decide
  case k6 => exact rfl
  case k7 => exact rfl
  case k8 => exact rfl
  clear Y k
  rw [IQ.addrs]
  intro L h₁ Y Hg F N R'
  generalize hideAll s.heap q.as = g at Y Hg F N
  clear KQ
  have X := Y.X
  have T := Y.T
  refine wpX.of ?_
  show wpAny _ _ _ _ _ _
  k_fold
  repeat' ((fail_if_success (first | (with_reducible show Exists _) | (with_reducible show wpAny _ _ (exec (Stmt.While _ _ _ _) _) _ _ _) | (with_reducible show wpAny _ _ (exec (Stmt.For _ _ _ _ _) _) _ _ _) | (with_reducible show wpAny _ _ (eval (Expr.ListComp _ _ _ _) _) _ _ _))); first | (k_unfold; (try dsimp only)) | walk1 | (dsimp only; walk1))
  rename_i l h0 l1 h1 F1 N1
  have hl : l ∉ q.as := fun hm => by
    rw [← IQ.addrs] at hm
    obtain ⟨p, hp, e⟩ := List.mem_map.mp hm
    have := l1 p hp
    rw [e] at this; exact Nat.lt_irrefl _ this
  have ad := hq.ad
  refine wpX.any (my_While (fun n s' => (Ex9 fun h tk m' q1 qs1 rows1 vs c done => All13 (s' = { s with heap := h, toks := tk }) (rows1.length = n) (Fr g L h m') (m' (Str.ofString "found") = some (.ref l)) (m' (Str.ofString "queue") = some (.ref q1.x)) (IsQ prog w q1 qs1) (News g L h ((l, W.listOf (List.toArray vs) c) :: qs1)) (l ∉ q1.as) (q1.Ok) (Holds q1 rows1) ((q1.x = q.x ∧ q1.kind = q.kind ∧ q1.wd = q.wd ∧ q1.most = q.most)) (BytesAre vs done) (done ++ inTurn q.kind rows1 = inTurn q.kind rows))) rows.length ?init ?turn)
  case init =>
    exact ⟨_, _, _, q, qs, rows, [], 0, [], rfl, rfl, F1, rfl, rfl, IQ, N1, hl, hq, hr, ⟨rfl, rfl, rfl, rfl⟩, .nil, rfl⟩
  case turn =>
    rintro n s' ⟨h, tk, m', q1, qs1, rows1, vs, c, done, rfl, hn, F, hm1, hm2, I1, N, hl1, hq1, hr1, st, hB, hdn⟩
    clear F1 N1 IQ l1 ad
    refine wpX.of ?_
    repeat' ((fail_if_success (first | (with_reducible show Exists _) | (with_reducible show wpAny _ _ (exec (Stmt.While _ _ _ _) _) _ _ _) | (with_reducible show wpAny _ _ (exec (Stmt.For _ _ _ _ _) _) _ _ _) | (with_reducible show wpAny _ _ (eval (Expr.ListComp _ _ _ _) _) _ _ _))); first | (k_unfold; (try dsimp only)) | walk1 | (dsimp only; walk1))
    all_goals (try dsimp only)
    · rename_i F2 N2 he
      have e0 := (hr1.nil_iff hq1).mp he
      subst e0
      have e1 : inTurn q.kind [] = [] := by unfold inTurn; split <;> rfl
      rw [e1, List.append_nil] at hdn
      rw [hdn] at hB
      exact hQ q1 l vs c _ _ (Mut.of_news F2 I1 (News.mono N2 fun p hp => .tail _ hp) hq1.ad Hg st) hq1 hr1 (by
        cases e : s.heap.get? l with
        | none => rfl
        | some o => have := Hg.get l o e hl; rw [(N2 (l, _) (.head _)).2.2] at this; cases this) (N2 _ (.head _)).1 hB
    · rename_i he
      have hne : rows1 ≠ [] := fun e => he ((hr1.nil_iff hq1).mpr e)
      obtain ⟨b, p1, p2, p3⟩ := duePop_inTurn (kind := q1.kind) hne
      refine wpX.of ?_
      repeat' ((fail_if_success (first | (with_reducible show Exists _) | (with_reducible show wpAny _ _ (exec (Stmt.While _ _ _ _) _) _ _ _) | (with_reducible show wpAny _ _ (exec (Stmt.For _ _ _ _ _) _) _ _ _) | (with_reducible show wpAny _ _ (eval (Expr.ListComp _ _ _ _) _) _ _ _))); first | (k_unfold; (try dsimp only)) | walk1 | (dsimp only; walk1))
      rename Fr _ _ _ _ => F3
      rename News _ _ _ _ => N3
      refine c_pop (g₀ := g) (Rm.mono R' (by decide)) Y F3.keep (fun a ha => (Own.of_hid I1 (News.mono N3 fun p hp => .tail _ hp) hq1.ad).ng a ha) (QAt.of_news I1 N3 fun _ h => .tail _ h) hq1 hr1 fun q2 v h4 tk4 M2 ok2 hr2 hv => ?_
      rw [p1] at hv
      obtain ⟨tv, rfl⟩ := hv
      obtain ⟨F4, qs2, I2, N4, ap4⟩ := Mut.newsP (pre := [(l, _)]) M2 F3 N3 I1 hq1.ad (fun p hp => by rcases List.mem_singleton.mp hp with rfl; exact hl1)
      have hl2 : l ∉ q2.as := ap4 _ (.head _)
      have hap := I2.apart hl2
      have hz : (List.toArray vs).size ≤ sizeLine := by
        have e1 := congrArg List.length hdn
        rw [List.length_append, inTurn_length, inTurn_length] at e1
        have e2 := hr.1
        have e3 := Qd.cnt_le hq
        have e4 := hq.most1
        rw [List.size_toArray, hB.length, sizeLine_eq]; omega
      have N4' : News g L h4 ((l, W.listOf (List.toArray vs) c) :: qs2) := N4
      clear F3 N3 N4
      repeat' ((fail_if_success (first | (with_reducible show Exists _) | (with_reducible show wpAny _ _ (exec (Stmt.While _ _ _ _) _) _ _ _) | (with_reducible show wpAny _ _ (exec (Stmt.For _ _ _ _ _) _) _ _ _) | (with_reducible show wpAny _ _ (eval (Expr.ListComp _ _ _ _) _) _ _ _))); first | (k_unfold; (try dsimp only)) | walk1 | (dsimp only; walk1))
      rename_i h5 F5 N5
      rw [st.2.1] at p2 p3 hr2
      refine ⟨n - 1, by omega, h5, _, m', q2, qs2, _, vs ++ [.bytes b tv], c + 1, done ++ [b], rfl, by omega, F5, hm1, by rw [M2.x]; exact hm2, I2, by simpa only [List.push_toArray] using N5, hl2, ok2, hr2, ⟨M2.x.trans st.1, M2.kind.trans st.2.1, M2.wd.trans st.2.2.1, M2.most.trans st.2.2.2⟩, hB.append (.cons _ _ .nil), ?_⟩
      rw [← hdn, p2, List.append_assoc]; rfl
end

section
variable {b : Bool} {M : Model} {A : Around} {E : Value → Shared → Prop} {s : Shared} {env : Env} {pos : Pos} {f : Value} {first : List Value}
theorem wpX_spliced1 {x : Sem Value} {Q : List Value → Shared → Prop} (h : wpX b M A x (fun v s₁ => Q [v] s₁) E s) : wpX b M A (spliced [(false, x)]) Q E s := by
  rw [spliced]
  refine wpT_bind (wpT_mono h (fun v s₁ h₁ => ?_) fun _ _ x => x)
  simp only [Bool.false_eq_true, if_false]
  exact wpT_bind (wpT_pure (wpT_bind (wpT_holding (wpT_pure (wpT_pure h₁)))))
theorem wpX_evalArgs1 {x : Sem Value} {Q : Args → Shared → Prop} (h : wpX b M A x (fun v s₁ => Q ⟨[v], []⟩ s₁) E s) : wpX b M A (evalArgs f true [(false, x)] []) Q E s := by
  unfold evalArgs
  show wpX b M A (spliced [(false, x)] >>= _) Q E s
  refine wpT_bind (wpX_spliced1 (wpT_mono h (fun v s' h' => ?_) fun _ _ x => x))
  refine wpT_holding ?_
  exact wpT_bind (wpT_pure (wpT_bind (wpT_pure (wpT_pure h'))))
theorem wpX_callWith_arg {e : PySem.Expr} {Q : Value → Shared → Prop} (hm : keeperOf f = pure Keeper.machine) (h : wpX b M A (eval e env) (fun v s₁ => wpX b M A (call f (first ++ [v])) Q E s₁) E s)
    (he : starEach [e] env = [(false, eval e env)] := by rfl) : wpX b M A (callWith pos f first (backTo pos (starEach [e] env)) []) Q E s := by
  rw [he]
  show wpX b M A (callWith pos f first [(false, eval e env)] []) Q E s
  unfold callWith
  refine wpT_bind (wpT_holding (wpX_evalArgs1 (wpT_mono h (fun v s₁ h₁ => ?_) fun _ _ x => x)))
  refine wpT_bind (wpX.of (wpAny_standAt ?_))
  rw [hm]
  refine wpT_bind (wpT_pure ?_)
  exact wpT_bind (wpT_mono h₁ (fun r s₂ hr => wpT_bind (wpT_holding (wpX.of (wpAny_point (wpT_pure hr))))) fun _ _ x => x)
end

noncomputable def riter (n i : Nat) : Obj := { cls := .type "range_iterator", data := .fields #[rawInt ((i : Nat) : Int), rawInt ((n : Int) - (i : Nat)), rawInt 1] }
theorem range_loop {b : Bool} {prog : Program} {w : World} {A : Around} {E : Value → Shared → Prop} {s : Shared} {env : Env} {x : Str} {px : Pos} {body : List Stmt} {Q : Flow → Shared → Prop} {r : Addr} {n : Nat} {t u v : Tok} (hr : IsRange s.heap r 0 n 1 t u v) (hn : n ≤ 1000) (hh : A.handled = none)
    (J : Nat → Shared → Prop) (init : J 0 { s with heap := s.heap.push (riter n 0) }) (hst : ∀ i s', J i s' → s'.heap.get? s.heap.objs.size = some (riter n i))
    (turn : ∀ i t s₁ h' tk, i < n → J i s₁ → h'.get? s.heap.objs.size = some (riter n (i + 1)) → (∀ a o, a ∉ [s.heap.objs.size] → s₁.heap.get? a = some o → h'.get? a = some o) →
      wpAny (model prog w) A (bindName env x (.int (i : Nat) t)) (fun _ s₂ => wpX b (model prog w) A (execs body env) (TurnEnd (J (i + 1)) Q) (fun _ _ => False) s₂) (fun _ _ => False) { s₁ with heap := h', toks := tk })
    (done : ∀ s₁ h' tk, J n s₁ → (∀ a o, a ∉ [s.heap.objs.size] → s₁.heap.get? a = some o → h'.get? a = some o) → Q .next { s₁ with heap := h', toks := tk }) :
    wpAny (model prog w) A (pyIter (.ref r)) (fun it s₂ => codeX b (model prog w) A (.forLoop (.Name x px) it body [] env) (LoopR Q) s₂) E s := by
  refine wpAny_pyIter_range hr (small_one (by decide) (by decide) (by omega) (by omega)) ?_
  have e : Builtin.Range.rangeSize 0 (n : Int) 1 = (n : Int) := by rw [rangeSize_one]; split <;> omega
  rw [e]
  have ej : ∀ i : Nat, ({ cls := .type "range_iterator", dict := none, data := .fields #[rawInt (0 + (i : Nat) * 1), rawInt ((n : Int) - (i : Nat)), rawInt 1], slots := #[] } : Obj) = riter n i := fun i => by unfold riter; rw [Int.mul_one, Int.zero_add]
  refine codeX_for (LCg.range_walks hh 0 n) J (fun i s' hJ => ?_) (fun i v s₁ h' tk hi hJ hP hS hk => ?_) (fun s₁ h' tk hJ hk => done s₁ h' tk hJ hk) n 0 _ (Nat.sub_zero _) (Nat.zero_le _) ?_
  · show s'.heap.get? _ = some _
    rw [ej]; exact hst i s' hJ
  · obtain ⟨t, rfl⟩ := hP
    have hS' : h'.get? s.heap.objs.size = some _ := hS
    rw [ej] at hS'
    rw [Int.zero_add]
    exact turn i t s₁ h' tk hi hJ hS' hk
  · have : ({ cls := .type "range_iterator", data := .fields #[rawInt 0, rawInt (n : Int), rawInt 1] } : Obj) = riter n 0 := by unfold riter; simp
    rw [this]; exact init

noncomputable abbrev penObj (pc : Addr) (sp : Nat) (gr : Int) (t u : Tok) (n : Nat) : Obj := W.listOf #[.ref pc, .int (sp : Int) t, .int gr u] n
section
variable {prog : Program} {w : World} {A : Around} {E : Value → Shared → Prop} {s : Shared}
theorem ne_nilL {a b : Addr} {vs : List Value} {n : Nat} {Q : Value → Shared → Prop} (ha : s.heap.IsList a vs.toArray) (hb : s.heap.IsList b (List.toArray [])) (hn : vs.length = n) (hu : A.units < cLine)
    (h : Q (.bool (decide (0 < n))) s) : wpAny (model prog w) A (compareOp .NotEq (.ref a) (.ref b)) Q E s := by
  subst hn
  by_cases e : vs = []
  · subst e; exact rcNeAt_bytes ha hb .nil .nil hu prog w E Q h
  · rw [decide_eq_true (List.length_pos_iff.mpr e)] at h
    exact PySem.SeqAt.RcNeAt.lists_lengths ha hb (by simpa using e) hu prog w E Q h
theorem eq_nilL {a b : Addr} {vs : List Value} {n : Nat} {Q : Value → Shared → Prop} (ha : s.heap.IsList a vs.toArray) (hb : s.heap.IsList b (List.toArray [])) (hn : vs.length = n) (hu : A.units < cLine)
    (h : Q (.bool (decide (n = 0))) s) : wpAny (model prog w) A (compareOp .Eq (.ref a) (.ref b)) Q E s := by
  subst hn
  by_cases e : vs = []
  · subst e; exact rcAt_bytes ha hb .nil .nil hu prog w E Q h
  · rw [decide_eq_false (fun q => e (List.length_eq_zero_iff.mp q))] at h
    exact PySem.SeqAt.RcAt.lists_lengths ha hb (by simpa using e) hu prog w E Q h
theorem pow_any {a n : Int} {t u : Tok} {Q : Value → Shared → Prop} (hn : 0 ≤ n) (hn2 : n ≤ 1000000) (ha : a.natAbs < 2 ^ 64) (h : ∀ z, Q (.int z s.toks) { s with toks := s.toks + 1 }) :
    wpAny (model prog w) A (binaryOp .Pow (.int a t) (.int n u)) Q E s := pow_int_small hn hn2 ha (h _)
theorem pow_bnd1 {c : Int} {sp : Nat} (hs : sp ≤ 100000) : (c.fmod 2147483587 + 27091 * sp + 1201).natAbs < 2 ^ 64 := by
  have := Int.fmod_nonneg_of_pos c (b := 2147483587) (by decide)
  have := Int.fmod_lt_of_pos c (b := 2147483587) (by decide)
  have e : (2 : Nat) ^ 64 = 18446744073709551616 := by decide
  rw [e]; omega
theorem pow_bnd2 {c : Int} {sp : Nat} (hs : sp ≤ 100000) : (c.fmod 2147483629 * (2 * sp + 3001) + 27091 * sp * sp + 19).natAbs < 2 ^ 64 := by
  have h0 := Int.fmod_nonneg_of_pos c (b := 2147483629) (by decide)
  have h1 := Int.fmod_lt_of_pos c (b := 2147483629) (by decide)
  have e : (2 : Nat) ^ 64 = 18446744073709551616 := by decide
  rw [e]
  generalize c.fmod 2147483629 = z at *
  obtain ⟨k, rfl⟩ := Int.eq_ofNat_of_zero_le h0
  have a1 : k * (2 * sp + 3001) ≤ 2147483629 * 203001 := Nat.mul_le_mul (by omega) (by omega)
  have a2 : 27091 * sp * sp ≤ 27091 * 100000 * 100000 := Nat.mul_le_mul (by omega) hs
  have e1 : ((k : Int) * (2 * sp + 3001) + 27091 * sp * sp + 19) = ((k * (2 * sp + 3001) + 27091 * sp * sp + 19 : Nat) : Int) := by push_cast; rfl
  rw [e1, Int.natAbs_natCast]; omega
end
theorem kw_f_20 : True := by
  k_with "my list" => (first | kmk_list | exact ⟨_, Fr.keep (by k_asm) _ _ (by assumption), rfl, _, rfl⟩)
  k_with "my mem" => (first | exact List.Mem.head _ | (refine List.Mem.tail _ ?_; walk_at "my mem"))
  k_with "my ne" => (first | assumption | exact Ne.symm (by assumption) | exact Nat.ne_of_gt (by l_bnd) | exact Nat.ne_of_lt (by l_bnd))
  k_with "my upd" => (first | exact Upd.head (by assumption) | k_upd | (refine Upd.tail ?_ ?_; (walk_at "my ne"); walk_at "my upd"))
  k_with "my units" => (exact Nat.lt_of_le_of_lt (Nat.le_add_right _ _) (Rm.u (by assumption)))
  k_with "compareOp NotEq ref" => ((with_reducible show wpAny _ _ (compareOp CmpOp.NotEq (Value.ref _) (Value.ref _)) _ _ _); k_dflt (refine' ne_nilL (by walk_at "my list") (by walk_at "my list") (by first | exact IntsAre.length (by assumption) | exact BytesAre.length (by assumption) | exact rfl) (by walk_at "my units") ?_))
  k_with "compareOp Eq ref" => ((with_reducible show wpAny _ _ (compareOp CmpOp.Eq (Value.ref _) (Value.ref _)) _ _ _); k_dflt (refine' eq_nilL (by walk_at "my list") (by walk_at "my list") (by first | exact IntsAre.length (by assumption) | exact BytesAre.length (by assumption) | exact rfl) (by walk_at "my units") ?_))
  k_with "setItem ref int" => ((with_reducible show wpAny _ _ (setItem (Value.ref _) (Value.int _ _) _) _ _ _); k_dflt (refine' ki_set (by k_asm) (by k_asm) (by decide) (by decide) (by rfl) (by walk_at "my upd") ?_); intro _ _ _; (try k_sweep))
  k_with "binaryOp Pow int int" => ((with_reducible show wpAny _ _ (binaryOp Operator.Pow (Value.int _ _) (Value.int _ _)) _ _ _); refine' pow_any (by decide) (by decide) (by first | exact pow_bnd1 (by assumption) | exact pow_bnd2 (by assumption)) ?_; intro _)
  exact trivial
section
variable {prog : Program} {w : World} {A : Around} {E : Value → Shared → Prop} {s : Shared} {mg mb : Str → Option Value} {h₀ : Heap} {L : Addr} {m : Str → Option Value} {q : Qd} {dp un : Nat} {fr : Option (List Env)} {gd : Option (List Code)}
theorem pen_stay {pa pc : Addr} {g h' : Heap} {op oc : Obj} (F : Fr g L h' m) (Hg : Hid s.heap g [pa, pc]) (N : News g L h' [(pa, op), (pc, oc)]) (hKc : s.heap.get? pc = some oc) : ∀ b o, b ≠ pa → s.heap.get? b = some o → h'.get? b = some o := by
  intro b o hb e
  by_cases hc : b = pc
  · subst hc; rw [hKc] at e; cases e; exact (N _ (.tail _ (.head _))).1
  · exact F.keep b o (Hg.get b o e (by simp [hb, hc]))
set_option maxHeartbeats 0 in
theorem c_draw {pa pc : Addr} {cells : List Int} {sp : Nat} {gr : Int} {many : Int} {tm t u : Tok} {n k1 : Nat} {vs : List Value} {Q : Value → Shared → Prop} {g₀ : Heap} (R : Rm (AN dp un fr gd) 2) (Y : Lay w mg mb g₀) (k : Kp g₀ s.heap)
    (K : ∀ p ∈ [(pa, penObj pc sp gr t u n), (pc, W.listOf (List.toArray vs) k1)], s.heap.get? p.1 = some p.2 ∧ g₀.get? p.1 = none) (hv : IntsAre vs cells) (hl : cells.length ≤ 60) (hs : sp ≤ 100000) (hG : 0 ≤ gr) (hpc : pc ≠ pa) (h1 : 1 ≤ many) (h2 : many ≤ 256)
    (hQ : ∀ v tv sp' gr' t' u' n' h' tk, (∀ b o, b ≠ pa → s.heap.get? b = some o → h'.get? b = some o) → h'.get? pa = some (penObj pc sp' gr' t' u' n') → 0 ≤ gr' → sp' ≤ sp + 1 → 0 ≤ v → v < many → Q (.int v tv) { s with heap := h', toks := tk }) :
    wpAny (model prog w) (AN dp un fr gd) (call (.ref 454) [.ref pa, .int many tm]) Q E s := by
  have hKc := (K _ (.tail _ (.head _))).1
  refine wpAny_call ?_
  refine codeX.any ?_
  refine' enterX (b := false) (binds := [(Str.ofString "pen", .ref pa), (Str.ofString "many", .int many tm)]) [(pa, penObj pc sp gr t u n), (pc, W.listOf (List.toArray vs) k1)] ?k0 R Y k ?k1 ?k2 ?k3 ?k4 ?_ ?k5 ?k6 ?k7 ?k8
  case k0 => exact K
  case k1 => k_is
  case k2 => k_is
  case k3 => exact BindsTo.of_eq rfl
  case k4 => exact locs rfl
  case k5 => decide
  case k6 => exact rfl
  case k7 => exact rfl
  case k8 => exact rfl
  clear Y k
  intro L h₁ Y Hg F N R'
  change Lay w mg mb (hideAll s.heap [pa, pc]) at Y
  change Hid s.heap (hideAll s.heap [pa, pc]) [pa, pc] at Hg
  change Fr (hideAll s.heap [pa, pc]) L h₁ _ at F
  change News (hideAll s.heap [pa, pc]) L h₁ _ at N
  generalize hideAll s.heap [pa, pc] = g at Y Hg F N
  clear K
  have X := Y.X
  have T := Y.T
  refine wpX.of ?_
  show wpAny _ _ _ _ _ _
  k_fold
  have hap : ∀ p ∈ [(pc, W.listOf (List.toArray vs) k1)], p.1 ≠ pa := fun p hp => by rcases List.mem_singleton.mp hp with rfl; exact hpc
  repeat' ((fail_if_success (first | (with_reducible show Exists _) | (with_reducible show wpAny _ _ (exec (Stmt.If _ _ _ _) _) _ _ _) | (with_reducible show wpAny _ _ (exec (Stmt.While _ _ _ _) _) _ _ _) | (with_reducible show wpAny _ _ (exec (Stmt.For _ _ _ _ _) _) _ _ _) | (with_reducible show wpAny _ _ (eval (Expr.ListComp _ _ _ _) _) _ _ _))); first | (k_unfold; (try dsimp only)) | walk1 | (dsimp only; walk1))
  walk1
  repeat' ((fail_if_success (first | (with_reducible show Exists _) | (with_reducible show wpAny _ _ (exec (Stmt.If _ _ _ _) _) _ _ _) | (with_reducible show wpAny _ _ (exec (Stmt.While _ _ _ _) _) _ _ _) | (with_reducible show wpAny _ _ (exec (Stmt.For _ _ _ _ _) _) _ _ _) | (with_reducible show wpAny _ _ (eval (Expr.ListComp _ _ _ _) _) _ _ _))); first | (k_unfold; (try dsimp only)) | walk1 | (dsimp only; walk1))
  · rename Fr _ _ _ _ => F2
    rename News _ _ _ _ => N2
    exact hQ _ _ sp _ _ _ n _ _ (pen_stay F2 Hg N2 hKc) (N2 _ (.head _)).1 (Int.fdiv_nonneg hG (by omega)) (by omega) (Int.fmod_nonneg_of_pos _ (by omega)) (Int.fmod_lt_of_pos _ (by omega))
  refine wpAny_mono (Q := fun f s' => (Ex5 fun h' tk c tc m' => All8 (f = .next) (s' = { s with heap := h', toks := tk }) (Fr g L h' m') (m' (Str.ofString "cell") = some (.int c tc)) (m' (Str.ofString "spot") = some (.int sp t)) (m' (Str.ofString "pen") = some (.ref pa)) (m' (Str.ofString "many") = some (.int many tm)) (∃ tt, News g L h' [(pa, W.listOf #[.ref pc, .int ((sp : Int) + 1) tt, .int gr u] n), (pc, W.listOf (List.toArray vs) k1)]))) ?_ (fun f s' hf => ?_) (fun _ _ h => h)
  · walk1
    repeat' ((fail_if_success (first | (with_reducible show Exists _) | (with_reducible show wpAny _ _ (exec (Stmt.While _ _ _ _) _) _ _ _) | (with_reducible show wpAny _ _ (exec (Stmt.For _ _ _ _ _) _) _ _ _) | (with_reducible show wpAny _ _ (eval (Expr.ListComp _ _ _ _) _) _ _ _))); first | (k_unfold; (try dsimp only)) | walk1 | (dsimp only; walk1))
    all_goals
      rename Fr _ _ _ _ => F3
      rename News _ _ _ _ => N3
    · exact ⟨_, _, _, _, _, rfl, rfl, F3, rfl, rfl, rfl, rfl, _, News.mono N3 fun p hp => .tail _ (.tail _ hp)⟩
    · exact ⟨_, _, _, _, _, rfl, rfl, F3, rfl, rfl, rfl, rfl, _, News.mono N3 fun p hp => .tail _ (.tail _ hp)⟩
  · obtain ⟨h2, tk2, c, tc, m2, rfl, rfl, F2, e1, e2, e3, e4, tt, N2⟩ := hf
    dsimp only
    repeat' ((fail_if_success (first | (with_reducible show Exists _) | (with_reducible show wpAny _ _ (exec (Stmt.If _ _ _ _) _) _ _ _) | (with_reducible show wpAny _ _ (exec (Stmt.While _ _ _ _) _) _ _ _) | (with_reducible show wpAny _ _ (exec (Stmt.For _ _ _ _ _) _) _ _ _) | (with_reducible show wpAny _ _ (eval (Expr.ListComp _ _ _ _) _) _ _ _))); first | (k_unfold; (try dsimp only)) | walk1 | (dsimp only; walk1))
    refine wpAny_mono (Q := fun f s' => (f = .next ∧ ∃ tk', s' = { s with heap := h2, toks := tk' }) ∨ ∃ v, f = .ret v ∧ qk (.ret v) s') ?_ (fun f s' hf => ?_) (fun _ _ h => h)
    · walk1
      repeat' ((fail_if_success (first | (with_reducible show Exists _) | (with_reducible show wpAny _ _ (exec (Stmt.While _ _ _ _) _) _ _ _) | (with_reducible show wpAny _ _ (exec (Stmt.For _ _ _ _ _) _) _ _ _) | (with_reducible show wpAny _ _ (eval (Expr.ListComp _ _ _ _) _) _ _ _))); first | (k_unfold; (try dsimp only)) | walk1 | (dsimp only; walk1))
      · refine .inr ⟨_, rfl, ?_⟩
        rename Fr _ _ _ _ => F4
        rename News _ _ _ _ => N4
        rename (10 : Int) ^ Int.toNat 18 ≤ _ => hge
        refine hQ _ _ (sp + 1) _ _ _ n _ _ (pen_stay F4 Hg N4 hKc) (N4 _ (.head _)).1 (Int.fdiv_nonneg ?_ (by omega)) (by omega) (Int.fmod_nonneg_of_pos _ (by omega)) (Int.fmod_lt_of_pos _ (by omega))
        generalize (10 : Int) ^ Int.toNat 18 = B at hge ⊢
        generalize (if c < 0 then -c else c) = C at hge ⊢
        split <;> omega
      · exact .inl ⟨rfl, _, rfl⟩
      · exact .inl ⟨rfl, _, rfl⟩
    · rcases hf with ⟨rfl, tk3, rfl⟩ | ⟨v, rfl, hf⟩
      · dsimp only
        repeat' ((fail_if_success (first | (with_reducible show Exists _) | (with_reducible show wpAny _ _ (exec (Stmt.While _ _ _ _) _) _ _ _) | (with_reducible show wpAny _ _ (exec (Stmt.For _ _ _ _ _) _) _ _ _) | (with_reducible show wpAny _ _ (eval (Expr.ListComp _ _ _ _) _) _ _ _))); first | (k_unfold; (try dsimp only)) | walk1 | (dsimp only; walk1))
        rename Fr _ _ _ _ => F4
        rename News _ _ _ _ => N4
        exact hQ _ _ (sp + 1) _ _ _ n _ _ (pen_stay F4 Hg N4 hKc) (N4 _ (.head _)).1 hG (by omega) (Int.fmod_nonneg_of_pos _ (by omega)) (Int.fmod_lt_of_pos _ (by omega))
      · exact hf
end

section
variable {prog : Program} {w : World} {A : Around} {E : Value → Shared → Prop} {s : Shared} {mg mb : Str → Option Value} {h₀ : Heap} {L : Addr} {m : Str → Option Value} {q : Qd} {dp un : Nat} {fr : Option (List Env)} {gd : Option (List Code)}
theorem pen_K {pa pc : Addr} {g h : Heap} {news : List (Addr × Obj)} {o1 o2 : Obj} (N : News g L h news) (a : (pa, o1) ∈ news) (b : (pc, o2) ∈ news) : ∀ p ∈ [(pa, o1), (pc, o2)], h.get? p.1 = some p.2 ∧ g.get? p.1 = none := by
  intro p hp
  rcases List.mem_cons.mp hp with rfl | hp
  · exact ⟨(N _ a).1, (N _ a).2.2⟩
  · rcases List.mem_singleton.mp hp with rfl
    exact ⟨(N _ b).1, (N _ b).2.2⟩
theorem pen_nw {pa : Addr} {g h h' : Heap} {news news' : List (Addr × Obj)} {o o' : Obj} (N : News g L h news) (U : Upd pa o o' news news') (st : ∀ b o, b ≠ pa → h.get? b = some o → h'.get? b = some o) (at' : h'.get? pa = some o') : News g L h' news' := by
  obtain ⟨pre, post, rfl, rfl, a, b⟩ := U.split
  intro p hp
  rcases List.mem_append.mp hp with hp | hp
  · exact ⟨st _ _ (a p hp) (N p (List.mem_append_left _ hp)).1, (N p (List.mem_append_left _ hp)).2⟩
  · rcases List.mem_cons.mp hp with rfl | hp
    · exact ⟨at', (N (pa, o) (List.mem_append_right _ (.head _))).2⟩
    · exact ⟨st _ _ (b p hp) (N p (List.mem_append_right _ (.tail _ hp))).1, (N p (List.mem_append_right _ (.tail _ hp))).2⟩
theorem pen_fr {pa : Addr} {g h h' : Heap} {news news' : List (Addr × Obj)} {o o' : Obj} (F : Fr g L h m) (N : News g L h news) (U : Upd pa o o' news news') (st : ∀ b o, b ≠ pa → h.get? b = some o → h'.get? b = some o) (_at' : h'.get? pa = some o') : Fr g L h' m := by
  obtain ⟨pre, post, rfl, rfl, a, b⟩ := U.split
  have z := N (pa, o) (List.mem_append_right _ (.head _))
  refine ⟨?_, fun b o e => st b o (fun q => by subst q; rw [z.2.2] at e; cases e) (F.keep b o e), F.above⟩
  obtain ⟨oL, x, y, hL, c⟩ := F.ns
  exact ⟨oL, x, y, st _ _ (fun q => z.2.1 q.symm) hL, c⟩
theorem getItem_any {a : Addr} {vs : List Value} {k : Int} {u : Tok} {Q : Value → Shared → Prop} (hl : s.heap.IsList a vs.toArray) (h0 : 0 ≤ k) (hk : k < vs.length) (hz : vs.length ≤ 1000) (h : ∀ x, vs[k.toNat]? = some x → Q x s) : wpAny (model prog w) A (getItem (.ref a) (.int k u)) Q E s := by
  have hx : vs[k.toNat]? = some (vs[k.toNat]'(by omega)) := List.getElem?_eq_getElem (by omega)
  exact getItem_listL hl h0 (by omega) hx (h _ hx)
theorem item_any {value slice : PySem.Expr} {l : Addr} {vs : List Value} {k : Int} {u : Tok} {Q : Value → Shared → Prop} (hl : s.heap.IsList l vs.toArray) (h0 : 0 ≤ k) (hk : k < vs.length) (hz : vs.length ≤ 1000) (h : ∀ x, vs[k.toNat]? = some x → Q x s)
    (hs : subscripted slice false (.ref l) (.int k u) = operate [.ref l, .int k u] (getItem (.ref l) (.int k u)) := by with_unfolding_all rfl) (hg : ∀ r, letTemporaryGo value (.ref l) r = pure () := by intro _; with_unfolding_all rfl) :
    wpAny (model prog w) A (subscriptTail value slice (.ref l) (.int k u)) Q E s := by
  have hx : vs[k.toNat]? = some (vs[k.toNat]'(by omega)) := List.getElem?_eq_getElem (by omega)
  exact item_list hl h0 (by omega) (by simpa using hx) (h _ hx) hs hg
theorem len_any {l : Addr} {vs : List Value} {Q : Value → Shared → Prop} (hl : s.heap.IsList l vs.toArray) (hz : vs.length ≤ 1000) (h : Q (.int (vs.length : Int) (s.toks + 1)) { s with toks := s.toks + 1 + 1 }) :
    wpAny (model prog w) A (call (.builtin "len") [.ref l]) Q E s := len_list hl (by rw [List.size_toArray]; omega) (by simpa using h)
end
section
variable {b : Bool} {prog : Program} {w : World} {A : Around} {E : Value → Shared → Prop} {s : Shared} {env : Env}
/-- a comprehension over a range -/
theorem compOb_range {x : Str} {elt : PySem.Expr} {scope : Scope} {cl : List (Str × Addr)} {Q : Value → Shared → Prop} {r : Addr} {n : Nat} {t u v : Tok} (hh : A.handled = none) (hr : IsRange s.heap r 0 n 1 t u v) (hn : n ≤ 1000)
    (as : List Addr) (has : ∀ a ∈ as, (s.heap.get? a).isSome = true)
    (h : ∀ (I D C : Addr) (h₃ : Heap), s.heap.get? I = none → s.heap.get? D = none → s.heap.get? C = none → (∀ a o, s.heap.get? a = some o → h₃.get? a = some o) →
      ∃ G : Nat → List Value → Heap → Prop, G 0 [] h₃ ∧ (∀ i ys h h', G i ys h → (∀ a o, a ≠ C → a ≠ D → a ≠ I → h.get? a = some o → h'.get? a = some o) → G i ys h') ∧
        (∀ (i : Nat) ys ti g h tk (m : Str → Option Value), i < n → ys.length = i → Hid s.heap g as → Fr g C h (fun y => if y = x then some (.int (i : Int) ti) else m y) → (∀ a o, s.heap.get? a = some o → a ∉ as → h.get? a = some o) → G i ys h →
          wpX b (model prog w) A (eval elt (compEnvC scope cl C env)) (fun y s' => ∃ h' tk', s' = { s with heap := h', toks := tk' } ∧ (∀ a o, h.get? a = some o → a ∉ as → h'.get? a = some o) ∧ G (i + 1) (ys ++ [y]) h') (fun _ _ => False) { s with heap := h, toks := tk }) ∧
        (∀ ys c h tk, ys.length = n → G n ys h → (∀ a o, s.heap.get? a = some o → a ∉ as → h.get? a = some o) → h.get? D = some (PySem.W.listOf (List.toArray ys) c) → Q (.ref D) { s with heap := h, toks := tk })) :
    wpAny (model prog w) A (pyIter (.ref r)) (CompOb b prog w A env scope cl x elt Q s) E s := by
  have fresh : ∀ a, s.heap.objs.size ≤ a → s.heap.get? a = none := fun a ha => by
    cases e : s.heap.get? a with
    | none => rfl
    | some o => exact absurd (Heap.lt_size e) (Nat.not_lt.mpr ha)
  refine wpAny_pyIter_range hr (small_one (by decide) (by decide) (by omega) (by omega)) ?_
  have e : Builtin.Range.rangeSize 0 (n : Int) 1 = (n : Int) := by rw [rangeSize_one]; split <;> omega
  rw [e]
  have ej : ∀ i : Nat, ({ cls := .type "range_iterator", dict := none, data := .fields #[rawInt (0 + (i : Nat) * 1), rawInt ((n : Int) - (i : Nat)), rawInt 1], slots := #[] } : Obj) = riter n i := fun i => by unfold riter; rw [Int.mul_one, Int.zero_add]
  have e0 : ({ cls := .type "range_iterator", data := .fields #[rawInt 0, rawInt (n : Int), rawInt 1] } : Obj) = riter n 0 := by unfold riter; simp
  rw [e0]
  have sz : (s.heap.push (riter n 0)).objs.size = s.heap.objs.size + 1 := Heap.size_push _ _
  refine ⟨s.heap.objs.size, _, _, _, _, _, as, rfl, LCg.range_walks hh 0 n, ?_, ?_, by rw [sizeLine_eq]; omega, ?_, ?_, fun a o e => Heap.get?_push_of_some _ e, by show _ ≤ (s.heap.push _).objs.size; rw [sz]; exact Nat.le_succ _, ?_⟩
  · intro a ha
    rw [List.mem_singleton.mp ha]
    show _ < (s.heap.push _).objs.size
    rw [sz]; exact Nat.lt_succ_self _
  · show (s.heap.push (riter n 0)).get? _ = some _
    rw [ej]; exact Heap.get?_push_size _ rfl
  · intro a ha
    rw [List.mem_singleton.mp ha]; exact fresh _ (Nat.le_refl _)
  · intro a ha
    refine ⟨has a ha, fun hm => ?_⟩
    have h1 := has a ha
    rw [List.mem_singleton.mp hm, fresh _ (Nat.le_refl _)] at h1; cases h1
  · intro D C h₃ hD hC hDC k
    have hD' : s.heap.objs.size ≤ D := Nat.le_trans (by show _ ≤ (s.heap.push _).objs.size; rw [sz]; exact Nat.le_succ _) hD
    have hC' : s.heap.objs.size ≤ C := Nat.le_trans (by show _ ≤ (s.heap.push _).objs.size; rw [sz]; exact Nat.le_succ _) hC
    obtain ⟨G, g0, gs, turn, done⟩ := h s.heap.objs.size D C h₃ (fresh _ (Nat.le_refl _)) (fresh _ hD') (fresh _ hC') fun a o e => k a o (Heap.get?_push_of_some _ e)
    refine ⟨G, g0, fun i ys h h' hg hk => gs i ys h h' hg fun a o h1 h2 h3 e => hk a o h1 h2 (fun hm => h3 (List.mem_singleton.mp hm)) e, fun i ys v g h tk m hi hy hP Hg F hk hG => ?_, fun ys c h tk hy hG hk hD => done ys c h tk hy hG hk hD⟩
    obtain ⟨ti, rfl⟩ := hP
    rw [Int.zero_add] at F
    exact turn i ys ti g h tk m hi hy Hg F hk hG
end
section
variable {prog : Program} {w : World} {A : Around} {E : Value → Shared → Prop} {s : Shared} {mg mb : Str → Option Value} {h₀ : Heap} {L : Addr} {m : Str → Option Value} {q : Qd} {dp un : Nat} {fr : Option (List Env)} {gd : Option (List Code)}
set_option maxHeartbeats 0 in
theorem c_octets {pa pc : Addr} {cells : List Int} {sp wd : Nat} {gr : Int} {tw t u : Tok} {n k1 : Nat} {vs : List Value} {Q : Value → Shared → Prop} {g₀ : Heap} (R : Rm (AN dp un fr gd) 4) (Y : Lay w mg mb g₀) (k : Kp g₀ s.heap)
    (K : ∀ p ∈ [(pa, penObj pc sp gr t u n), (pc, W.listOf (List.toArray vs) k1)], s.heap.get? p.1 = some p.2 ∧ g₀.get? p.1 = none) (hv : IntsAre vs cells) (hl : cells.length ≤ 60) (hs : sp ≤ 99000) (hG : 0 ≤ gr) (hpc : pc ≠ pa) (hw : wd ≤ 4)
    (hQ : ∀ (x : Array UInt8) tx sp' gr' t' u' n' h' tk, x.size = wd → (∀ b o, b ≠ pa → s.heap.get? b = some o → h'.get? b = some o) → h'.get? pa = some (penObj pc sp' gr' t' u' n') → 0 ≤ gr' → sp' ≤ sp + wd → Q (.bytes x tx) { s with heap := h', toks := tk }) :
    wpAny (model prog w) (AN dp un fr gd) (call (.ref 466) [.ref pa, .int wd tw]) Q E s := by
  have hKc := (K _ (.tail _ (.head _))).1
  refine wpAny_call ?_
  refine codeX.any ?_
  refine' enterXC (b := false) (binds := [(Str.ofString "pen", .ref pa), (Str.ofString "width", .int wd tw)]) [(pa, penObj pc sp gr t u n), (pc, W.listOf (List.toArray vs) k1)] ?k0 R Y k ?k1 ?k2 ?k3 ?k4 ?k5 ?_ ?k6 ?k7 ?k8
  case k0 => exact K
  case k1 => k_is
  case k2 => k_is
  case k3 => exact BindsTo.of_eq rfl
  case k4 => exact rfl
  case k5 => decide
  case k6 => exact rfl
  case k7 => exact rfl
  case k8 => exact rfl
  clear Y k
  intro L h₁ tk0 cells Y Hg F N Yc hlt R'
  change Lay w mg mb (hideAll s.heap [pa, pc]) at Y
  change Hid s.heap (hideAll s.heap [pa, pc]) [pa, pc] at Hg
  change Fr (hideAll s.heap [pa, pc]) L h₁ _ at F
  change News (hideAll s.heap [pa, pc]) L h₁ _ at N
  generalize hideAll s.heap [pa, pc] = g at Y Hg F N
  clear K
  k_cells Yc
  have X := Y.X
  have T := Y.T
  refine wpX.of ?_
  show wpAny _ _ _ _ _ _
  k_fold
  have hap : ∀ p ∈ [(pc, W.listOf (List.toArray vs) k1)], p.1 ≠ pa := fun p hp => by rcases List.mem_singleton.mp hp with rfl; exact hpc
  repeat' ((fail_if_success (first | (with_reducible show Exists _) | (with_reducible show wpAny _ _ (exec (Stmt.While _ _ _ _) _) _ _ _) | (with_reducible show wpAny _ _ (exec (Stmt.For _ _ _ _ _) _) _ _ _) | (with_reducible show wpAny _ _ (eval (Expr.ListComp _ _ _ _) _) _ _ _))); first | (k_unfold; (try dsimp only)) | walk1 | (dsimp only; walk1))
  refine wpX.any (my_ListComp (by intro _; rfl) (by with_unfolding_all rfl) rfl (by decide) (by decide) rfl ?_)
  repeat' ((fail_if_success (first | (with_reducible show Exists _) | (with_reducible show wpAny _ _ (exec (Stmt.While _ _ _ _) _) _ _ _) | (with_reducible show wpAny _ _ (exec (Stmt.For _ _ _ _ _) _) _ _ _) | (with_reducible show wpAny _ _ (eval (Expr.ListComp _ _ _ _) _) _ _ _))); first | (k_unfold; (try dsimp only)) | walk1 | (dsimp only; walk1))
  rename_i o1 d1 _ h2 tk2 t₁ u₁ v₁ hR F2 N2 k2
  have hc1 := N2 _ (.head _)
  have e1 := N2 _ (.tail _ (.head _))
  have e2 := N2 _ (.tail _ (.tail _ (.head _)))
  have l1 := hlt _ (.head _)
  have l2 := hlt _ (.tail _ (.head _))
  dsimp only at e1 e2 l1 l2
  refine compOb_range rfl hR (by omega) [pa, pc] (fun a ha => by
    rcases List.mem_cons.mp ha with rfl | ha
    · rw [e1.1]; rfl
    · rw [List.mem_singleton.mp ha, e2.1]; rfl) fun I D C h₃ hI0 hD0 hC0 k3 => ?_
  have nI : ∀ {a o}, h2.get? a = some o → ∀ b, h2.get? b = none → a ≠ b := fun e b e' q => by rw [← q, e] at e'; cases e'
  refine ⟨fun i ys h => (Ex6 fun sp' gr' t' u' n' zs => All6 (h.get? pa = some (penObj pc sp' gr' t' u' n')) (h.get? pc = some (W.listOf (List.toArray vs) k1)) (0 ≤ gr') (sp' ≤ sp + i) (IntsAre ys zs) (∀ z ∈ zs, 0 ≤ z ∧ z < 256)),
    ⟨sp, gr, t, u, n, [], k3 _ _ e1.1, k3 _ _ e2.1, hG, by omega, .nil, fun _ h => nomatch h⟩, ?_, ?_, ?_⟩
  · rintro i ys h h' ⟨sp', gr', t', u', n', zs, a1, a2, a3, a4, a5, a6⟩ hk
    exact ⟨sp', gr', t', u', n', zs, hk _ _ (nI e1.1 _ hC0) (nI e1.1 _ hD0) (nI e1.1 _ hI0) a1, hk _ _ (nI e2.1 _ hC0) (nI e2.1 _ hD0) (nI e2.1 _ hI0) a2, a3, a4, a5, a6⟩
  · rintro i ys ti g1 h tk m hi hy Hg1 Fc kk ⟨sp', gr', t', u', n', zs, a1, a2, a3, a4, a5, a6⟩
    have sub : ∀ b o, g.get? b = some o → g1.get? b = some o := fun b o e => Hg1.get b o (F2.keep b o e) (fun hb => by
      rcases List.mem_cons.mp hb with rfl | hb
      · rw [e1.2.2] at e; cases e
      · rw [List.mem_singleton.mp hb, e2.2.2] at e; cases e)
    have Yg := Y.keeps sub
    have Xg := Yg.X
    have Tg := Yg.T
    have hcell : CellAt g1 _ (.ref pa) := ⟨_, Hg1.get _ _ hc1.1 (fun hb => by
      dsimp only at hb
      rcases List.mem_cons.mp hb with hb | hb
      · exact absurd hb (Nat.ne_of_gt (Nat.lt_of_lt_of_le l1 (Nat.le_add_right _ _)))
      · exact absurd (List.mem_singleton.mp hb) (Nat.ne_of_gt (Nat.lt_of_lt_of_le l2 (Nat.le_add_right _ _)))), d1⟩
    have Ng : News g1 C h [(pa, penObj pc sp' gr' t' u' n'), (pc, W.listOf (List.toArray vs) k1)] := by
      intro p hp
      rcases List.mem_cons.mp hp with rfl | hp
      · exact ⟨a1, nI e1.1 _ hC0, Hg1.none _ (.head _)⟩
      · rcases List.mem_singleton.mp hp with rfl
        exact ⟨a2, nI e2.1 _ hC0, Hg1.none _ (.tail _ (.head _))⟩
    clear N2 hc1 F2 X T Y k2 kk
    refine wpX.of ?_
    repeat' ((fail_if_success (first | (with_reducible show Exists _) | (with_reducible show wpAny _ _ (exec (Stmt.While _ _ _ _) _) _ _ _) | (with_reducible show wpAny _ _ (exec (Stmt.For _ _ _ _ _) _) _ _ _) | (with_reducible show wpAny _ _ (eval (Expr.ListComp _ _ _ _) _) _ _ _))); first | (k_unfold; (try dsimp only)) | walk1 | (dsimp only; walk1))
    refine c_draw (Rm.mono R' (by decide)) Yg Fc.keep (pen_K Ng (.head _) (.tail _ (.head _))) hv hl (by omega) a3 hpc (by decide) (by decide) fun v tv sp2 gr2 t2 u2 n2 h5 tk5 st at5 b1 b2 b3 b4 => ?_
    dsimp only
    refine ⟨h5, tk5, rfl, fun a o e hn => st a o (fun q => hn (q ▸ .head _)) e, sp2, gr2, t2, u2, n2, zs ++ [v], at5, st _ _ hpc a2, b1, by omega, a5.append (.cons _ _ .nil), fun z hz => ?_⟩
    rcases List.mem_append.mp hz with hz | hz
    · exact a6 z hz
    · rw [List.mem_singleton.mp hz]; exact ⟨b3, b4⟩
  · rintro ys c h tk hy ⟨sp', gr', t', u', n', zs, a1, a2, a3, a4, a5, a6⟩ kk hD
    repeat' ((fail_if_success (first | (with_reducible show Exists _) | (with_reducible show wpAny _ _ (exec (Stmt.While _ _ _ _) _) _ _ _) | (with_reducible show wpAny _ _ (exec (Stmt.For _ _ _ _ _) _) _ _ _) | (with_reducible show wpAny _ _ (eval (Expr.ListComp _ _ _ _) _) _ _ _))); first | (k_unfold; (try dsimp only)) | walk1 | (dsimp only; walk1))
    refine call_bytes_ints (vs := ys) ⟨_, hD, rfl, _, rfl⟩ a5 a6 (by rw [hy, sizeLine_eq]; omega) rfl fun h6 t6 k6 hk6 => ?_
    refine hQ _ _ sp' gr' t' u' n' h6 k6 ?_ (fun b o hb e => ?_) (hk6 _ _ a1) a3 a4
    · rw [a5.length] at hy
      simpa [byteArr] using hy
    · by_cases hc : b = pc
      · subst hc; rw [hKc] at e; cases e; exact hk6 _ _ a2
      · have hn : b ∉ [pa, pc] := by simp [hb, hc]
        exact hk6 _ _ (kk b o (F2.keep b o (Hg.get b o e hn)) hn)
end

theorem kw_f_21 : True := by
  k_with "my room" => (first | omega | (simp only [List.length_cons, List.length_nil]; omega))
  k_with "call builtin:len" => ((with_reducible show wpAny _ _ (call (Value.builtin "len") [Value.ref _]) _ _ _); refine' len_any (by kmk_list) (by walk_at "my room") ?_)
  k_with "call ref" => ((with_reducible show wpAny _ _ (call (Value.ref 454) _) _ _ _); k_dflt (refine' c_draw (by walk_at "my rm") (by assumption) (by exact Fr.keep (by k_asm)) (by exact pen_K (by k_asm) (by walk_at "my mem") (by walk_at "my mem")) (by assumption) (by assumption) (by omega) (by first | assumption | decide) (by walk_at "my ne") (by first | omega | decide) (by first | omega | decide) ?_; intro _ _ _ _ _ _ _ _ _ st' at' _ _ _ _; (have _ := pen_fr (by k_asm) (by k_asm) (by walk_at "my upd") st' at'); (have _ := pen_nw (by k_asm) (by walk_at "my upd") st' at'); (try k_sweep); clear st' at'))
  exact trivial
section
variable {prog : Program} {w : World} {A : Around} {E : Value → Shared → Prop} {s : Shared} {mg mb : Str → Option Value} {h₀ : Heap} {L : Addr} {m : Str → Option Value} {q : Qd} {dp un : Nat} {fr : Option (List Env)} {gd : Option (List Code)}
set_option maxHeartbeats 0 in
theorem c_pick {pa pc r : Addr} {cells : List Int} {sp : Nat} {gr : Int} {t u : Tok} {n k1 k2 : Nat} {vs ws : List Value} {Q : Value → Shared → Prop} {g₀ : Heap} (R : Rm (AN dp un fr gd) 3) (Y : Lay w mg mb g₀) (k : Kp g₀ s.heap)
    (K : ∀ p ∈ [(pa, penObj pc sp gr t u n), (pc, W.listOf (List.toArray vs) k1), (r, W.listOf (List.toArray ws) k2)], s.heap.get? p.1 = some p.2 ∧ g₀.get? p.1 = none) (hv : IntsAre vs cells) (hl : cells.length ≤ 60) (hs : sp ≤ 99999) (hG : 0 ≤ gr) (hpc : pc ≠ pa) (hrp : r ≠ pa) (h1 : 1 ≤ ws.length) (h2 : ws.length ≤ 255)
    (hQ : ∀ (i : Nat) x sp' gr' t' u' n' h' tk, ws[i]? = some x → (∀ b o, b ≠ pa → s.heap.get? b = some o → h'.get? b = some o) → h'.get? pa = some (penObj pc sp' gr' t' u' n') → 0 ≤ gr' → sp' ≤ sp + 1 → Q x { s with heap := h', toks := tk }) :
    wpAny (model prog w) (AN dp un fr gd) (call (.ref 461) [.ref pa, .ref r]) Q E s := by
  have hKc := (K _ (.tail _ (.head _))).1
  have hKr := (K _ (.tail _ (.tail _ (.head _)))).1
  refine wpAny_call ?_
  refine codeX.any ?_
  refine' enterX (b := false) (binds := [(Str.ofString "pen", .ref pa), (Str.ofString "some", .ref r)]) [(pa, penObj pc sp gr t u n), (pc, W.listOf (List.toArray vs) k1), (r, W.listOf (List.toArray ws) k2)] ?k0 R Y k ?k1 ?k2 ?k3 ?k4 ?_ ?k5 ?k6 ?k7 ?k8
  case k0 => exact K
  case k1 => k_is
  case k2 => k_is
  case k3 => exact BindsTo.of_eq rfl
  case k4 => exact locs rfl
  case k5 => decide
  case k6 => exact rfl
  case k7 => exact rfl
  case k8 => exact rfl
  clear Y k
  intro L h₁ Y Hg F N R'
  change Lay w mg mb (hideAll s.heap [pa, pc, r]) at Y
  change Hid s.heap (hideAll s.heap [pa, pc, r]) [pa, pc, r] at Hg
  change Fr (hideAll s.heap [pa, pc, r]) L h₁ _ at F
  change News (hideAll s.heap [pa, pc, r]) L h₁ _ at N
  generalize hideAll s.heap [pa, pc, r] = g at Y Hg F N
  clear K
  have X := Y.X
  have T := Y.T
  refine wpX.of ?_
  show wpAny _ _ _ _ _ _
  k_fold
  have hap : ∀ p ∈ [(pc, W.listOf (List.toArray vs) k1), (r, W.listOf (List.toArray ws) k2)], p.1 ≠ pa := fun p hp => by
    rcases List.mem_cons.mp hp with rfl | hp
    · exact hpc
    · rcases List.mem_singleton.mp hp with rfl; exact hrp
  repeat' ((fail_if_success (first | (with_reducible show Exists _) | (with_reducible show wpAny _ _ (exec (Stmt.While _ _ _ _) _) _ _ _) | (with_reducible show wpAny _ _ (exec (Stmt.For _ _ _ _ _) _) _ _ _) | (with_reducible show wpAny _ _ (eval (Expr.ListComp _ _ _ _) _) _ _ _))); first | (k_unfold; (try dsimp only)) | walk1 | (dsimp only; walk1))
  refine item_any (by kmk_list) (by assumption) (by assumption) (by omega) fun x hx => ?_
  repeat' ((fail_if_success (first | (with_reducible show Exists _) | (with_reducible show wpAny _ _ (exec (Stmt.While _ _ _ _) _) _ _ _) | (with_reducible show wpAny _ _ (exec (Stmt.For _ _ _ _ _) _) _ _ _) | (with_reducible show wpAny _ _ (eval (Expr.ListComp _ _ _ _) _) _ _ _))); first | (k_unfold; (try dsimp only)) | walk1 | (dsimp only; walk1))
  rename News _ _ _ _ => N4
  rename Fr _ _ _ _ => F4
  refine hQ _ x _ _ _ _ _ _ _ hx (fun b o hb e => ?_) (N4 _ (.head _)).1 (by assumption) (by assumption)
  by_cases hc : b = pc
  · subst hc; rw [hKc] at e; cases e; exact (N4 _ (.tail _ (.head _))).1
  by_cases hc : b = r
  · subst hc; rw [hKr] at e; cases e; exact (N4 _ (.tail _ (.tail _ (.head _)))).1
  exact F4.keep b o (Hg.get b o e (by simp [hb, *]))
end

section
variable {prog : Program} {w : World} {A : Around} {E : Value → Shared → Prop} {s : Shared} {mg mb : Str → Option Value} {h₀ : Heap} {L : Addr} {m : Str → Option Value} {q : Qd} {dp un : Nat} {fr : Option (List Env)} {gd : Option (List Code)}
set_option maxHeartbeats 0 in
theorem c_pen {l : Addr} {xs : List Int} {vs : List Value} {Q : Value → Shared → Prop} (R : Rm (AN dp un fr gd) 3) (Y : Lay w mg mb s.heap) (hl : s.heap.IsList l vs.toArray) (hv : IntsAre vs xs) (hx : xs.length ≤ 63)
    (hQ : ∀ pa pc t u n vs' k h' tk, Kp s.heap h' → s.heap.get? pa = none → s.heap.get? pc = none → pc ≠ pa → h'.get? pa = some (penObj pc 0 0 t u n) → h'.get? pc = some (W.listOf (List.toArray vs') k) → IntsAre vs' (xs.take 60) → Q (.ref pa) { s with heap := h', toks := tk }) :
    wpAny (model prog w) (AN dp un fr gd) (call (.ref 447) [.ref l]) Q E s := by
  refine wpAny_call ?_
  refine' enterA (binds := [(Str.ofString "script", .ref l)]) R Y ?k1 ?k2 ?k3 ?k4 ?_ ?k5 ?k6 ?k7 ?k8
  case k1 => k_is
  case k2 => k_is
  case k3 => exact BindsTo.of_eq rfl
  case k4 => exact locs rfl
  case k5 => decide
  case k6 => exact rfl
  case k7 => exact rfl
  case k8 => exact rfl
  intro L h₁ F N R'
  have X := Y.X
  have T := Y.T
  show wpAny _ _ _ _ _ _
  k_fold
  have hL : h₁.IsList l vs.toArray := hl.at fun o => F.keep l o
  repeat' ((fail_if_success (first | (with_reducible show Exists _) | (with_reducible show wpAny _ _ (exec (Stmt.While _ _ _ _) _) _ _ _) | (with_reducible show wpAny _ _ (exec (Stmt.For _ _ _ _ _) _) _ _ _) | (with_reducible show wpAny _ _ (eval (Expr.ListComp _ _ _ _) _) _ _ _))); first | (k_unfold; (try dsimp only)) | walk1 | (dsimp only; walk1))
  repeat' (first | (k_unfold; (try dsimp only)) | walk1 | (dsimp only; walk1))
  rename_i D1 ws1 h1 hI1 _ _ _ _ _ g1 hI2 hL2 D2 h2 tk2 o1 l' h' F' N' l1
  have hI3 : IntsAre ys (xs.take 60) := by have e : List.map (fun k' : Int => k') (List.take 60 xs) = List.take 60 xs := List.map_id' _; rw [e] at hI2; exact hI2
  exact hQ l' D2 _ _ _ ys _ _ _ F'.keep (News.fresh N' (.head _)) (News.fresh N' (.tail _ (.head _))) (Nat.ne_of_lt l1.1) (News.get N' (.head _)) (News.get N' (.tail _ (.head _))) hI3
end

section
variable {prog : Program} {w : World} {A : Around} {E : Value → Shared → Prop} {s : Shared} {h₀ : Heap} {L l a b : Addr} {m : Str → Option Value} {news : List (Addr × Obj)} {value slice : PySem.Expr} {vs us : List Value} {bs cs : List (Array UInt8)} {t : Tok} {vk : Value} {ops : List Value} {Q : Value → Shared → Prop}
theorem pick_tail {α : Type} (bs : List α) : (bs.drop (min 1 bs.length)).take (bs.length - min 1 bs.length) = bs.tail := by
  cases bs with
  | nil => rfl
  | cons x r =>
    have e : min 1 (x :: r).length = 1 := by rw [List.length_cons]; omega
    rw [e]; simp
theorem pick_init {α : Type} (bs : List α) : (bs.drop 0).take (bs.length - 1 - 0) = bs.dropLast := by
  rw [List.drop_zero, List.dropLast_eq_take]; rfl
theorem sb_tail (F : Fr h₀ L s.heap m) (N : News h₀ L s.heap news) (hl : s.heap.IsList l vs.toArray) (hB : BytesAre vs bs) (hz : bs.length ≤ 1000)
    (h : ∀ D ws h', Fr h₀ L h' m → News h₀ L h' ((D, W.listOf (List.toArray ws) 0) :: news) → (∀ p ∈ news, p.1 < D) → BytesAre ws bs.tail → Q (.ref D) { s with heap := h' })
    (hs : subscripted slice false (.ref l) (.ref s.heap.objs.size) = operate [.ref s.heap.objs.size, .ref l] (getItem (.ref l) (.ref s.heap.objs.size))) (ht : ∀ r, letTemporaryGo value (.ref l) r = pure ()) :
    wpAny (model prog w) A (subscriptTail value slice (.ref l) (.ref s.heap.objs.size)) Q E { s with heap := s.heap.push { cls := .type "slice", data := .fields #[.int 1 t, .none, .none] } } := by
  refine kms_slice_lit F N hl (.int 1 t) .none rfl (fun D h' F' N' l1 => h D _ h' F' N' l1 ?_) hs ht (by rw [List.size_toArray, hB.length, sizeLine_eq]; omega)
  have := (hB.drop (min 1 bs.length)).take (bs.length - min 1 bs.length)
  rw [pick_tail] at this
  have e : kms_pick vs.toArray.toList (some 1) none = (vs.drop (min 1 bs.length)).take (bs.length - min 1 bs.length) := by
    simp [kms_pick, kms_lo, kms_hi, hB.length]
  rw [e]; exact this
theorem sb_init (F : Fr h₀ L s.heap m) (N : News h₀ L s.heap news) (hl : s.heap.IsList l vs.toArray) (hB : BytesAre vs bs) (hz : bs.length ≤ 1000)
    (h : ∀ D ws h', Fr h₀ L h' m → News h₀ L h' ((D, W.listOf (List.toArray ws) 0) :: news) → (∀ p ∈ news, p.1 < D) → BytesAre ws bs.dropLast → Q (.ref D) { s with heap := h' })
    (hs : subscripted slice false (.ref l) (.ref s.heap.objs.size) = operate [.ref s.heap.objs.size, .ref l] (getItem (.ref l) (.ref s.heap.objs.size))) (ht : ∀ r, letTemporaryGo value (.ref l) r = pure ()) :
    wpAny (model prog w) A (subscriptTail value slice (.ref l) (.ref s.heap.objs.size)) Q E { s with heap := s.heap.push { cls := .type "slice", data := .fields #[.none, .int (-1) t, .none] } } := by
  refine kms_slice_lit F N hl .none (.int (-1) t) rfl (fun D h' F' N' l1 => h D _ h' F' N' l1 ?_) hs ht (by rw [List.size_toArray, hB.length, sizeLine_eq]; omega)
  have := (hB.drop 0).take (bs.length - 1 - 0)
  rw [pick_init] at this
  have e : kms_pick vs.toArray.toList none (some (-1)) = (vs.drop 0).take (bs.length - 1 - 0) := by
    simp [kms_pick, kms_lo, kms_hi, hB.length]
  rw [e]; exact this
theorem sb_first (F : Fr h₀ L s.heap m) (N : News h₀ L s.heap news) (hl : s.heap.IsList l vs.toArray) (hB : BytesAre vs bs) (hz : bs.length ≤ 1000)
    (h : ∀ D ws h', Fr h₀ L h' m → News h₀ L h' ((D, W.listOf (List.toArray ws) 0) :: news) → (∀ p ∈ news, p.1 < D) → BytesAre ws (bs.take 1) → Q (.ref D) { s with heap := h' })
    (hs : subscripted slice false (.ref l) (.ref s.heap.objs.size) = operate [.ref s.heap.objs.size, .ref l] (getItem (.ref l) (.ref s.heap.objs.size))) (ht : ∀ r, letTemporaryGo value (.ref l) r = pure ()) :
    wpAny (model prog w) A (subscriptTail value slice (.ref l) (.ref s.heap.objs.size)) Q E { s with heap := s.heap.push { cls := .type "slice", data := .fields #[.none, .int 1 t, .none] } } := by
  refine kms_slice_lit F N hl .none (.int 1 t) rfl (fun D h' F' N' l1 => h D _ h' F' N' l1 ?_) hs ht (by rw [List.size_toArray, hB.length, sizeLine_eq]; omega)
  have := (hB.take (min 1 bs.length))
  have e0 : bs.take (min 1 bs.length) = bs.take 1 := by cases bs <;> simp
  rw [e0] at this
  have e : kms_pick vs.toArray.toList none (some 1) = vs.take (min 1 bs.length) := by
    simp [kms_pick, kms_lo, kms_hi, hB.length]
  rw [e]; exact this
theorem sb_rev (F : Fr h₀ L s.heap m) (N : News h₀ L s.heap news) (hl : s.heap.IsList l vs.toArray) (pk : IsPart vk (some (-1))) (hB : BytesAre vs bs) (hz : bs.length ≤ 1000)
    (h : ∀ D ws h', Fr h₀ L h' m → News h₀ L h' ((D, W.listOf (List.toArray ws) 0) :: news) → (∀ p ∈ news, p.1 < D) → BytesAre ws bs.reverse → Q (.ref D) { s with heap := h' })
    (hs : subscripted slice false (.ref l) (.ref s.heap.objs.size) = operate ops (getItem (.ref l) (.ref s.heap.objs.size))) (ht : ∀ r, letTemporaryGo value (.ref l) r = pure ()) :
    wpAny (model prog w) A (subscriptTail value slice (.ref l) (.ref s.heap.objs.size)) Q E { s with heap := s.heap.push { cls := .type "slice", data := .fields #[.none, .none, vk] } } :=
  krv_lit (its := vs.toArray) (zs := vs.reverse) F N hl pk rfl (fun D h' F' N' l1 => h D vs.reverse h' F' N' l1 hB.reverse) hs ht (by rw [List.size_toArray, hB.length, sizeLine_eq]; omega)
theorem len_bs {Q : Value → Shared → Prop} (hl : s.heap.IsList l vs.toArray) (hB : BytesAre vs bs) (hz : bs.length ≤ 1000) (h : Q (.int (bs.length : Int) (s.toks + 1)) { s with toks := s.toks + 1 + 1 }) :
    wpAny (model prog w) A (call (.builtin "len") [.ref l]) Q E s := len_any hl (by rw [hB.length]; exact hz) (by rw [hB.length]; exact h)
theorem sb_add (F : Fr h₀ L s.heap m) (N : News h₀ L s.heap news) (ha : s.heap.IsList a vs.toArray) (hb : s.heap.IsList b us.toArray) (hB : BytesAre vs bs) (hC : BytesAre us cs) (hz : bs.length + cs.length ≤ 1000)
    (h : ∀ D ws h', Fr h₀ L h' m → News h₀ L h' ((D, W.listOf (List.toArray ws) 0) :: news) → (∀ p ∈ news, p.1 < D) → BytesAre ws (bs ++ cs) → Q (.ref D) { s with heap := h' }) :
    wpAny (model prog w) A (binaryOp .Add (.ref a) (.ref b)) Q E s :=
  kmk_add_lit F N ha hb rfl (fun D h' F' N' l1 => h D (vs ++ us) h' F' N' l1 (hB.append hC)) (by rw [List.toList_toArray, List.toList_toArray, hB.length, hC.length, sizeLine_eq]; omega)
end
theorem kw_f_22 : True := by
  k_with "my bytes" => (first | assumption | exact BytesAre.cons _ _ BytesAre.nil | exact BytesAre.nil)
  k_with "my slice" => (first | (refine' sb_tail (by k_asm) (by k_asm) (by walk_at "my list") (by assumption) (by walk_at "my room") ?_ (by with_unfolding_all rfl) (by kmk_pure)) | (refine' sb_init (by k_asm) (by k_asm) (by walk_at "my list") (by assumption) (by walk_at "my room") ?_ (by with_unfolding_all rfl) (by kmk_pure)) | (refine' sb_first (by k_asm) (by k_asm) (by walk_at "my list") (by assumption) (by walk_at "my room") ?_ (by with_unfolding_all rfl) (by kmk_pure)) | (refine' sb_rev (by k_asm) (by k_asm) (by walk_at "my list") (by exact IsPart.int _ _) (by assumption) (by walk_at "my room") ?_ (by with_unfolding_all rfl) (by kmk_pure)))
  exact trivial
local macro_rules | `(tactic| walk_at "my lt") => `(tactic| (intro D' ws' h' F' N' l1 hB'; (try k_lt l1); (try k_sweep)))
theorem kw_f_23 : True := by
  k_with "subscriptTail Name Slice ref ref" => ((with_reducible show wpAny _ _ (subscriptTail _ (PySem.Expr.Slice _ _ _ _) (Value.ref _) (Value.ref _)) _ _ _); k_dflt (walk_at "my slice"); walk_at "my lt")
  k_with "binaryOp Add ref ref" => ((with_reducible show wpAny _ _ (binaryOp _ (Value.ref _) (Value.ref _)) _ _ _); k_dflt (refine' sb_add (by k_asm) (by k_asm) (by walk_at "my list") (by walk_at "my list") (by walk_at "my bytes") (by walk_at "my bytes") (by walk_at "my room") ?_); walk_at "my lt")
  k_with "call builtin:len" => ((with_reducible show wpAny _ _ (call (Value.builtin "len") [Value.ref _]) _ _ _); refine' len_bs (by walk_at "my list") (by assumption) (by walk_at "my room") ?_)
  exact trivial
section
variable {prog : Program} {w : World} {A : Around} {E : Value → Shared → Prop} {s : Shared} {mg mb : Str → Option Value} {h₀ : Heap} {L : Addr} {m : Str → Option Value} {q : Qd} {dp un : Nat} {fr : Option (List Env)} {gd : Option (List Code)}
set_option maxHeartbeats 0 in
theorem c_due_push {l : Addr} {rows : List (Array UInt8)} {most fl : Int} {b : Array UInt8} {vs : List Value} {c : Nat} {tm tb tf : Tok} {Q : Value → Shared → Prop} (R : Rm (AN dp un fr gd) 2) (Y : Lay w mg mb s.heap) (hl : s.heap.get? l = some (W.listOf (List.toArray vs) c)) (hB : BytesAre vs rows) (hr : rows.length ≤ 900)
    (hQ : ∀ r l' vs' c' t h' tk, Kp s.heap h' → s.heap.get? r = none → h'.get? r = some { cls := .type "tuple", data := .seq #[.int (duePush most rows b fl).1 t, .ref l'] } → (l' = l ∨ s.heap.get? l' = none) → h'.get? l' = some (W.listOf (List.toArray vs') c') → BytesAre vs' (duePush most rows b fl).2 → Q (.ref r) { s with heap := h', toks := tk }) :
    wpAny (model prog w) (AN dp un fr gd) (call (.ref 473) [.ref l, .int most tm, .bytes b tb, .int fl tf]) Q E s := by
  refine wpAny_call ?_
  refine' enterA (binds := [(Str.ofString "rows", .ref l), (Str.ofString "most", .int most tm), (Str.ofString "octets", .bytes b tb), (Str.ofString "flags", .int fl tf)]) R Y ?k1 ?k2 ?k3 ?k4 ?_ ?k5 ?k6 ?k7 ?k8
  case k1 => k_is
  case k2 => k_is
  case k3 => exact BindsTo.of_eq rfl
  case k4 => exact locs rfl
  case k5 => decide
  case k6 => exact rfl
  case k7 => exact rfl
  case k8 => exact rfl
  intro L h₁ F N R'
  have X := Y.X
  have T := Y.T
  show wpAny _ _ _ _ _ _
  k_fold
  have hL := (⟨_, F.keep _ _ hl, rfl, _, rfl⟩ : h₁.IsList l vs.toArray)
  have hrt : rows.tail.length ≤ 900 := by rw [List.length_tail]; omega
  repeat' ((fail_if_success (first | (with_reducible show Exists _) | (with_reducible show wpAny _ _ (exec (Stmt.While _ _ _ _) _) _ _ _) | (with_reducible show wpAny _ _ (exec (Stmt.For _ _ _ _ _) _) _ _ _) | (with_reducible show wpAny _ _ (eval (Expr.ListComp _ _ _ _) _) _ _ _))); first | (k_unfold; (try dsimp only)) | walk1 | (dsimp only; walk1))
  all_goals
    rename Fr _ _ _ _ => F9
    rename News _ _ _ _ => N9
  all_goals first
    | (rename ([0, 2].any _) = true => hf; have hf' : ¬ (fl ≠ 0 ∧ fl ≠ 2) := by
        simp at hf; omega)
    | (rename ([0, 2].any _) = false => hf; have hf' : fl ≠ 0 ∧ fl ≠ 2 := by
        simp at hf; omega)
  · have e : duePush most rows b fl = (-7, rows) := by unfold duePush; rw [if_neg hf', if_pos ⟨by assumption, by assumption⟩]
    rw [e] at hQ
    exact hQ _ l _ _ _ _ _ F9.keep (News.fresh N9 (.head _)) (N9 _ (.head _)).1 (.inl rfl) (F9.keep _ _ hl) hB
  · have e : duePush most rows b fl = (0, rows.tail ++ [b]) := by unfold duePush; rw [if_neg hf', if_neg (fun q => absurd q.2 (by assumption)), if_pos (by assumption)]
    rw [e] at hQ
    exact hQ _ _ _ _ _ _ _ F9.keep (News.fresh N9 (.head _)) (N9 _ (.head _)).1 (.inr (News.fresh N9 (.tail _ (.head _)))) (N9 _ (.tail _ (.head _))).1 (by assumption)
  · exfalso; contradiction
  · exfalso; contradiction
  · have e : duePush most rows b fl = (0, rows ++ [b]) := by unfold duePush; rw [if_neg hf', if_neg (fun q => absurd q.1 (by assumption)), if_neg (by assumption)]
    rw [e] at hQ
    exact hQ _ _ _ _ _ _ _ F9.keep (News.fresh N9 (.head _)) (N9 _ (.head _)).1 (.inr (News.fresh N9 (.tail _ (.head _)))) (N9 _ (.tail _ (.head _))).1 (by assumption)
  · have e : duePush most rows b fl = (-22, rows) := by unfold duePush; rw [if_pos hf']
    rw [e] at hQ
    exact hQ _ l _ _ _ _ _ F9.keep (News.fresh N9 (.head _)) (N9 _ (.head _)).1 (.inl rfl) (F9.keep _ _ hl) hB
end

section
variable {prog : Program} {w : World} {A : Around} {E : Value → Shared → Prop} {s : Shared} {value slice : PySem.Expr} {l : Addr} {vs : List Value} {bs : List (Array UInt8)} {u : Tok} {Q : Value → Shared → Prop}
theorem item_head (hl : s.heap.IsList l vs.toArray) (hB : BytesAre vs bs) (hne : bs ≠ []) (h : ∀ b t, bs.head? = some b → Q (.bytes b t) s)
    (hs : subscripted slice false (.ref l) (.int 0 u) = operate [.ref l, .int 0 u] (getItem (.ref l) (.int 0 u))) (hg : ∀ r, letTemporaryGo value (.ref l) r = pure ()) :
    wpAny (model prog w) A (subscriptTail value slice (.ref l) (.int 0 u)) Q E s := by
  cases bs with
  | nil => exact absurd rfl hne
  | cons b r =>
    obtain ⟨t, ht⟩ := hB.at 0 b rfl
    exact item_list hl (by decide) (by decide) (by simpa using ht) (h b t rfl) hs hg
theorem item_last (hl : s.heap.IsList l vs.toArray) (hB : BytesAre vs bs) (hne : bs ≠ []) (h : ∀ b t, bs.getLast? = some b → Q (.bytes b t) s)
    (hs : subscripted slice false (.ref l) (.int (-1) u) = operate [.ref l, .int (-1) u] (getItem (.ref l) (.int (-1) u))) (hg : ∀ r, letTemporaryGo value (.ref l) r = pure ()) :
    wpAny (model prog w) A (subscriptTail value slice (.ref l) (.int (-1) u)) Q E s := by
  have hn : 0 < bs.length := List.length_pos_iff.mpr hne
  have hb : bs[bs.length - 1]? = some (bs[bs.length - 1]'(by omega)) := List.getElem?_eq_getElem (by omega)
  obtain ⟨t, ht⟩ := hB.at _ _ hb
  refine subscriptTail_builtin hl.typeIs slot_list_getitem.lookup (wpAny_getItem_list_neg hl (by decide) (by rw [List.size_toArray, hB.length]; omega) (by decide) ?_ (h _ t (by rw [List.getLast?_eq_getElem?]; exact hb))) hs hg
  have e : (((-1 : Int) + (vs.toArray.size : Int)).toNat) = bs.length - 1 := by rw [List.size_toArray, hB.length]; omega
  rw [e]
  simpa using ht
end
theorem kw_f_24 : True := by
  k_with "subscriptTail Name Constant ref int" => ((with_reducible show wpAny _ _ (subscriptTail _ _ (Value.ref _) (Value.int 0 _)) _ _ _); k_dflt (refine' item_head (by walk_at "my list") (by assumption) (by assumption) ?_ (by with_unfolding_all rfl) (by kmk_pure)); intro _ _ _)
  k_with "subscriptTail Name UnaryOp ref int" => ((with_reducible show wpAny _ _ (subscriptTail _ _ (Value.ref _) (Value.int (-1) _)) _ _ _); k_dflt (refine' item_last (by walk_at "my list") (by assumption) (by assumption) ?_ (by with_unfolding_all rfl) (by kmk_pure)); intro _ _ _)
  exact trivial
section
variable {prog : Program} {w : World} {A : Around} {E : Value → Shared → Prop} {s : Shared} {mg mb : Str → Option Value} {h₀ : Heap} {L : Addr} {m : Str → Option Value} {q : Qd} {dp un : Nat} {fr : Option (List Env)} {gd : Option (List Code)}
set_option maxHeartbeats 0 in
theorem c_due_pop {l : Addr} {rows : List (Array UInt8)} {kind : Str} {vs : List Value} {c : Nat} {tk₀ : Tok} {Q : Value → Shared → Prop} (R : Rm (AN dp un fr gd) 2) (Y : Lay w mg mb s.heap) (hl : s.heap.get? l = some (W.listOf (List.toArray vs) c)) (hB : BytesAre vs rows) (hr : rows.length ≤ 900)
    (hQ : ∀ r x l' vs' c' h' tk, Kp s.heap h' → s.heap.get? r = none → h'.get? r = some { cls := .type "tuple", data := .seq #[x, .ref l'] } → IsOpt x (duePop kind rows).1 → (l' = l ∨ s.heap.get? l' = none) → h'.get? l' = some (W.listOf (List.toArray vs') c') → BytesAre vs' (duePop kind rows).2 → Q (.ref r) { s with heap := h', toks := tk }) :
    wpAny (model prog w) (AN dp un fr gd) (call (.ref 480) [.str kind tk₀, .ref l]) Q E s := by
  refine wpAny_call ?_
  refine' enterA (binds := [(Str.ofString "kind", .str kind tk₀), (Str.ofString "rows", .ref l)]) R Y ?k1 ?k2 ?k3 ?k4 ?_ ?k5 ?k6 ?k7 ?k8
  case k1 => k_is
  case k2 => k_is
  case k3 => exact BindsTo.of_eq rfl
  case k4 => exact locs rfl
  case k5 => decide
  case k6 => exact rfl
  case k7 => exact rfl
  case k8 => exact rfl
  intro L h₁ F N R'
  have X := Y.X
  have T := Y.T
  show wpAny _ _ _ _ _ _
  k_fold
  have hL := (⟨_, F.keep _ _ hl, rfl, _, rfl⟩ : h₁.IsList l vs.toArray)
  by_cases hne : rows = []
  ·
    have h0 : rows.length = 0 := by rw [hne]; rfl
    repeat' ((fail_if_success (first | (with_reducible show Exists _) | (with_reducible show wpAny _ _ (exec (Stmt.While _ _ _ _) _) _ _ _) | (with_reducible show wpAny _ _ (exec (Stmt.For _ _ _ _ _) _) _ _ _) | (with_reducible show wpAny _ _ (eval (Expr.ListComp _ _ _ _) _) _ _ _))); first | (k_unfold; (try dsimp only)) | walk1 | (dsimp only; walk1))
    rename Fr _ _ _ _ => F9
    rename News _ _ _ _ => N9
    have e : duePop kind rows = (none, rows) := by unfold duePop; rw [if_pos hne]
    rw [e] at hQ
    exact hQ _ _ l _ _ _ _ F9.keep (News.fresh N9 (.head _)) (N9 _ (.head _)).1 rfl (.inl rfl) (F9.keep _ _ hl) hB
  ·
    have h0 : rows.length ≠ 0 := fun e => hne (List.length_eq_zero_iff.mp e)
    repeat' ((fail_if_success (first | (with_reducible show Exists _) | (with_reducible show wpAny _ _ (exec (Stmt.While _ _ _ _) _) _ _ _) | (with_reducible show wpAny _ _ (exec (Stmt.For _ _ _ _ _) _) _ _ _) | (with_reducible show wpAny _ _ (eval (Expr.ListComp _ _ _ _) _) _ _ _))); first | (k_unfold; (try dsimp only)) | walk1 | (dsimp only; walk1))
    all_goals
      rename Fr _ _ _ _ => F9
      rename News _ _ _ _ => N9
    · have e : duePop kind rows = (rows.head?, rows.tail) := by unfold duePop; rw [if_neg hne, if_pos (by assumption)]
      rw [e] at hQ
      exact hQ _ _ _ _ _ _ _ F9.keep (News.fresh N9 (.head _)) (N9 _ (.head _)).1 (by dsimp only; rw [show rows.head? = some _ by assumption]; exact ⟨_, rfl⟩) (.inr (News.fresh N9 (.tail _ (.head _)))) (N9 _ (.tail _ (.head _))).1 (by assumption)
    · have e : duePop kind rows = (rows.getLast?, rows.dropLast) := by unfold duePop; rw [if_neg hne, if_neg (by rw [show (kind == Str.ofString "queue") = false by assumption]; decide)]
      rw [e] at hQ
      exact hQ _ _ _ _ _ _ _ F9.keep (News.fresh N9 (.head _)) (N9 _ (.head _)).1 (by dsimp only; rw [show rows.getLast? = some _ by assumption]; exact ⟨_, rfl⟩) (.inr (News.fresh N9 (.tail _ (.head _)))) (N9 _ (.tail _ (.head _))).1 (by assumption)
set_option maxHeartbeats 0 in
theorem c_in_turn {l : Addr} {rows : List (Array UInt8)} {kind : Str} {vs : List Value} {c : Nat} {tk₀ : Tok} {Q : Value → Shared → Prop} (R : Rm (AN dp un fr gd) 2) (Y : Lay w mg mb s.heap) (hl : s.heap.get? l = some (W.listOf (List.toArray vs) c)) (hB : BytesAre vs rows) (hr : rows.length ≤ 900)
    (hQ : ∀ l' vs' c' h' tk, Kp s.heap h' → (l' = l ∨ s.heap.get? l' = none) → h'.get? l' = some (W.listOf (List.toArray vs') c') → BytesAre vs' (inTurn kind rows) → Q (.ref l') { s with heap := h', toks := tk }) :
    wpAny (model prog w) (AN dp un fr gd) (call (.ref 487) [.str kind tk₀, .ref l]) Q E s := by
  refine wpAny_call ?_
  refine' enterA (binds := [(Str.ofString "kind", .str kind tk₀), (Str.ofString "rows", .ref l)]) R Y ?k1 ?k2 ?k3 ?k4 ?_ ?k5 ?k6 ?k7 ?k8
  case k1 => k_is
  case k2 => k_is
  case k3 => exact BindsTo.of_eq rfl
  case k4 => exact locs rfl
  case k5 => decide
  case k6 => exact rfl
  case k7 => exact rfl
  case k8 => exact rfl
  intro L h₁ F N R'
  have X := Y.X
  have T := Y.T
  show wpAny _ _ _ _ _ _
  k_fold
  have hL := (⟨_, F.keep _ _ hl, rfl, _, rfl⟩ : h₁.IsList l vs.toArray)
  repeat' ((fail_if_success (first | (with_reducible show Exists _) | (with_reducible show wpAny _ _ (exec (Stmt.While _ _ _ _) _) _ _ _) | (with_reducible show wpAny _ _ (exec (Stmt.For _ _ _ _ _) _) _ _ _) | (with_reducible show wpAny _ _ (eval (Expr.ListComp _ _ _ _) _) _ _ _))); first | (k_unfold; (try dsimp only)) | walk1 | (dsimp only; walk1))
  all_goals rename Fr _ _ _ _ => F9
  · have e : inTurn kind rows = rows := by unfold inTurn; rw [if_pos (by assumption)]
    rw [e] at hQ
    exact hQ l _ _ _ _ F9.keep (.inl rfl) (F9.keep _ _ hl) hB
  · rename News _ _ _ _ => N9
    have e : inTurn kind rows = rows.reverse := by unfold inTurn; rw [if_neg (by rw [show (kind == Str.ofString "queue") = false by assumption]; decide)]
    rw [e] at hQ
    exact hQ _ _ _ _ _ F9.keep (.inr (News.fresh N9 (.head _))) (N9 _ (.head _)).1 (by assumption)
end

section
variable {b : Bool} {prog : Program} {w : World} {A : Around} {E : Value → Shared → Prop} {s : Shared} {env : Env}
/-- the loop of a list comprehension whose test never holds -/
theorem codeX_compF {I C D : Addr} {fp wr : List Addr} {n : Nat} {P : Nat → Value → Prop} {St : Nat → Heap → Prop} {x : Str} {px : Pos} {elt iter test : PySem.Expr} {scope : Scope} {pos : Pos} {cenv : Env} {R : Result → Shared → Prop}
    (Wk : Walks prog w A I fp wr n P St) (J : Nat → Shared → Prop) (hC : cenv.locals = C)
    (hx : cenv.kindOf x = some .local) (hp : (cenv.scope.kind == .class || (cenv.scope.kind == .module && cenv.locals != cenv.globals)) = false)
    (hDC : D ≠ C) (hDw : D ∉ wr) (hCw : C ∉ wr)
    (hCf : C ∉ fp) (hst : ∀ i s, J i s → St i s.heap)
    (turn : ∀ i v s₁ h' tk (m : Str → Option Value), i < n → J i s₁ → P i v → St (i + 1) h' → (∀ a o, a ∉ wr → a ≠ C → s₁.heap.get? a = some o → h'.get? a = some o) → h'.Ns C (fun y => if y = x then some v else m y) → h'.get? D = some (W.listOf (List.toArray []) 0) →
      wpX b (model prog w) A (isTrue test cenv (eval test cenv)) (fun c s' => c = false ∧ J (i + 1) s' ∧ s'.heap.get? D = h'.get? D ∧ ∃ m', s'.heap.Ns C m') (fun _ _ => False) { s₁ with heap := h', toks := tk })
    (done : ∀ s₁ h' tk m, J n s₁ → (∀ a o, a ∉ wr → s₁.heap.get? a = some o → h'.get? a = some o) → h'.get? D = some (W.listOf (List.toArray []) 0) → h'.Ns C m → R (.ok .next) { s₁ with heap := h', toks := tk }) :
    ∀ (k i : Nat) (s : Shared) (m : Str → Option Value), n - i = k → i ≤ n → J i s → s.heap.get? D = some (W.listOf (List.toArray []) 0) → s.heap.Ns C m →
      codeX b (model prog w) A (.compLoop (.ListComp elt [⟨.Name x px, iter, [test], 0⟩] scope pos) 0 (.ref I) (.ref D) cenv) R s := by
  intro k
  induction k with
  | zero =>
    intro i s m hk hi hJ hD hN
    obtain rfl : i = n := by omega
    refine codeT_of_tree rfl ?_
    rw [Around.under_of_weight rfl]
    show wpX b _ A ((compTurn _ 0 (.ref I) (.ref D) cenv).onRaise _) _ _ s
    refine wpT_onRaise ?_
    unfold compTurn
    dsimp only [List.getElem?_cons_zero]
    refine wpT_bind (wpX.of (wpAny_standAt ?_))
    refine wpT_bind (wpX.of (Wk.done s _ _ (hst _ _ hJ) fun h' tk hk' => ?_))
    exact wpT_pure (done s h' tk m hJ hk' (hk' _ _ hDw hD) (hN.at' fun o e => hk' _ _ hCw e))
  | succ k ih =>
    intro i s m hk hi hJ hD hN
    refine codeT_of_tree rfl ?_
    rw [Around.under_of_weight rfl]
    show wpX b _ A ((compTurn _ 0 (.ref I) (.ref D) cenv).onRaise _) _ _ s
    refine wpT_onRaise ?_
    unfold compTurn
    dsimp only [List.getElem?_cons_zero]
    refine wpT_bind (wpX.of (wpAny_standAt ?_))
    refine wpT_bind (wpX.of (Wk.item i s _ _ (by omega) (hst _ _ hJ) fun v h₁ tk₁ hv hS hk₁ => ?_))
    dsimp only
    show wpX b _ A (letOwnedTupleGo (.Name x px) (.ref I) v >>= _) _ _ _
    refine wpT_bind (wpT_pure ?_)
    show wpX b _ A ((assign (.Name x px) cenv v) >>= _) _ _ _
    refine wpT_bind (wpX.of (wpAny_assign_Name (wpAny_storeName_local hx (hC ▸ hN.at' fun o e => hk₁ _ _ hCw e) (fun h₂ hn₂ hs₂ => ?_) hp)))
    rw [hC] at hn₂ hs₂
    have k₂ : ∀ a o, a ∉ wr → a ≠ C → s.heap.get? a = some o → h₂.get? a = some o := fun a o h1 h2 e => hs₂.extBut a o h2 (hk₁ a o h1 e)
    have hD₂ := k₂ _ _ hDw hDC hD
    have key := turn i v s h₂ (tk₁ + 1) m (by omega) hJ hv (Wk.frame _ _ _ hS fun a ha o e => hs₂.extBut a o (fun e' => hCf (e' ▸ ha)) e) k₂ hn₂ hD₂
    rw [List.forIn_cons]
    refine wpT_bind (wpT_bind ?_)
    refine wpT_true rfl ?_
    refine wpT_bind (wpT_mono key (fun c s₃ h₃ => ?_) fun _ _ e => e.elim)
    obtain ⟨rfl, hJ₃, hD₃, m₃, hN₃⟩ := h₃
    rw [hD₂] at hD₃
    first | refine wpT_pure ?_ | refine wpT_bind (wpT_pure (wpT_pure ?_))
    dsimp only
    rw [List.forIn_nil]
    refine wpT_pure ?_
    refine wpT_false rfl ?_
    exact wpT_pure ⟨rfl, ih (i + 1) s₃ m₃ (by omega) (by omega) hJ₃ hD₃ hN₃⟩

/-- what a comprehension whose test never holds wants -/
noncomputable def CompObF (b : Bool) (prog : Program) (w : World) (A : Around) (env : Env) (scope : Scope) (cl : List (Str × Addr)) (x : Str) (test : PySem.Expr) (Q : Value → Shared → Prop) (s₁ : Shared) (it : Value) (s₂ : Shared) : Prop :=
  (Ex6 fun (I : Addr) (fp : List Addr) (wr : List Addr) (n : Nat) (P : Nat → Value → Prop) (St : Nat → Heap → Prop) => All9 (it = .ref I) (Walks prog w A I fp wr n P St) ((∀ a ∈ fp, a < s₂.heap.objs.size)) (St 0 s₂.heap) ((∀ a ∈ wr, s₁.heap.get? a = none)) ((∀ a o, s₁.heap.get? a = some o → s₂.heap.get? a = some o)) (s₁.heap.objs.size ≤ s₂.heap.objs.size) ((∀ (C : Addr) i v h tk (m : Str → Option Value), i < n → P i v → Fr s₁.heap C h (fun y => if y = x then some v else m y) →
      wpX b (model prog w) A (isTrue test (compEnvC scope cl C env) (eval test (compEnvC scope cl C env))) (fun c s' => c = false ∧ ∃ h' tk', s' = { s₂ with heap := h', toks := tk' } ∧ ∀ a o, h.get? a = some o → h'.get? a = some o) (fun _ _ => False) { s₂ with heap := h, toks := tk })) (∀ D h tk, (∀ a o, s₁.heap.get? a = some o → h.get? a = some o) → s₁.heap.get? D = none → h.get? D = some (PySem.W.listOf (List.toArray []) 0) → Q (.ref D) { s₂ with heap := h, toks := tk }))
theorem my_ListCompF {x : Str} {px : Pos} {elt iter test : PySem.Expr} {scope : Scope} {pos : Pos} {cl : List (Str × Addr)} {Q : Value → Shared → Prop}
    (hs : ∀ v, foldedSetIterable iter env v = pure v) (hclos : closureFor scope env = pure cl) (hkind : scope.kind = .function) (hcell : ∀ y ∈ scope.names, y.2 ≠ .cell)
    (hnames : ∀ y ∈ scope.names, y.2 = .local → scope.names.lookup y.1 = some .local) (hx : scope.names.lookup x = some .local)
    (h : wpAny (model prog w) A (eval iter env) (fun xv s₁ => wpAny (model prog w) A (pyIter xv) (CompObF b prog w A env scope cl x test Q s₁) E s₁) E s) :
    wpX b (model prog w) A (eval (.ListComp elt [⟨.Name x px, iter, [test], 0⟩] scope pos) env) Q E s := by
  rw [arm_eval_ListComp]
  show wpX b _ _ (comprehension _ scope env _ (newList []) false (eval iter env)) _ _ _
  unfold comprehension
  rw [hclos]
  refine wpT_bind (wpX.of (wpAny_mono h (fun xv s₁ h₁ => ?_) fun _ _ e => e))
  refine wpT_bind (wpX.of (wpAny_standAt ?_))
  refine wpT_bind ?_
  show wpX b _ _ (foldedSetIterable iter env xv) _ _ _
  rw [hs]
  refine wpT_pure ?_
  refine wpT_bind (wpT_holding (wpX.of (wpAny_mono h₁ (fun it s₂ h₂ => ?_) fun _ _ e => e)))
  obtain ⟨I, fp, wr, n, P, St, rfl, Wk, hfp, hS0, hwr, k12, z12, turn, done⟩ := h₂
  refine wpT_false rfl ?_
  refine wpT_bind (wpX.of (wpAny_newObj_type ?_ (Nat.zero_le _)))
  refine wpT_bind (wpT_pure ?_)
  refine wpT_bind (wpX.of (wpAny_newFunctionEnv hcell (fun _ hx => nomatch hx) (fun h₃ hns hsb => ?_) hkind))
  have hv : ∀ y ∈ (scope.names.filter fun y => (y.2 == .local || y.2 == .cell) && y.1 != (".0" : Str)).reverse, y.2 = .local →
      Env.kindOf (compEnvC scope cl (s₂.heap.push { cls := .type "list", data := .seq #[] }).objs.size env) y.1 = some .local := fun y hy hl => lookup_relabel_local (hnames y (List.mem_filter.mp (List.mem_reverse.mp hy)).1 hl)
  have eC : (s₂.heap.push { cls := .type "list", data := .seq #[] }).objs.size = s₂.heap.objs.size + 1 := Heap.size_push _ _
  have k23 : ∀ a o, s₂.heap.get? a = some o → h₃.get? a = some o := fun a o e => hsb.extBut a o (by rw [eC]; exact Nat.ne_of_lt (Nat.lt_succ_of_lt (Heap.lt_size e))) (Heap.get?_push_of_some _ (Heap.get?_push_of_some _ e))
  have hD3 : h₃.get? s₂.heap.objs.size = some (PySem.W.listOf (List.toArray []) 0) := hsb.extBut _ _ (by rw [eC]; exact Nat.ne_of_lt (Nat.lt_succ_self _)) (Heap.get?_push_of_some _ (Heap.get?_push_size _ rfl))
  generalize eCC : (s₂.heap.push { cls := .type "list", data := .seq #[] }).objs.size = C at *
  generalize eDD : s₂.heap.objs.size = D at *
  have hDC : D ≠ C := by omega
  have fpD : D ∉ fp := fun h => by have : @LT.lt Nat _ D D := hfp _ h; omega
  have fpC : C ∉ fp := fun h => by have : @LT.lt Nat _ C D := hfp _ h; omega
  have ltOf : ∀ (a : Nat) o, s₁.heap.get? a = some o → @LT.lt Nat _ a D := fun a o e => by have := ltSz (k12 _ _ e); omega
  dsimp only
  refine wpT_holding (wpT_bind (wpT_attempt (wpT_holding (wpT_run (h := none) ?_ nofun))))
  refine codeT_mono (A := A) (R := fun r s' => (Ex3 fun h₄ tk₄ m₄ => All5 (r = .ok .next) (s' = { s₂ with heap := h₄, toks := tk₄ }) ((∀ a o, s₁.heap.get? a = some o → h₄.get? a = some o)) (h₄.get? D = some (PySem.W.listOf (List.toArray []) 0)) (h₄.Ns C m₄))) ?_ fun r s' hr => ?_
  · refine codeT_of_tree rfl ?_
    rw [Around.under_of_weight rfl]
    show wpX b _ A ((compStart _ 0 (.ref I) (.ref D) _).onRaise _) _ _ _
    refine wpT_onRaise ?_
    unfold compStart
    refine wpT_false rfl ?_
    refine wpT_bind (wpX.of (wpAny_askSetting ?_))
    have loop : ∀ tk, codeX b (model prog w) A (.compLoop (.ListComp elt [⟨.Name x px, iter, [test], 0⟩] scope pos) 0 (.ref I) (.ref D) (compEnvC scope cl C env)) (fun r s' => (Ex3 fun h₄ tk₄ m₄ => All5 (r = .ok .next) (s' = { s₂ with heap := h₄, toks := tk₄ }) ((∀ a o, s₁.heap.get? a = some o → h₄.get? a = some o)) (h₄.get? D = some (PySem.W.listOf (List.toArray []) 0)) (h₄.Ns C m₄))) { s₂ with heap := h₃, toks := tk } := by
      intro tk
      refine codeX_compF (C := C) (D := D) Wk (fun i s => ∃ h tk, s = { s₂ with heap := h, toks := tk } ∧ St i h ∧ (∀ a o, s₁.heap.get? a = some o → h.get? a = some o)) rfl
        (by show (relabel scope env).names.lookup x = some .local; exact lookup_relabel_local hx) (by show (scope.kind == .class || (scope.kind == .module && _)) = false; rw [hkind]; rfl) hDC (fun h => fpD (Wk.sub _ h)) (fun h => fpC (Wk.sub _ h)) fpC ?_ ?_ ?_ n 0 _ _ rfl (Nat.zero_le _) ⟨h₃, tk, rfl, ?_, fun a o e => k23 _ _ (k12 _ _ e)⟩ hD3 hns
      · rintro i s ⟨h, tk, rfl, hS, _⟩; exact hS
      · rintro i v s' h' tk' m hi ⟨h, tk, rfl, hS, hk⟩ hP hS' hk' hN hDc
        have hkk : ∀ a o, s₁.heap.get? a = some o → h'.get? a = some o := fun a o e => hk' a o (fun e' => by rw [hwr _ e'] at e; cases e) (Nat.ne_of_lt (Nat.lt_trans (ltOf _ _ e) (by omega))) (hk a o e)
        refine wpT_mono (turn C i v h' tk' m hi hP ⟨hN, hkk, by omega⟩) (fun c s'' hy => ?_) fun _ _ e => e
        obtain ⟨rfl, h'', tk'', rfl, hk''⟩ := hy
        exact ⟨rfl, ⟨h'', tk'', rfl, Wk.frame _ _ _ hS' fun a ha o e => hk'' a o e, fun a o e => hk'' a o (hkk a o e)⟩, (hk'' _ _ hDc).trans hDc.symm, ⟨_, hN.at' fun o e => hk'' _ _ e⟩⟩
      · rintro s' h' tk' m ⟨h, tk, rfl, hS, hk⟩ hk' hD' hN'
        exact ⟨h', tk', m, rfl, rfl, fun a o e => hk' a o (fun e' => by rw [hwr _ e'] at e; cases e) (hk a o e), hD', hN'⟩
      · exact Wk.frame _ _ _ hS0 fun a _ o e => k23 a o e
    refine wpT_ite ?_
    split
    · exact wpT_bind (wpT_pure (wpT_pure ⟨rfl, loop _⟩))
    · refine wpT_bind (wpX.of (wpAny_rule ?_))
      show wpX b _ A (standAt _ >>= fun _ => pyIter (.ref I) >>= _) _ _ _
      refine wpT_bind (wpX.of (wpAny_standAt ?_))
      refine wpT_bind (wpX.of (Wk.self 0 _ _ _ (Wk.frame _ _ _ hS0 fun a _ o e => k23 a o e) ?_))
      exact wpT_pure ⟨rfl, loop _⟩
  · obtain ⟨h₄, tk₄, m₄, rfl, rfl, hk, hD, hN⟩ := hr
    refine wpT_bind (wpT_holding (wpX.of (wpAny_comp_letGo (cenv := compEnvC scope cl _ env) hkind _ _ m₄ hv hN fun h₅ m₅ _ hs₅ => ?_)))
    refine wpT_pure (done D h₅ tk₄ ?_ ?_ ?_)
    · exact fun a o e => hs₅.extBut a o (show a ≠ C from Nat.ne_of_lt (Nat.lt_trans (ltOf _ _ e) (by omega))) (hk a o e)
    · cases e : s₁.heap.get? D with
      | none => rfl
      | some o => exact absurd (ltOf _ _ e) (Nat.lt_irrefl _)
    · exact hs₅.extBut _ _ hDC hD
end

section
variable {b : Bool} {prog : Program} {w : World} {A : Around} {E : Value → Shared → Prop} {s : Shared} {env : Env}
theorem compObF_range {x : Str} {test : PySem.Expr} {scope : Scope} {cl : List (Str × Addr)} {Q : Value → Shared → Prop} {r : Addr} {k : Int} {t u v : Tok} (hh : A.handled = none) (hr : IsRange s.heap r 0 k 1 t u v) (hn : k ≤ 1000) (hn' : -1000 ≤ k)
    (turn : ∀ (C : Addr) (i : Nat) ti h tk (m : Str → Option Value), (i : Int) < k → Fr s.heap C h (fun y => if y = x then some (.int (i : Int) ti) else m y) →
      wpX b (model prog w) A (isTrue test (compEnvC scope cl C env) (eval test (compEnvC scope cl C env))) (fun c s' => c = false ∧ ∃ h' tk', s' = { s with heap := h', toks := tk' } ∧ ∀ a o, h.get? a = some o → h'.get? a = some o) (fun _ _ => False) { s with heap := h, toks := tk })
    (done : ∀ D h tk, (∀ a o, s.heap.get? a = some o → h.get? a = some o) → s.heap.get? D = none → h.get? D = some (PySem.W.listOf (List.toArray []) 0) → Q (.ref D) { s with heap := h, toks := tk }) :
    wpAny (model prog w) A (pyIter (.ref r)) (CompObF b prog w A env scope cl x test Q s) E s := by
  have fresh : ∀ a, s.heap.objs.size ≤ a → s.heap.get? a = none := fun a ha => by
    cases e : s.heap.get? a with
    | none => rfl
    | some o => exact absurd (Heap.lt_size e) (Nat.not_lt.mpr ha)
  refine wpAny_pyIter_range hr (small_one (by decide) (by decide) (by omega) (by omega)) ?_
  have e : Builtin.Range.rangeSize 0 k 1 = ((k.toNat : Nat) : Int) := by rw [rangeSize_one]; split <;> omega
  rw [e]
  have sz : ∀ o, (s.heap.push o).objs.size = s.heap.objs.size + 1 := fun o => Heap.size_push _ _
  refine ⟨s.heap.objs.size, _, _, _, _, _, rfl, LCg.range_walks hh 0 k.toNat, ?_, ?_, ?_, fun a o e => Heap.get?_push_of_some _ e, by show _ ≤ (s.heap.push _).objs.size; rw [sz]; exact Nat.le_succ _, ?_, fun D h tk hk hD hl => done D h tk hk hD hl⟩
  · intro a ha
    rw [List.mem_singleton.mp ha]
    show _ < (s.heap.push _).objs.size
    rw [sz]; exact Nat.lt_succ_self _
  · show (s.heap.push _).get? _ = some _
    rw [Heap.get?_push_size _ rfl]; simp
  · intro a ha
    rw [List.mem_singleton.mp ha]; exact fresh _ (Nat.le_refl _)
  · intro C i v h tk m hi hP F
    obtain ⟨ti, rfl⟩ := hP
    rw [Int.zero_add] at F
    exact turn C i ti h tk m (by omega) F
theorem neB_same {a c : Addr} {vs us : List Value} {bs : List (Array UInt8)} {Q : Value → Shared → Prop} (ha : s.heap.IsList a vs.toArray) (hb : s.heap.IsList c us.toArray) (hi : BytesAre vs bs) (hj : BytesAre us bs) (hu : A.units < cLine)
    (h : Q (.bool false) s) : wpAny (model prog w) A (compareOp .NotEq (.ref a) (.ref c)) Q E s := neB ha hb hi hj hu (by simpa using h)
theorem eqB_same {a c : Addr} {vs us : List Value} {bs : List (Array UInt8)} {Q : Value → Shared → Prop} (ha : s.heap.IsList a vs.toArray) (hb : s.heap.IsList c us.toArray) (hi : BytesAre vs bs) (hj : BytesAre us bs) (hu : A.units < cLine)
    (h : Q (.bool true) s) : wpAny (model prog w) A (compareOp .Eq (.ref a) (.ref c)) Q E s := eqB ha hb hi hj hu (by simpa using h)
noncomputable abbrev tupO (vs : Array Value) : Obj := { cls := .type "tuple", data := .seq vs }
theorem told_ne {a c P R : Addr} {k : Str} {t0 t1 t2 t3 t4 u0 u1 u2 u3 u4 : Tok} {wd mo : Int} {vs us : List Value} {bs : List (Array UInt8)} {Q : Value → Shared → Prop}
    (ha : s.heap.get? a = some (tupO #[.str k t0, .int 3 t1, .int 0 t2, .int wd t3, .int mo t4, .ref P])) (hc : s.heap.get? c = some (tupO #[.str k u0, .int 3 u1, .int 0 u2, .int wd u3, .int mo u4, .ref R]))
    (hP : s.heap.get? P = some (tupO vs.toArray)) (hR : s.heap.get? R = some (tupO us.toArray)) (hi : BytesAre vs bs) (hj : BytesAre us bs) (hu : A.units + 8 < cLine)
    (h : Q (.bool false) s) : wpAny (model prog w) A (compareOp .NotEq (.ref a) (.ref c)) Q E s := by
  have inner : SeqAt.EqAt A.in1 s (.ref P) (.ref R) true := by
    by_cases e : P = R
    · subst e; exact SeqAt.EqAt.same _
    · refine SeqAt.EqAt.of_refs e ?_
      have := SeqAt.RcAt.tuples (A := A.in1) (s := s) (e := fun _ => true) (l := P) (b := R) ⟨_, hP, rfl, _, rfl⟩ ⟨_, hR, rfl, _, rfl⟩ (by show A.units + 1 < cLine; omega) fun j h1 h2 => by
        have h1' : j < vs.length := by simpa using h1
        have h2' : j < us.length := by simpa using h2
        obtain ⟨x, t, e1, e2⟩ := hi.get j vs[j] (List.getElem?_eq_getElem h1')
        obtain ⟨y, t', e3, e4⟩ := hj.get j us[j] (List.getElem?_eq_getElem h2')
        rw [e2] at e4; cases e4
        have := EqAt.bytes (A := A.in1.in1) (s := s) x x t t'
        simp only [decide_true] at this
        simpa [e1, e3] using this
      have e2 : ((List.range (min vs.toArray.size us.toArray.size)).all (fun _ => true) && vs.toArray.size == us.toArray.size) = true := by
        rw [Bool.and_eq_true]; exact ⟨List.all_eq_true.mpr fun _ _ => rfl, by simp [hi.length, hj.length]⟩
      rw [e2] at this; exact this
  have key := SeqAt.RcNeAt.tuples (A := A) (s := s) (e := fun _ => true) (l := a) (b := c) ⟨_, ha, rfl, _, rfl⟩ ⟨_, hc, rfl, _, rfl⟩ (by omega) fun j h1 h2 => by
    have s0 : SeqAt.EqAt A.in1 s (.str k t0) (.str k u0) true := by have := SeqAt.EqAt.str_str (A := A.in1) (s := s) k t0 k u0; simpa using this
    have si : ∀ i p q, SeqAt.EqAt A.in1 s (.int i p) (.int i q) true := fun i p q => by have := SeqAt.EqAt.int_int (A := A.in1) (s := s) i p i q; simpa using this
    rcases j with _ | _ | _ | _ | _ | _ | j
    · exact s0
    · exact si _ _ _
    · exact si _ _ _
    · exact si _ _ _
    · exact si _ _ _
    · exact inner
    · exact absurd h1 (by simp)
  have e : (!((List.range (min (#[Value.str k t0, .int 3 t1, .int 0 t2, .int wd t3, .int mo t4, .ref P] : Array Value).size (#[Value.str k u0, .int 3 u1, .int 0 u2, .int wd u3, .int mo u4, .ref R] : Array Value).size)).all (fun _ => true) && (#[Value.str k t0, .int 3 t1, .int 0 t2, .int wd t3, .int mo t4, .ref P] : Array Value).size == (#[Value.str k u0, .int 3 u1, .int 0 u2, .int wd u3, .int mo u4, .ref R] : Array Value).size)) = false := by simp
  rw [e] at key
  exact key prog w E Q h
end

theorem Rm.units8 {A : Around} {n : Nat} (R : Rm A (n + 1)) : A.units + 8 < cLine := by have := R.u; omega
section
variable {prog : Program} {w : World} {A : Around} {E : Value → Shared → Prop} {s : Shared} {mg mb : Str → Option Value} {h₀ : Heap} {L : Addr} {m : Str → Option Value} {q : Qd} {dp un : Nat} {fr : Option (List Env)} {gd : Option (List Code)}
theorem ne_opt {v x : Value} {o : Option (Array UInt8)} {Q : Value → Shared → Prop} (hv : IsOpt v o) (hx : IsOpt x o) (h : Q (.bool false) s) : wpAny (model prog w) A (compareOp .NotEq v x) Q E s := by
  cases o with
  | none => cases hv; cases hx; exact EqNone.ne_none_none h
  | some b => obtain ⟨t, rfl⟩ := hv; obtain ⟨t', rfl⟩ := hx; exact ne_bytes (by simpa using h)
theorem ne_bool_same {x : Bool} {Q : Value → Shared → Prop} (h : Q (.bool false) s) : wpAny (model prog w) A (compareOp .NotEq (.bool x) (.bool x)) Q E s := ne_bool (by simpa using h)
theorem ne_int_same {i : Int} {t u : Tok} {Q : Value → Shared → Prop} (h : Q (.bool false) s) : wpAny (model prog w) A (compareOp .NotEq (.int i t) (.int i u)) Q E s := ne_int (by simpa using h)
theorem c_countR {rows : List (Array UInt8)} {Q : Value → Shared → Prop} (R : Rm (AN dp un fr gd) 2) (Y : Lay w mg mb s.heap) (H : QAt prog w s.heap q) (hq : q.Ok) (hr : Holds q rows)
    (hQ : ∀ t h' tk, Kp s.heap h' → Q (.int (rows.length : Int) t) { s with heap := h', toks := tk }) :
    wpAny (model prog w) (AN dp un fr gd) (call (.ref 320) [.ref q.x]) Q E s := c_count R Y H hq (by rw [← hr.1]; exact hQ)
theorem c_is_emptyR {rows : List (Array UInt8)} {Q : Value → Shared → Prop} (R : Rm (AN dp un fr gd) 2) (Y : Lay w mg mb s.heap) (H : QAt prog w s.heap q) (hq : q.Ok) (hr : Holds q rows)
    (hQ : ∀ h' tk, Kp s.heap h' → Q (.bool (decide (rows.length = 0))) { s with heap := h', toks := tk }) :
    wpAny (model prog w) (AN dp un fr gd) (call (.ref 327) [.ref q.x]) Q E s := c_is_empty R Y H (by
      have e : (q.hd == q.tl) = decide (rows.length = 0) := by
        rw [Bool.eq_iff_iff, decide_eq_true_eq, beq_iff_eq, hr.nil_iff hq, List.length_eq_zero_iff]
      rw [e]; exact hQ)
theorem c_is_fullR {rows : List (Array UInt8)} {Q : Value → Shared → Prop} (R : Rm (AN dp un fr gd) 3) (Y : Lay w mg mb s.heap) (H : QAt prog w s.heap q) (hq : q.Ok) (hr : Holds q rows)
    (hQ : ∀ h' tk, Kp s.heap h' → Q (.bool ((rows.length : Int) == q.most)) { s with heap := h', toks := tk }) :
    wpAny (model prog w) (AN dp un fr gd) (call (.ref 334) [.ref q.x]) Q E s := c_is_full R Y H hq (by
      have e : (q.next q.hd == q.tl) = ((rows.length : Int) == q.most) := by
        rw [Bool.eq_iff_iff, beq_iff_eq, beq_iff_eq, Qd.full_iff hq, hr.1]
      rw [e]; exact hQ)
theorem News.addE {l r : Addr} {g h h' : Heap} {o ob : Obj} {news : List (Addr × Obj)} (F : Fr g L h m) (N : News g L h news) (k : Kp h h') (n : r = l ∨ h.get? r = none) (mem : (l, o) ∈ news) (hr : h'.get? r = some ob) : News g L h' ((r, ob) :: news) := by
  have N' := News.keeps N k
  rcases n with rfl | n
  · intro p hp
    rcases List.mem_cons.mp hp with rfl | hp
    · exact ⟨hr, (N _ mem).2⟩
    · exact N' p hp
  · exact News.add F N' n hr
theorem item_ns {value slice : PySem.Expr} {l : Addr} {vs : List Value} {ns : List Int} {k : Int} {u : Tok} {Q : Value → Shared → Prop} (hl : s.heap.IsList l vs.toArray) (hI : IntsAre vs ns) (h0 : 0 ≤ k) (hk : k < ns.length) (hz : ns.length ≤ 1000) (h : ∀ t, Q (.int (ns.getD k.toNat 0) t) s)
    (hs : subscripted slice false (.ref l) (.int k u) = operate [.ref l, .int k u] (getItem (.ref l) (.int k u))) (hg : ∀ r, letTemporaryGo value (.ref l) r = pure ()) :
    wpAny (model prog w) A (subscriptTail value slice (.ref l) (.int k u)) Q E s := by
  refine item_any hl h0 (by rw [hI.length]; exact hk) (by rw [hI.length]; exact hz) (fun x hx => ?_) hs hg
  obtain ⟨z, t, rfl, hz⟩ := IntsAre.at hI _ x hx
  have := h t
  rw [List.getD_eq_getElem?_getD, hz] at this; exact this
theorem place_inj {i j : Int} (hq : q.Ok) (hi : 0 ≤ i ∧ i ≤ q.most) (hj : 0 ≤ j ∧ j ≤ q.most) (e : q.place i = q.place j) : i = j := by
  have := hq.tl0; have := hq.tl1
  unfold Qd.place at e; split at e <;> split at e <;> omega
theorem ups_nodup (hq : q.Ok) : (q.ups q.cnt.toNat).Nodup := by
  have hc := Qd.cnt_le hq
  have := hq.most0
  unfold Qd.ups List.Nodup
  rw [List.pairwise_map]
  refine (List.pairwise_lt_range (n := q.cnt.toNat)).imp_of_mem fun {a b} ha hb hab e => ?_
  have h1 := List.mem_range.mp ha
  have h2 := List.mem_range.mp hb
  have := place_inj hq (by omega) (by omega) e
  omega
theorem turnList_nodup (hq : q.Ok) : q.turnList.Nodup := by
  unfold Qd.turnList; split
  · exact ups_nodup hq
  · exact (List.reverse_perm _).nodup_iff.mpr (ups_nodup hq)
noncomputable def slotB (q : Qd) (k : Int) : Array UInt8 := ((q.sl.lookup k).map (·.2)).getD #[]
theorem slots_perm {rows : List (Array UInt8)} {ns : List Int} (_hq : q.Ok) (hr : Holds q rows) (hP : ns.Perm q.turnList) : (ns.map (slotB q)).Perm rows := by
  refine (hP.map _).trans ?_
  have e : q.turnList.map (slotB q) = inTurn q.kind rows := by
    refine List.ext_getElem? fun i => ?_
    rw [List.getElem?_map]
    cases hk : q.turnList[i]? with
    | none =>
      have h1 := List.getElem?_eq_none_iff.mp hk
      rw [Qd.turnList_length] at h1
      rw [List.getElem?_eq_none (by rw [inTurn_length, hr.len]; exact h1)]; rfl
    | some k =>
      obtain ⟨a, b, h1, h2⟩ := hr.turn i k hk
      rw [h2]
      show some (slotB q k) = some b
      unfold slotB; rw [h1]; rfl
  rw [e]
  unfold inTurn; split
  · exact List.Perm.refl _
  · exact List.reverse_perm _
theorem strict_of {ns : List Int} (hP : ns.Perm q.turnList) (hW : ns.Pairwise (· ≤ ·)) (hq : q.Ok) (i : Nat) (hi : i + 1 < ns.length) : ns.getD i 0 < ns.getD (i + 1) 0 := by
  have nd : ns.Nodup := hP.nodup_iff.mpr (turnList_nodup hq)
  have h1 := List.pairwise_iff_getElem.mp hW i (i + 1) (by omega) hi (by omega)
  have h2 := List.pairwise_iff_getElem.mp nd i (i + 1) (by omega) hi (by omega)
  rw [List.getD_eq_getElem?_getD, List.getD_eq_getElem?_getD, List.getElem?_eq_getElem (by omega), List.getElem?_eq_getElem hi]
  show ns[i] < ns[i + 1]
  omega
end
theorem kw_f_25 : True := by
  k_with "call ref" => ((with_reducible show wpAny _ _ (call (Value.ref 320) _) _ _ _); k_dflt (refine' c_countR (by walk_at "my rm") (by walk_at "my lay") (by walk_at "my q") (by assumption) (by assumption) ?_; intro _; walk_at "my after"))
  k_with "call ref" => ((with_reducible show wpAny _ _ (call (Value.ref 327) _) _ _ _); k_dflt (refine' c_is_emptyR (by walk_at "my rm") (by walk_at "my lay") (by walk_at "my q") (by assumption) (by assumption) ?_; walk_at "my after"))
  k_with "call ref" => ((with_reducible show wpAny _ _ (call (Value.ref 334) _) _ _ _); k_dflt (refine' c_is_fullR (by walk_at "my rm") (by walk_at "my lay") (by walk_at "my q") (by assumption) (by assumption) ?_; walk_at "my after"))
  k_with "call ref" => ((with_reducible show wpAny _ _ (call (Value.ref 355) _) _ _ _); k_dflt (refine' c_peekR (by walk_at "my rm") (by walk_at "my lay") (by walk_at "my q") (by assumption) (by assumption) ?_; intro _ _ _ k' _; (try dsimp only at k'); (have _ := Fr.keeps (by k_asm) k'); (have _ := News.keeps (by k_asm) k'); (try k_sweep); clear k'))
  k_with "call ref" => ((with_reducible show wpAny _ _ (call (Value.ref 271) _) _ _ _); k_dflt (refine' c_told (by walk_at "my rm") (by walk_at "my lay") (by walk_at "my q") (by assumption) (by assumption) ?_; intro _ _ _ _ _ _ _ _ _ _ k' n' p' o' op' _; (try dsimp only at k'); (try dsimp only at n'); (try dsimp only at p'); (have _ := Fr.keeps (by k_asm) k'); (have _ := News.add (by k_asm) (News.add (by k_asm) (News.keeps (by k_asm) k') p' op') n' o'); (try k_sweep); clear k' n' o' p' op'))
  k_with "call ref" => ((with_reducible show wpAny _ _ (call (Value.ref 487) _) _ _ _); k_dflt (refine' c_in_turn (by walk_at "my rm") (by walk_at "my lay") (by exact News.get (by k_asm) (by walk_at "my mem")) (by assumption) (by walk_at "my room") ?_; intro _ _ _ _ _ k' n' o' _; (try dsimp only at k'); (try dsimp only at n'); (have _ := Fr.keeps (by k_asm) k'); (have _ := News.addE (by k_asm) (by k_asm) k' n' (by walk_at "my mem") o'); (try k_sweep); clear k' n' o'))
  k_with "call ref" => ((with_reducible show wpAny _ _ (call (Value.ref 480) _) _ _ _); k_dflt (refine' c_due_pop (by walk_at "my rm") (by walk_at "my lay") (by exact News.get (by k_asm) (by walk_at "my mem")) (by assumption) (by walk_at "my room") ?_; intro _ _ _ _ _ _ _ k' n' o' _ nl' ol' _; (try dsimp only at k'); (try dsimp only at n'); (have _ := Fr.keeps (by k_asm) k'); (have _ := News.add (by k_asm) (News.addE (by k_asm) (by k_asm) k' nl' (by walk_at "my mem") ol') n' o'); (try k_sweep); clear k' n' o' nl' ol'))
  k_with "compareOp NotEq" => ((fail_if_success (with_reducible show wpAny _ _ (compareOp _ (Value.ref _) _) _ _ _)); k_dflt (refine' ne_opt (by with_reducible assumption) (by with_reducible assumption) ?_))
  k_with "compareOp NotEq int int" => (with_reducible refine ne_int_same ?_)
  k_with "compareOp NotEq bool bool" => (with_reducible refine ne_bool_same ?_)
  k_with "compareOp NotEq ref ref" => ((with_reducible show wpAny _ _ (compareOp CmpOp.NotEq (Value.ref _) (Value.ref _)) _ _ _); k_dflt (refine' ne_nilL (by walk_at "my list") (by walk_at "my list") (by first | exact IntsAre.length (by assumption) | exact BytesAre.length (by assumption) | exact rfl) (by walk_at "my units") ?_))
  k_with "compareOp Eq ref ref" => ((with_reducible show wpAny _ _ (compareOp CmpOp.Eq (Value.ref _) (Value.ref _)) _ _ _); k_dflt (refine' eq_nilL (by walk_at "my list") (by walk_at "my list") (by first | exact IntsAre.length (by assumption) | exact BytesAre.length (by assumption) | exact rfl) (by walk_at "my units") ?_))
  k_with "compareOp NotEq ref ref" => ((with_reducible show wpAny _ _ (compareOp CmpOp.NotEq (Value.ref _) (Value.ref _)) _ _ _); k_dflt (refine' neB_same (by walk_at "my list") (by walk_at "my list") (by assumption) (by assumption) (by walk_at "my units") ?_))
  k_with "compareOp Eq ref ref" => ((with_reducible show wpAny _ _ (compareOp CmpOp.Eq (Value.ref _) (Value.ref _)) _ _ _); k_dflt (refine' eqB (by walk_at "my list") (by walk_at "my list") (by assumption) (by assumption) (by walk_at "my units") ?_))
  k_with "call builtin:sorted" => ((with_reducible show wpAny _ _ (call (Value.builtin "sorted") [Value.ref _]) _ _ _); k_dflt (refine' sorted_bytes (by walk_at "my list") (by assumption) (by walk_at "my few") ?_; intro _ _ _ _ _ k' n' o' _ _ _; (try dsimp only at k'); (try dsimp only at n'); (have _ := Fr.keeps (by k_asm) k'); (have _ := News.add (by k_asm) (News.keeps (by k_asm) k') n' o'); (try k_sweep); clear k' n' o'))
  k_with "my few" => (rw [BytesAre.length (by assumption)]; first | omega | (rw [List.length_map]; omega))
  k_with "compareOp NotEq ref ref" => ((with_reducible show wpAny _ _ (compareOp CmpOp.NotEq (Value.ref _) (Value.ref _)) _ _ _); k_dflt (refine' told_ne (by exact News.get (by k_asm) (by walk_at "my mem")) (by exact News.get (by k_asm) (by walk_at "my mem")) (by exact News.get (by k_asm) (by walk_at "my mem")) (by exact News.get (by k_asm) (by walk_at "my mem")) (by assumption) (by assumption) (by exact Rm.units8 (by assumption)) ?_))
  exact trivial
section
variable {prog : Program} {w : World} {A : Around} {E : Value → Shared → Prop} {s : Shared} {mg mb : Str → Option Value} {h₀ : Heap} {L : Addr} {m : Str → Option Value} {q : Qd} {dp un : Nat} {fr : Option (List Env)} {gd : Option (List Code)}
set_option maxHeartbeats 0 in
theorem c_is {l : Addr} {rows : List (Array UInt8)} {vs : List Value} {c : Nat} {tk₁ tw tm : Tok} {Q : Value → Shared → Prop} {g₀ : Heap} (R : Rm (AN dp un fr gd) 9) (Y : Lay w mg mb g₀) (k : Kp g₀ s.heap)
    (K : ∀ p ∈ [(l, W.listOf (List.toArray vs) c)], s.heap.get? p.1 = some p.2 ∧ g₀.get? p.1 = none) (hB : BytesAre vs rows) (H : QAt prog w s.heap q) (hlq : l ∉ q.as) (hq : q.Ok) (hr : Holds q rows)
    (hQ : ∀ h' tk, Kp s.heap h' → Q (.bool true) { s with heap := h', toks := tk }) :
    wpAny (model prog w) (AN dp un fr gd) (call (.ref 492) [.ref q.x, .str q.kind tk₁, .ref l, .int q.wd tw, .int q.most tm]) Q E s := by
  have hl := (K _ (.head _)).1
  dsimp only at hl
  have hrl : rows.length ≤ 6 := by have := hr.1; have := Qd.cnt_le hq; have := hq.most1; omega
  refine wpAny_call ?_
  refine codeX.any ?_
  refine' enterXC (b := false) (binds := [(Str.ofString "one", .ref q.x), (Str.ofString "kind", .str q.kind tk₁), (Str.ofString "rows", .ref l), (Str.ofString "width", .int q.wd tw), (Str.ofString "most", .int q.most tm)]) [(l, W.listOf (List.toArray vs) c)] ?k0 R Y k ?k1 ?k2 ?k3 ?k4 ?k5 ?_ ?k6 ?k7 ?k8
  case k0 => exact K
  case k1 => k_is
  case k2 => k_is
  case k3 => exact BindsTo.of_eq rfl
  case k4 => exact rfl
  case k5 => decide
  case k6 => exact rfl
  case k7 => exact rfl
  case k8 => exact rfl
  clear Y k
  intro L h₁ tk0 cells Y Hg F N Yc hlt R'
  change Lay w mg mb (hideAll s.heap [l]) at Y
  change Hid s.heap (hideAll s.heap [l]) [l] at Hg
  change Fr (hideAll s.heap [l]) L h₁ _ at F
  change News (hideAll s.heap [l]) L h₁ _ at N
  generalize hideAll s.heap [l] = g at Y Hg F N
  clear K
  k_cells Yc
  have X := Y.X
  have T := Y.T
  refine wpX.of ?_
  show wpAny _ _ _ _ _ _
  k_fold
  rename_i o1 o2 d1 d2
  have Hq : QAt prog w g q := by
    obtain ⟨qs, i, kq⟩ := H
    refine ⟨qs, i, fun p hp => Hg.get _ _ (kq p hp) fun hm => hlq ?_⟩
    rw [← List.mem_singleton.mp hm, ← i.addrs]; exact List.mem_map_of_mem hp
  clear H
  repeat' ((fail_if_success (first | (with_reducible show Exists _) | (with_reducible show wpAny _ _ (exec (Stmt.If _ _ _ _) _) _ _ _) | (with_reducible show wpAny _ _ (exec (Stmt.While _ _ _ _) _) _ _ _) | (with_reducible show wpAny _ _ (exec (Stmt.For _ _ _ _ _) _) _ _ _) | (with_reducible show wpAny _ _ (eval (Expr.ListComp _ _ _ _) _) _ _ _))); first | (k_unfold; (try dsimp only)) | walk1 | (dsimp only; walk1))
  repeat' ((fail_if_success (first | (with_reducible show Exists _) | (with_reducible show wpAny _ _ (exec (Stmt.While _ _ _ _) _) _ _ _) | (with_reducible show wpAny _ _ (exec (Stmt.For _ _ _ _ _) _) _ _ _) | (with_reducible show wpAny _ _ (eval (Expr.ListComp _ _ _ _) _) _ _ _))); first | (k_unfold; (try dsimp only)) | walk1 | (dsimp only; walk1))
  rename_i r5 vs5 ns5 c5 h5 tk5 F5 N5 hI5 hP5 hW5
  have a1 := N5 (L + 1 + 1, o1) (by walk_at "my mem")
  have a2 := N5 (L + 1, o2) (by walk_at "my mem")
  have a3 := N5 (l, _) (by walk_at "my mem")
  have a4 := N5 (r5, _) (.head _)
  dsimp only at a1 a2 a3 a4
  have ncell : ∀ {a : Addr} {us : List Value} {n : Nat}, h5.get? a = some (W.listOf (List.toArray us) n) → a ≠ L + 1 + 1 := fun e q => by
    rw [q, a1.1] at e; cases e; cases d1
  refine wpAny_storeName_cell (c := L + 1 + 1) rfl rfl rfl ⟨_, a1.1, d1⟩ fun h6 hc6 hs6 => ?_
  obtain ⟨o3, b1, d3⟩ := hc6
  have F6 := F5.change hs6 a1.2.1 a1.2.2
  have N6 : News g L h6 [(r5, W.listOf (List.toArray vs5) c5), (L + 1 + 1, o3), (L + 1, o2), (l, W.listOf (List.toArray vs) c)] := by
    intro p hp
    rcases List.mem_cons.mp hp with rfl | hp
    · exact ⟨hs6.extBut _ _ (ncell a4.1) a4.1, a4.2⟩
    rcases List.mem_cons.mp hp with rfl | hp
    · exact ⟨b1, a1.2⟩
    rcases List.mem_cons.mp hp with rfl | hp
    · exact ⟨hs6.extBut _ _ (Nat.ne_of_lt (Nat.lt_succ_self _)) a2.1, a2.2⟩
    · rcases List.mem_singleton.mp hp with rfl
      exact ⟨hs6.extBut _ _ (ncell a3.1) a3.1, a3.2⟩
  have hlen : ns5.length = rows.length := by
    have := hP5.length_eq; rw [this, Qd.turnList_length]; have := hr.len; omega
  have hlen2 : vs5.length = ns5.length := hI5.length
  clear N5 F5 a1 a2 a3 a4 ncell
  dsimp only
  repeat' ((fail_if_success (first | (with_reducible show Exists _) | (with_reducible show wpAny _ _ (exec (Stmt.While _ _ _ _) _) _ _ _) | (with_reducible show wpAny _ _ (exec (Stmt.For _ _ _ _ _) _) _ _ _) | (with_reducible show wpAny _ _ (eval (Expr.ListComp _ _ _ _) _) _ _ _))); first | (k_unfold; (try dsimp only)) | walk1 | (dsimp only; walk1))
  · exfalso; omega
  refine wpX.any (my_ListCompF (by intro _; rfl) (by with_unfolding_all rfl) rfl (by decide) (by decide) rfl ?_)
  repeat' ((fail_if_success (first | (with_reducible show Exists _) | (with_reducible show wpAny _ _ (exec (Stmt.While _ _ _ _) _) _ _ _) | (with_reducible show wpAny _ _ (exec (Stmt.For _ _ _ _ _) _) _ _ _) | (with_reducible show wpAny _ _ (eval (Expr.ListComp _ _ _ _) _) _ _ _))); first | (k_unfold; (try dsimp only)) | walk1 | (dsimp only; walk1))
  rename_i h7 tk7 t₁ u₁ v₁ hR F7 N7 k7
  have e1 := N7 _ (.head _)
  have e2 := N7 _ (.tail _ (.head _))
  dsimp only at e1 e2
  refine compObF_range rfl hR (by omega) (by omega) (fun C i ti h tk m hi Fc => ?_) fun D h tk kk hD hDl => ?_
  · have Yg := Y.keeps F7.keep
    have Xg := Yg.X
    have Tg := Yg.T
    have hcell : CellAt h7 _ (.ref r5) := ⟨_, e2.1, d3⟩
    have hpl := e1.1
    have Ng : News h7 C h [] := News.nil
    clear N7 F7 X T Y Hq hR k7 hs6 e1 e2
    refine wpX.of ?_
    dsimp only
    repeat' ((fail_if_success (first | (with_reducible show Exists _) | (with_reducible show wpAny _ _ (exec (Stmt.While _ _ _ _) _) _ _ _) | (with_reducible show wpAny _ _ (exec (Stmt.For _ _ _ _ _) _) _ _ _) | (with_reducible show wpAny _ _ (eval (Expr.ListComp _ _ _ _) _) _ _ _))); first | (k_unfold; (try dsimp only)) | walk1 | (dsimp only; walk1))
    refine item_ns ⟨_, Fc.keep _ _ hpl, rfl, _, rfl⟩ hI5 (by omega) (by omega) (by omega) (fun t1 => ?_) (by with_unfolding_all rfl) (by intro _; with_unfolding_all rfl)
    repeat' ((fail_if_success (first | (with_reducible show Exists _) | (with_reducible show wpAny _ _ (exec (Stmt.While _ _ _ _) _) _ _ _) | (with_reducible show wpAny _ _ (exec (Stmt.For _ _ _ _ _) _) _ _ _) | (with_reducible show wpAny _ _ (eval (Expr.ListComp _ _ _ _) _) _ _ _))); first | (k_unfold; (try dsimp only)) | walk1 | (dsimp only; walk1))
    refine item_ns ⟨_, Fc.keep _ _ hpl, rfl, _, rfl⟩ hI5 (by omega) (by omega) (by omega) (fun t2 => ?_) (by with_unfolding_all rfl) (by intro _; with_unfolding_all rfl)
    repeat' ((fail_if_success (first | (with_reducible show Exists _) | (with_reducible show wpAny _ _ (exec (Stmt.While _ _ _ _) _) _ _ _) | (with_reducible show wpAny _ _ (exec (Stmt.For _ _ _ _ _) _) _ _ _) | (with_reducible show wpAny _ _ (eval (Expr.ListComp _ _ _ _) _) _ _ _))); first | (k_unfold; (try dsimp only)) | walk1 | (dsimp only; walk1))
    all_goals (try dsimp only)
    all_goals first
      | exact ⟨_, _, rfl, fun _ _ e => e⟩
      | (refine decide_eq_false fun hle => ?_
         have key := strict_of hP5 hW5 hq i (by omega)
         rw [show ((i : Int) + 1).toNat = i + 1 by omega, Int.toNat_natCast] at hle
         omega)
  · have F8 := F7.keeps kk
    have N8 := News.add F7 (News.keeps N7 kk) hD hDl
    clear N7 F7 hR k7 hs6 e1 e2 kk hD hDl
    dsimp only
    repeat' ((fail_if_success (first | (with_reducible show Exists _) | (with_reducible show wpAny _ _ (exec (Stmt.While _ _ _ _) _) _ _ _) | (with_reducible show wpAny _ _ (exec (Stmt.For _ _ _ _ _) _) _ _ _) | (with_reducible show wpAny _ _ (eval (Expr.ListComp _ _ _ _) _) _ _ _))); first | (k_unfold; (try dsimp only)) | walk1 | (dsimp only; walk1))
    refine wpX.any (my_ListComp (by intro _; rfl) (by with_unfolding_all rfl) rfl (by decide) (by decide) rfl ?_)
    repeat' ((fail_if_success (first | (with_reducible show Exists _) | (with_reducible show wpAny _ _ (exec (Stmt.While _ _ _ _) _) _ _ _) | (with_reducible show wpAny _ _ (exec (Stmt.For _ _ _ _ _) _) _ _ _) | (with_reducible show wpAny _ _ (eval (Expr.ListComp _ _ _ _) _) _ _ _))); first | (k_unfold; (try dsimp only)) | walk1 | (dsimp only; walk1))
    rename Fr _ _ _ _ => F9
    rename News _ _ _ _ => N9
    have g1 := N9 (r5, _) (by walk_at "my mem")
    have g2 := N9 (L + 1, o2) (by walk_at "my mem")
    dsimp only at g1 g2
    refine compOb_list rfl g1.1 (by rw [hlen2, hlen, sizeLine_eq]; omega) [] (fun _ h => nomatch h) fun I D2 C h8 hI0 hD0 hC0 k3 => ?_
    refine ⟨fun i ys _ => BytesAre ys ((ns5.take i).map (slotB q)), .nil, fun _ _ _ _ h _ => h, ?_, ?_⟩
    · intro i ys v g3 h tk m hv hl3 Hg3 Fc kk hG
      obtain ⟨z, t, rfl, hz⟩ := IntsAre.at hI5 i v hv
      obtain ⟨j, hj⟩ := List.mem_iff_getElem?.mp (hP5.mem_iff.mp (List.mem_of_getElem? hz))
      obtain ⟨a, b, hlk, hb⟩ := hr.turn j z hj
      have sub : ∀ b o, g.get? b = some o → g3.get? b = some o := fun b o e => Hg3.get b o (F9.keep b o e) (fun h => nomatch h)
      have Hq3 := Hq.keeps sub
      have hcg : CellAt g3 _ (.ref q.x) := ⟨_, Hg3.get _ _ g2.1 (fun h => nomatch h), d2⟩
      have Yg := Y.keeps sub
      have Xg := Yg.X
      have Tg := Yg.T
      have Ng : News g3 C h [] := News.nil
      have hzz : b.size ≤ sizeLine := by rw [hq.size hlk, sizeLine_eq]; have := hq.wd1; omega
      clear N9 F9 X T Y Hq g1 g2 k3 kk Hg3
      refine wpX.of ?_
      dsimp only
      repeat' ((fail_if_success (first | (with_reducible show Exists _) | (with_reducible show wpAny _ _ (exec (Stmt.While _ _ _ _) _) _ _ _) | (with_reducible show wpAny _ _ (exec (Stmt.For _ _ _ _ _) _) _ _ _) | (with_reducible show wpAny _ _ (eval (Expr.ListComp _ _ _ _) _) _ _ _))); first | (k_unfold; (try dsimp only)) | walk1 | (dsimp only; walk1))
      refine ⟨h, _, rfl, fun _ _ e _ => e, ?_⟩
      show BytesAre _ _
      have es : slotB q z = b := by unfold slotB; rw [hlk]; rfl
      rw [List.take_add_one, hz, List.map_append]
      show BytesAre _ (_ ++ [slotB q z])
      rw [es]
      exact hG.append (.cons _ _ .nil)
    · intro ys c h tk hl3 hG kk hD
      have F10 := F9.keeps (fun a o e => kk a o e (fun h => nomatch h))
      have N10 := News.add F9 (News.keeps N9 (fun a o e => kk a o e (fun h => nomatch h))) hD0 hD
      have hG' : BytesAre ys (ns5.map (slotB q)) := by rw [List.take_of_length_le (by omega)] at hG; exact hG
      have hp0 := slots_perm hq hr hP5
      clear N9 F9 g1 g2 hD k3 kk hG
      dsimp only
      repeat' ((fail_if_success (first | (with_reducible show Exists _) | (with_reducible show wpAny _ _ (exec (Stmt.While _ _ _ _) _) _ _ _) | (with_reducible show wpAny _ _ (exec (Stmt.For _ _ _ _ _) _) _ _ _) | (with_reducible show wpAny _ _ (eval (Expr.ListComp _ _ _ _) _) _ _ _))); first | (k_unfold; (try dsimp only)) | walk1 | (dsimp only; walk1))
      rename_i vsa ssa ra ha ca hBa hpa hsa vsb ssb rb hb cb hBb hpb hsb F12 N12
      rw [decide_eq_true (SortedB.eq hsa hsb (hpa.trans (hp0.trans hpb.symm)))]
      refine hQ _ _ fun b o e => ?_
      by_cases hc : b = l
      · subst hc; rw [hl] at e; cases e
        exact (N12 (_, _) (by walk_at "my mem")).1
      · exact F12.keep b o (Hg.get b o e (by simp [hc]))
end

theorem kw_f_26 : True := by
  k_with "call ref" => ((with_reducible show wpAny _ _ (call (Value.ref 125) _) _ _ _); k_dflt (refine' c_lookup (by walk_at "my rm") (by walk_at "my lay") (by walk_at "my q") ?_; walk_at "my after"))
  k_with "call ref" => ((with_reducible show wpAny _ _ (call (Value.ref 133) _) _ _ _); k_dflt (refine' c_update (by walk_at "my rm") (by walk_at "my lay") ?_; intro _; walk_at "my after"))
  k_with "call ref" => ((with_reducible show wpAny _ _ (call (Value.ref 154) _) _ _ _); k_dflt (refine' c_delete (by walk_at "my rm") (by walk_at "my lay") ?_; intro _; walk_at "my after"))
  k_with "call ref" => ((with_reducible show wpAny _ _ (call (Value.ref 182) _) _ _ _); k_dflt (refine' c_keys (by walk_at "my rm") (by walk_at "my lay") ?_; intro _; walk_at "my new"))
  k_with "call type:bytes" => ((with_reducible show wpAny _ _ (call (Value.type "bytes") [Value.int _ _]) _ _ _); k_dflt (refine' bytes_of_int (by omega) (by omega) ?_); intro _ _)
  exact trivial
section
variable {prog : Program} {w : World} {A : Around} {E : Value → Shared → Prop} {s : Shared} {mg mb : Str → Option Value} {h₀ : Heap} {L : Addr} {m : Str → Option Value} {q : Qd} {dp un : Nat} {fr : Option (List Env)} {gd : Option (List Code)}
set_option maxHeartbeats 0 in
theorem c_refused {B : Heap} {outer : List Env} {rows : List (Array UInt8)} {tw : Tok} {Q : Value → Shared → Prop} (K : Below (AN dp un fr gd) B outer s.heap) (hBs : B.objs.size ≤ s.heap.objs.size) (R : Rm (AN dp un fr gd) 10) (YB : Lay w mg mb B) (H : QAt prog w s.heap q) (hq : q.Ok) (hr : Holds q rows)
    (hQ : ∀ h' tk, B.StaysIn h' → s.heap.UpToSlots h' → Q (.bool true) { s with heap := h', toks := tk }) :
    wpAny (model prog w) (AN dp un fr gd) (call (.ref 506) [.ref q.x, .int q.wd tw]) Q E s := by
  have Y := YB.keeps K.stays
  refine wpAny_call ?_
  refine' enterA (binds := [(Str.ofString "one", .ref q.x), (Str.ofString "width", .int q.wd tw)]) R Y ?k1 ?k2 ?k3 ?k4 ?_ ?k5 ?k6 ?k7 ?k8
  case k1 => k_is
  case k2 => k_is
  case k3 => exact BindsTo.of_eq rfl
  case k4 => exact locs rfl
  case k5 => decide
  case k6 => exact rfl
  case k7 => exact rfl
  case k8 => exact rfl
  intro L h₁ F N R'
  have X := Y.X
  have T := Y.T
  show wpAny _ _ _ _ _ _
  k_fold
  have hw0 := hq.wd0
  have hw1 := hq.wd1
  have K' := push_of K F R' rfl
  repeat' ((fail_if_success (first | (with_reducible show Exists _) | (with_reducible show wpAny _ _ (exec (Stmt.While _ _ _ _) _) _ _ _) | (with_reducible show wpAny _ _ (exec (Stmt.For _ _ _ _ _) _) _ _ _) | (with_reducible show wpAny _ _ (eval (Expr.ListComp _ _ _ _) _) _ _ _))); first | (k_unfold; (try dsimp only)) | walk1 | (dsimp only; walk1))
  · rename Fr _ _ _ _ => F2
    dsimp only
    exact hQ _ _ (fun b o e => F2.keep _ _ (K.stays _ _ e)) (Heap.UpToSlots.of_keeps F2.keep)
  · rename Fr _ _ _ _ => F2
    have K2 := push_of K F2 R' rfl
    have FB : Fr B L _ _ := ⟨F2.ns, K2.stays, Nat.le_trans hBs F2.above⟩
    refine c_push_bad K2 (Rm.mono R' (by decide)) (Y.keeps F2.keep) (H.keeps F2.keep) ?sz ?lz fun e t h' tk hf up => ?_
    case sz => simp; omega
    case lz => simp; omega
    refine x_caught YB K2.stack FB up hf (fun h6 F6 up6 => ?_) rfl rfl PassesOwnAt.never
    clear hf up
    dsimp only
    repeat' ((fail_if_success (first | (with_reducible show Exists _) | (with_reducible show wpAny _ _ (exec (Stmt.While _ _ _ _) _) _ _ _) | (with_reducible show wpAny _ _ (exec (Stmt.For _ _ _ _ _) _) _ _ _) | (with_reducible show wpAny _ _ (eval (Expr.ListComp _ _ _ _) _) _ _ _))); first | (k_unfold; (try dsimp only)) | walk1 | (dsimp only; walk1))
    dsimp only
    exact hQ _ _ F6.keep ((Heap.UpToSlots.of_keeps F2.keep).trans up6)
end

noncomputable def turnRows (kind : Str) (rows : List (Array UInt8)) : List (Array UInt8) := match (duePop kind rows).1 with
  | none => rows
  | some b => (duePop kind rows).2 ++ [b]
noncomputable def turnN (kind : Str) (rows : List (Array UInt8)) : Nat → List (Array UInt8)
  | 0 => rows
  | n + 1 => turnRows kind (turnN kind rows n)
theorem duePop_none {kind : Str} {rows : List (Array UInt8)} (h : (duePop kind rows).1 = none) : rows = [] ∧ (duePop kind rows).2 = rows := by
  unfold duePop at h ⊢
  by_cases e : rows = []
  · rw [if_pos e]; exact ⟨e, rfl⟩
  · exfalso
    rw [if_neg e] at h
    split at h
    · exact e (List.head?_eq_none_iff.mp h)
    · exact e (List.getLast?_eq_none_iff.mp h)
theorem duePop_length {kind : Str} {rows : List (Array UInt8)} {b : Array UInt8} (h : (duePop kind rows).1 = some b) : (duePop kind rows).2.length + 1 = rows.length := by
  have hne : rows ≠ [] := fun e => by subst e; cases h
  exact (duePop_inTurn hne).choose_spec.2.2
theorem turnRows_length (kind : Str) (rows : List (Array UInt8)) : (turnRows kind rows).length = rows.length := by
  unfold turnRows
  cases h : (duePop kind rows).1 with
  | none => rfl
  | some b => have := duePop_length h; simp only [List.length_append, List.length_singleton]; omega
theorem turnN_length (kind : Str) (rows : List (Array UInt8)) : ∀ n, (turnN kind rows n).length = rows.length
  | 0 => rfl
  | n + 1 => by show (turnRows _ _).length = _; rw [turnRows_length, turnN_length kind rows n]
theorem turnN_nil {kind : Str} {rows : List (Array UInt8)} {n : Nat} : turnN kind rows n = [] ↔ rows = [] := by
  rw [← List.length_eq_zero_iff, ← List.length_eq_zero_iff, turnN_length]
theorem duePop_mem {kind : Str} {rows : List (Array UInt8)} {b : Array UInt8} (h : (duePop kind rows).1 = some b) : b ∈ rows := by
  unfold duePop at h
  split at h
  · cases h
  · split at h
    · exact List.mem_of_head? h
    · exact List.mem_of_getLast? h
theorem Holds.size {q : Qd} (hq : q.Ok) {rows : List (Array UInt8)} (h : Holds q rows) {b : Array UInt8} (hb : b ∈ rows) : b.size = q.wd.toNat := by
  obtain ⟨k, hk⟩ := List.mem_iff_getElem?.mp hb
  obtain ⟨a, ha⟩ := h.2 k b hk
  exact hq.size ha
theorem duePush_room {most : Int} {rows : List (Array UInt8)} {b : Array UInt8} (h : (rows.length : Int) < most) : duePush most rows b 0 = (0, rows ++ [b]) := by
  unfold duePush
  rw [if_neg (by omega), if_neg (by omega), if_neg (by omega)]
section
variable {prog : Program} {w : World} {A : Around} {E : Value → Shared → Prop} {s : Shared} {mg mb : Str → Option Value} {h₀ : Heap} {L : Addr} {m : Str → Option Value} {q : Qd} {dp un : Nat} {fr : Option (List Env)} {gd : Option (List Code)}
set_option maxHeartbeats 0 in
theorem c_turn_round {rows : List (Array UInt8)} {n : Nat} {tn : Tok} {Q : Value → Shared → Prop} {g₀ : Heap} (R : Rm (AN dp un fr gd) 7) (Y : Lay w mg mb g₀) (k : Kp g₀ s.heap) (hg : ∀ a ∈ q.as, g₀.get? a = none) (H : QAt prog w s.heap q) (hq : q.Ok) (hr : Holds q rows) (hn : n ≤ 3)
    (hQ : ∀ q' r vs c h' tk, Mut prog w s.heap h' q q' → q'.Ok → Holds q' (turnN q.kind rows n) → s.heap.get? r = none → h'.get? r = some (W.listOf (List.toArray vs) c) → IntsAre vs (if rows = [] then [] else List.replicate n 0) → Q (.ref r) { s with heap := h', toks := tk }) :
    wpT (model prog w) (AN dp un fr gd) (call (.ref 442) [.ref q.x, .int n tn]) Q E s := by
  obtain ⟨qs, IQ, KQ⟩ := H
  refine wpT_call ?_
  refine' enterX (b := true) (binds := [(Str.ofString "queue", .ref q.x), (Str.ofString "count", .int n tn)]) qs ?k0 R Y k ?k1 ?k2 ?k3 ?k4 ?_ ?k5 ?k6 ?k7 ?k8
  case k0 => exact fun p hp => ⟨KQ p hp, hg _ (IQ.addrs ▸ List.mem_map_of_mem hp)⟩
  case k1 => k_is
  case k2 => k_is
  case k3 => exact BindsTo.of_eq rfl
  case k4 => exact locs rfl
  case k5 => decide
  case k6 => exact rfl
  case k7 => exact rfl
  case k8 => exact rfl
  clear Y k
  rw [IQ.addrs]
  intro L h₁ Y Hg F N R'
  generalize hideAll s.heap q.as = g at Y Hg F N
  clear KQ
  have X := Y.X
  have T := Y.T
  refine wpX_execs_cons (wpX.of ?_)
  repeat' ((fail_if_success (first | (with_reducible show Exists _) | (with_reducible show wpAny _ _ (exec (Stmt.While _ _ _ _) _) _ _ _) | (with_reducible show wpAny _ _ (exec (Stmt.For _ _ _ _ _) _) _ _ _) | (with_reducible show wpAny _ _ (eval (Expr.ListComp _ _ _ _) _) _ _ _))); first | (k_unfold; (try dsimp only)) | walk1 | (dsimp only; walk1))
  refine wpX_execs_cons ?_
  refine my_For (wpX.of ?_)
  repeat' ((fail_if_success (first | (with_reducible show Exists _) | (with_reducible show wpAny _ _ (exec (Stmt.While _ _ _ _) _) _ _ _) | (with_reducible show wpAny _ _ (exec (Stmt.For _ _ _ _ _) _) _ _ _) | (with_reducible show wpAny _ _ (eval (Expr.ListComp _ _ _ _) _) _ _ _))); first | (k_unfold; (try dsimp only)) | walk1 | (dsimp only; walk1))
  rename_i l h0 l1 h1 F1 N1 h2 tk2 t₁ u₁ v₁ hR F2 N2 k2
  have hl : l ∉ q.as := fun hm => by
    rw [← IQ.addrs] at hm
    obtain ⟨p, hp, e⟩ := List.mem_map.mp hm
    have := l1 p hp
    rw [e] at this; exact Nat.lt_irrefl _ this
  clear F1 N1 k2
  refine range_loop hR (by omega) rfl (fun i s' => (Ex7 fun h tk m' q1 qs1 vs c => All13 (s' = { s with heap := h, toks := tk }) (Fr g L h m') (m' (Str.ofString "found") = some (.ref l)) (m' (Str.ofString "queue") = some (.ref q1.x)) (IsQ prog w q1 qs1) (News g L h ((h2.objs.size, riter n i) :: (l, W.listOf (List.toArray vs) c) :: qs1)) (h2.objs.size ≠ l) (h2.objs.size ∉ q1.as) (l ∉ q1.as) (q1.Ok) (Holds q1 (turnN q.kind rows i)) ((q1.x = q.x ∧ q1.kind = q.kind ∧ q1.wd = q.wd ∧ q1.most = q.most)) (IntsAre vs (if rows = [] then [] else List.replicate i 0)))) ?init ?hst ?turn ?done
  case init =>
    refine ⟨h2.push (riter n 0), _, _, q, qs, [], 0, rfl, F2.push _, rfl, rfl, IQ, N2.push F2 _, fun e => ?_, fun hm => ?_, hl, hq, hr, ⟨rfl, rfl, rfl, rfl⟩, ?_⟩
    · have := Heap.lt_size (N2 _ (.head _)).1
      dsimp only at this
      rw [← e] at this; exact Nat.lt_irrefl _ this
    · rw [← IQ.addrs] at hm
      obtain ⟨p, hp, e⟩ := List.mem_map.mp hm
      have := Heap.lt_size (N2 _ (.tail _ hp)).1
      rw [e] at this; exact Nat.lt_irrefl _ this
    · split <;> exact .nil
  case hst =>
    rintro i s' ⟨h, tk, m', q1, qs1, vs, c, rfl, F, hm1, hm2, I1, N, hne, hI, hl1, hq1, hr1, st, hi⟩
    exact (N _ (.head _)).1
  case done =>
    rintro s₁ h' tk' ⟨h, tk, m', q1, qs1, vs, c, rfl, F, hm1, hm2, I1, N, hne, hI, hl1, hq1, hr1, st, hi⟩ hk
    obtain ⟨F5, N5⟩ := iter_end F N (fun p hp e => by
      rcases List.mem_cons.mp hp with rfl | hp
      · exact hne e.symm
      · exact hI (by rw [← I1.addrs, ← e]; exact List.mem_map_of_mem hp)) hk
    clear F N F2 N2 hR l1
    dsimp only
    refine wpX.of ?_
    repeat' ((fail_if_success (first | (with_reducible show Exists _) | (with_reducible show wpAny _ _ (exec (Stmt.While _ _ _ _) _) _ _ _) | (with_reducible show wpAny _ _ (exec (Stmt.For _ _ _ _ _) _) _ _ _) | (with_reducible show wpAny _ _ (eval (Expr.ListComp _ _ _ _) _) _ _ _))); first | (k_unfold; (try dsimp only)) | walk1 | (dsimp only; walk1))
    exact hQ q1 l vs c _ _ (Mut.of_news F5 I1 (News.mono N5 fun p hp => .tail _ hp) hq1.ad Hg st) hq1 hr1 (by
      cases e : s.heap.get? l with
      | none => rfl
      | some o => have := Hg.get l o e hl; rw [(N5 (l, _) (.head _)).2.2] at this; cases this) (N5 _ (.head _)).1 hi
  case turn =>
    rintro i t s₁ h' tk' hin ⟨h, tk, m', q1, qs1, vs, c, rfl, F, hm1, hm2, I1, N, hne, hI, hl1, hq1, hr1, st, hi⟩ hI' hk
    obtain ⟨F5, N5⟩ := iter_step F N (fun p hp e => by
      rcases List.mem_cons.mp hp with rfl | hp
      · exact hne e.symm
      · exact hI (by rw [← I1.addrs, ← e]; exact List.mem_map_of_mem hp)) hk hI'
    clear F N F2 N2 hR l1
    dsimp only
    repeat' ((fail_if_success (first | (with_reducible show Exists _) | (with_reducible show wpAny _ _ (exec (Stmt.While _ _ _ _) _) _ _ _) | (with_reducible show wpAny _ _ (exec (Stmt.For _ _ _ _ _) _) _ _ _) | (with_reducible show wpAny _ _ (eval (Expr.ListComp _ _ _ _) _) _ _ _))); first | (k_unfold; (try dsimp only)) | walk1 | (dsimp only; walk1))
    rename Fr _ _ _ _ => F6
    obtain ⟨m2, F6', hm1', hm2'⟩ : ∃ m2, Fr g L _ m2 ∧ m2 (Str.ofString "found") = some (.ref l) ∧ m2 (Str.ofString "queue") = some (.ref q1.x) :=
      ⟨_, F6, (if_neg (by decide +kernel)).trans hm1, (if_neg (by decide +kernel)).trans hm2⟩
    clear F6 hm1 hm2
    refine wpX_execs_cons (wpX.of ?_)
    repeat' ((fail_if_success (first | (with_reducible show Exists _) | (with_reducible show wpAny _ _ (exec (Stmt.While _ _ _ _) _) _ _ _) | (with_reducible show wpAny _ _ (exec (Stmt.For _ _ _ _ _) _) _ _ _) | (with_reducible show wpAny _ _ (eval (Expr.ListComp _ _ _ _) _) _ _ _))); first | (k_unfold; (try dsimp only)) | walk1 | (dsimp only; walk1))
    rename News _ _ _ _ => N7
    rename Fr _ _ _ _ => F7
    have ap1 : ∀ p ∈ [(h2.objs.size, riter n (i + 1)), (l, W.listOf (List.toArray vs) c)], p.1 ∉ q1.as := fun p hp => by
      rcases List.mem_cons.mp hp with rfl | hp
      · exact hI
      · rcases List.mem_singleton.mp hp with rfl; exact hl1
    refine c_pop (g₀ := g) (Rm.mono R' (by decide)) Y F7.keep (fun a ha => (Own.of_hid I1 (News.mono N7 fun p hp => .tail _ (.tail _ hp)) hq1.ad).ng a ha) (QAt.of_news I1 N7 fun _ h => .tail _ (.tail _ h)) hq1 hr1 fun q2 v h4 tk4 M2 ok2 hr2 hv => ?_
    obtain ⟨F8, qs2, I2, N8, ap8⟩ := Mut.newsP (pre := [(h2.objs.size, riter n (i + 1)), (l, W.listOf (List.toArray vs) c)]) M2 F7 N7 I1 hq1.ad ap1
    have hm2q : m2 (Str.ofString "queue") = some (.ref q2.x) := by rw [M2.x]; exact hm2'
    have sx : q2.x = q.x ∧ q2.kind = q.kind ∧ q2.wd = q.wd ∧ q2.most = q.most := ⟨M2.x.trans st.1, M2.kind.trans st.2.1, M2.wd.trans st.2.2.1, M2.most.trans st.2.2.2⟩
    clear F7 N7 hm2'
    rw [st.2.1] at hv hr2
    dsimp only
    cases hd : (duePop q.kind (turnN q.kind rows i)).1 with
    | none =>
      rw [hd] at hv
      cases hv
      obtain ⟨z1, z2⟩ := duePop_none hd
      rw [z2] at hr2
      have hr0 := turnN_nil.mp z1
      have e1 : turnN q.kind rows (i + 1) = turnN q.kind rows i := by show turnRows _ _ = _; unfold turnRows; rw [hd]
      repeat' ((fail_if_success (first | (with_reducible show Exists _) | (with_reducible show wpAny _ _ (exec (Stmt.While _ _ _ _) _) _ _ _) | (with_reducible show wpAny _ _ (exec (Stmt.For _ _ _ _ _) _) _ _ _) | (with_reducible show wpAny _ _ (eval (Expr.ListComp _ _ _ _) _) _ _ _))); first | (k_unfold; (try dsimp only)) | walk1 | (dsimp only; walk1))
      refine wpX_execs_cons (wpX_If (wpX.of ?_))
      repeat' ((fail_if_success (first | (with_reducible show Exists _) | (with_reducible show wpAny _ _ (exec (Stmt.While _ _ _ _) _) _ _ _) | (with_reducible show wpAny _ _ (exec (Stmt.For _ _ _ _ _) _) _ _ _) | (with_reducible show wpAny _ _ (eval (Expr.ListComp _ _ _ _) _) _ _ _))); first | (k_unfold; (try dsimp only)) | walk1 | (dsimp only; walk1))
      rename Fr _ _ _ _ => F9
      rename News _ _ _ _ => N9
      refine wpX_execs_nil ?_
      dsimp only
      refine wpX_execs_nil ?_
      refine ⟨_, _, _, q2, qs2, vs, c, rfl, F9, (if_neg (by decide +kernel)).trans hm1', (if_neg (by decide +kernel)).trans hm2q, I2, N9, hne, ap8 _ (.head _), ap8 _ (.tail _ (.head _)), ok2, by rw [e1]; exact hr2, sx, ?_⟩
      rw [if_pos hr0] at hi ⊢
      exact hi
    | some b =>
      rw [hd] at hv
      obtain ⟨tv, rfl⟩ := hv
      have hr0 : rows ≠ [] := fun e => by rw [turnN_nil.mpr e] at hd; cases hd
      have e1 : turnN q.kind rows (i + 1) = (duePop q.kind (turnN q.kind rows i)).2 ++ [b] := by show turnRows _ _ = _; unfold turnRows; rw [hd]
      repeat' ((fail_if_success (first | (with_reducible show Exists _) | (with_reducible show wpAny _ _ (exec (Stmt.While _ _ _ _) _) _ _ _) | (with_reducible show wpAny _ _ (exec (Stmt.For _ _ _ _ _) _) _ _ _) | (with_reducible show wpAny _ _ (eval (Expr.ListComp _ _ _ _) _) _ _ _))); first | (k_unfold; (try dsimp only)) | walk1 | (dsimp only; walk1))
      refine wpX_execs_cons (wpX_If (wpX.of ?_))
      repeat' ((fail_if_success (first | (with_reducible show Exists _) | (with_reducible show wpAny _ _ (exec (Stmt.While _ _ _ _) _) _ _ _) | (with_reducible show wpAny _ _ (exec (Stmt.For _ _ _ _ _) _) _ _ _) | (with_reducible show wpAny _ _ (eval (Expr.ListComp _ _ _ _) _) _ _ _))); first | (k_unfold; (try dsimp only)) | walk1 | (dsimp only; walk1))
      rename Fr _ _ _ _ => F9
      obtain ⟨m3, F10, n1, n2, n3⟩ : ∃ m3, Fr g L _ m3 ∧ m3 (Str.ofString "found") = some (.ref l) ∧ m3 (Str.ofString "queue") = some (.ref q2.x) ∧ m3 (Str.ofString "octets") = some (.bytes b tv) :=
        ⟨_, F9, (if_neg (by decide +kernel)).trans hm1', (if_neg (by decide +kernel)).trans hm2q, if_pos rfl⟩
      clear F9 hm1' hm2q
      refine wpX_execs_cons (wpX_Expr (wpX_CallMeth ?_))
      repeat' ((fail_if_success (first | (with_reducible show Exists _) | (with_reducible show wpAny _ _ (exec (Stmt.While _ _ _ _) _) _ _ _) | (with_reducible show wpAny _ _ (exec (Stmt.For _ _ _ _ _) _) _ _ _) | (with_reducible show wpAny _ _ (eval (Expr.ListComp _ _ _ _) _) _ _ _))); first | (k_unfold; (try dsimp only)) | walk1 | (dsimp only; walk1))
      dsimp only
      refine wpX_callWith_arg rfl (wpX_CallMeth ?_)
      repeat' ((fail_if_success (first | (with_reducible show Exists _) | (with_reducible show wpAny _ _ (exec (Stmt.While _ _ _ _) _) _ _ _) | (with_reducible show wpAny _ _ (exec (Stmt.For _ _ _ _ _) _) _ _ _) | (with_reducible show wpAny _ _ (eval (Expr.ListComp _ _ _ _) _) _ _ _))); first | (k_unfold; (try dsimp only)) | walk1 | (dsimp only; walk1))
      dsimp only
      refine wpX_callWith_K X (by k_is) ?_
      repeat' ((fail_if_success (first | (with_reducible show Exists _) | (with_reducible show wpAny _ _ (exec (Stmt.While _ _ _ _) _) _ _ _) | (with_reducible show wpAny _ _ (exec (Stmt.For _ _ _ _ _) _) _ _ _) | (with_reducible show wpAny _ _ (eval (Expr.ListComp _ _ _ _) _) _ _ _))); first | (k_unfold; (try dsimp only)) | walk1 | (dsimp only; walk1))
      have hbs : b.size = q2.wd.toNat := by rw [M2.wd]; exact hr1.size hq1 (duePop_mem hd)
      have hln := duePop_length hd
      have hroom : (((duePop q.kind (turnN q.kind rows i)).2.length : Nat) : Int) < q2.most := by
        have h1 := hr1.1; have h2 := Qd.cnt_le hq1; have h3 := M2.most
        rw [h3]; omega
      rename Fr _ _ _ _ => F11
      rename News _ _ _ _ => N11
      refine c_push (g₀ := g) (Rm.mono R' (by decide)) Y F11.keep (fun a ha => (Own.of_hid I2 (News.mono N11 fun p hp => .tail _ (.tail _ hp)) ok2.ad).ng a ha) (QAt.of_news I2 N11 fun _ h => .tail _ (.tail _ h)) ok2 hr2 hbs fun q3 t3 h5 tk5 M3 ok3 hr3 => ?_
      rw [duePush_room hroom] at hr3 ⊢
      obtain ⟨F12, qs3, I3, N12, ap12⟩ := Mut.newsP (pre := [(h2.objs.size, riter n (i + 1)), (l, W.listOf (List.toArray vs) c)]) M3 F11 N11 I2 ok2.ad ap8
      have hl3 := ap12 _ (.tail _ (.head _))
      have N14 : News g L h5 ((h2.objs.size, riter n (i + 1)) :: (l, W.listOf (List.toArray vs) c) :: qs3) := N12
      clear N12
      have hvl : vs.length ≤ 3 := by rw [hi.length, if_neg hr0, List.length_replicate]; omega
      clear F11 N11
      dsimp only
      refine wpX.of ?_
      refine' append_K ?k1 ?k2 ?k3 ?_ ?z
      case k1 => exact F12
      case k2 => exact N14
      case k3 => exact Upd.tail hne (Upd.head (I3.apart hl3))
      case z => rw [List.size_toArray, sizeLine_eq]; omega
      intro h6 F13 N13
      dsimp only
      refine wpAny_pure ?_
      dsimp only
      refine wpX_execs_nil ?_
      dsimp only
      refine wpX_execs_nil ?_
      refine ⟨_, _, _, q3, qs3, vs ++ [.int 0 t3], c + 1, rfl, F13, n1, by rw [M3.x]; exact n2, I3, by simpa only [List.push_toArray] using N13, hne, ap12 _ (.head _), hl3, ok3, by rw [e1]; exact hr3, ⟨M3.x.trans sx.1, M3.kind.trans sx.2.1, M3.wd.trans sx.2.2.1, M3.most.trans sx.2.2.2⟩, ?_⟩
      rw [if_neg hr0] at hi ⊢
      rw [List.replicate_succ']
      exact hi.append (.cons _ _ .nil)
end

section
variable {b : Bool} {prog : Program} {w : World} {A : Around} {E : Value → Shared → Prop} {s : Shared} {env : Env}
/-- what a comprehension over a walk wants: as is what its elements may write, G what holds of the items so far -/
noncomputable def CompObW (b : Bool) (prog : Program) (w : World) (A : Around) (env : Env) (scope : Scope) (cl : List (Str × Addr)) (x : Str) (elt : PySem.Expr) (Q : Value → Shared → Prop) (s₁ : Shared) (it : Value) (s₂ : Shared) : Prop :=
  (Ex7 fun (I : Addr) (fp : List Addr) (wr : List Addr) (n : Nat) (P : Nat → Value → Prop) (St : Nat → Heap → Prop) (as : List Addr) => All10 (it = .ref I) (Walks prog w A I fp wr n P St) ((∀ a ∈ fp, a < s₂.heap.objs.size)) (St 0 s₂.heap) (n ≤ sizeLine) ((∀ a ∈ wr, s₁.heap.get? a = none)) ((∀ a ∈ as, (s₁.heap.get? a).isSome = true ∧ a ∉ fp)) ((∀ a o, s₁.heap.get? a = some o → s₂.heap.get? a = some o)) (s₁.heap.objs.size ≤ s₂.heap.objs.size) (∀ (D C : Addr) (h₃ : Heap), s₂.heap.objs.size ≤ D → s₂.heap.objs.size ≤ C → D ≠ C → (∀ a o, s₂.heap.get? a = some o → h₃.get? a = some o) →
      ∃ G : Nat → List Value → Heap → Prop, G 0 [] h₃ ∧ (∀ i ys h h', G i ys h → (∀ a o, a ≠ C → a ≠ D → a ∉ wr → h.get? a = some o → h'.get? a = some o) → G i ys h') ∧ (∀ i ys v g h tk (m : Str → Option Value), i < n → ys.length = i → P i v → Hid s₁.heap g as → Fr g C h (fun y => if y = x then some v else m y) → (∀ a o, s₁.heap.get? a = some o → a ∉ as → h.get? a = some o) → G i ys h → St (i + 1) h → (∃ c, h.get? D = some (PySem.W.listOf (List.toArray ys) c)) →
          wpX b (model prog w) A (eval elt (compEnvC scope cl C env)) (fun y s' => ∃ h' tk', s' = { s₂ with heap := h', toks := tk' } ∧ (∀ a o, h.get? a = some o → (a = D ∨ a = C ∨ a ∈ fp ∨ ((s₁.heap.get? a).isSome = true ∧ a ∉ as)) → h'.get? a = some o) ∧ G (i + 1) (ys ++ [y]) h') (fun _ _ => False) { s₂ with heap := h, toks := tk }) ∧ (∀ ys c h tk, ys.length = n → G n ys h → (∀ a o, s₁.heap.get? a = some o → a ∉ as → h.get? a = some o) → h.get? D = some (PySem.W.listOf (List.toArray ys) c) → Q (.ref D) { s₂ with heap := h, toks := tk })))

theorem my_ListCompW {x : Str} {px : Pos} {elt iter : PySem.Expr} {scope : Scope} {pos : Pos} {cl : List (Str × Addr)} {Q : Value → Shared → Prop}
    (hs : ∀ v, foldedSetIterable iter env v = pure v) (hclos : closureFor scope env = pure cl) (hkind : scope.kind = .function) (hcell : ∀ y ∈ scope.names, y.2 ≠ .cell)
    (hnames : ∀ y ∈ scope.names, y.2 = .local → scope.names.lookup y.1 = some .local) (hx : scope.names.lookup x = some .local)
    (h : wpAny (model prog w) A (eval iter env) (fun xv s₁ => wpAny (model prog w) A (pyIter xv) (CompObW b prog w A env scope cl x elt Q s₁) E s₁) E s) :
    wpX b (model prog w) A (eval (.ListComp elt [⟨.Name x px, iter, [], 0⟩] scope pos) env) Q E s := by
  rw [arm_eval_ListComp]
  show wpX b _ _ (comprehension _ scope env _ (newList []) false (eval iter env)) _ _ _
  unfold comprehension
  rw [hclos]
  refine wpT_bind (wpX.of (wpAny_mono h (fun xv s₁ h₁ => ?_) fun _ _ e => e))
  refine wpT_bind (wpX.of (wpAny_standAt ?_))
  refine wpT_bind ?_
  show wpX b _ _ (foldedSetIterable iter env xv) _ _ _
  rw [hs]
  refine wpT_pure ?_
  refine wpT_bind (wpT_holding (wpX.of (wpAny_mono h₁ (fun it s₂ h₂ => ?_) fun _ _ e => e)))
  obtain ⟨I, fp, wr, n, P, St, as, rfl, Wk, hfp, hS0, hsz, hwr, has, k12, z12, h₂⟩ := h₂
  refine wpT_false rfl ?_
  refine wpT_bind (wpX.of (wpAny_newObj_type ?_ (Nat.zero_le _)))
  refine wpT_bind (wpT_pure ?_)
  refine wpT_bind (wpX.of (wpAny_newFunctionEnv hcell (fun _ hx => nomatch hx) (fun h₃ hns hsb => ?_) hkind))
  have hv : ∀ y ∈ (scope.names.filter fun y => (y.2 == .local || y.2 == .cell) && y.1 != (".0" : Str)).reverse, y.2 = .local →
      Env.kindOf (compEnvC scope cl (s₂.heap.push { cls := .type "list", data := .seq #[] }).objs.size env) y.1 = some .local := fun y hy hl => lookup_relabel_local (hnames y (List.mem_filter.mp (List.mem_reverse.mp hy)).1 hl)
  have eC : (s₂.heap.push { cls := .type "list", data := .seq #[] }).objs.size = s₂.heap.objs.size + 1 := Heap.size_push _ _
  have k23 : ∀ a o, s₂.heap.get? a = some o → h₃.get? a = some o := fun a o e => hsb.extBut a o (by rw [eC]; exact Nat.ne_of_lt (Nat.lt_succ_of_lt (Heap.lt_size e))) (Heap.get?_push_of_some _ (Heap.get?_push_of_some _ e))
  have hD3 : h₃.get? s₂.heap.objs.size = some (PySem.W.listOf (List.toArray []) 0) := hsb.extBut _ _ (by rw [eC]; exact Nat.ne_of_lt (Nat.lt_succ_self _)) (Heap.get?_push_of_some _ (Heap.get?_push_size _ rfl))
  obtain ⟨G, hG0, hGs, turn, done⟩ := h₂ s₂.heap.objs.size (s₂.heap.push { cls := .type "list", data := .seq #[] }).objs.size h₃ (Nat.le_refl _) (by rw [eC]; exact Nat.le_succ _) (by rw [eC]; exact Nat.ne_of_lt (Nat.lt_succ_self _)) k23
  generalize eCC : (s₂.heap.push { cls := .type "list", data := .seq #[] }).objs.size = C at *
  generalize eDD : s₂.heap.objs.size = D at *
  have hDC : D ≠ C := by omega
  have asD : D ∉ as := fun h => by
    obtain ⟨o, ho⟩ := Option.isSome_iff_exists.mp (has _ h).1
    have := ltSz (k12 _ _ ho); omega
  have asC : C ∉ as := fun h => by
    obtain ⟨o, ho⟩ := Option.isSome_iff_exists.mp (has _ h).1
    have := ltSz (k12 _ _ ho); omega
  have fpD : D ∉ fp := fun h => by have : @LT.lt Nat _ D D := hfp _ h; omega
  have fpC : C ∉ fp := fun h => by have : @LT.lt Nat _ C D := hfp _ h; omega
  have ltOf : ∀ (a : Nat) o, s₁.heap.get? a = some o → @LT.lt Nat _ a D := fun a o e => by have := ltSz (k12 _ _ e); omega
  dsimp only
  refine wpT_holding (wpT_bind (wpT_attempt (wpT_holding (wpT_run (h := none) ?_ nofun))))
  refine codeT_mono (A := A) (R := fun r s' => (Ex5 fun ys c h₄ tk₄ m₄ => All7 (r = .ok .next) (s' = { s₂ with heap := h₄, toks := tk₄ }) (ys.length = n) (G n ys h₄) ((∀ a o, s₁.heap.get? a = some o → a ∉ as → h₄.get? a = some o)) (h₄.get? D = some (PySem.W.listOf (List.toArray ys) c)) (h₄.Ns C m₄))) ?_ fun r s' hr => ?_
  · refine codeT_of_tree rfl ?_
    rw [Around.under_of_weight rfl]
    show wpX b _ A ((compStart _ 0 (.ref I) (.ref D) _).onRaise _) _ _ _
    refine wpT_onRaise ?_
    unfold compStart
    refine wpT_false rfl ?_
    refine wpT_bind (wpX.of (wpAny_askSetting ?_))
    have loop : ∀ tk, codeX b (model prog w) A (.compLoop (.ListComp elt [⟨.Name x px, iter, [], 0⟩] scope pos) 0 (.ref I) (.ref D) (compEnvC scope cl C env)) (fun r s' => (Ex5 fun ys c h₄ tk₄ m₄ => All7 (r = .ok .next) (s' = { s₂ with heap := h₄, toks := tk₄ }) (ys.length = n) (G n ys h₄) ((∀ a o, s₁.heap.get? a = some o → a ∉ as → h₄.get? a = some o)) (h₄.get? D = some (PySem.W.listOf (List.toArray ys) c)) (h₄.Ns C m₄))) { s₂ with heap := h₃, toks := tk } := by
      intro tk
      refine codeX_comp (C := C) (D := D) Wk (fun i ys s => (Ex2 fun h tk => All5 (s = { s₂ with heap := h, toks := tk }) (St i h) ((∀ a o, s₁.heap.get? a = some o → a ∉ as → h.get? a = some o)) (G i ys h) (ys.length = i))) rfl
        (by show (relabel scope env).names.lookup x = some .local; exact lookup_relabel_local hx) (by show (scope.kind == .class || (scope.kind == .module && _)) = false; rw [hkind]; rfl) hDC (fun h => fpD (Wk.sub _ h)) (fun h => fpC (Wk.sub _ h)) hsz fpC ?_ ?_ ?_ ?_ n 0 _ [] 0 _ rfl (Nat.zero_le _) rfl ⟨h₃, tk, rfl, ?_, fun a o e _ => k23 _ _ (k12 _ _ e), hG0, rfl⟩ hD3 hns
      · rintro i ys s ⟨h, tk, rfl, hS, _⟩; exact hS
      · rintro i ys s h' tk' ⟨h, tk, rfl, hS, hk, hG, hl⟩ hk'
        refine ⟨h', tk', rfl, Wk.frame _ _ _ hS fun a ha o e => hk' a o (fun e' => fpC (e' ▸ ha)) (fun e' => fpD (e' ▸ ha)) e, fun a o e na => hk' a o (Nat.ne_of_lt (Nat.lt_trans (ltOf _ _ e) (by omega))) (Nat.ne_of_lt (ltOf _ _ e)) (hk a o e na), hGs _ _ _ _ hG fun a o h1 h2 _ e => hk' a o h1 h2 e, hl⟩
      · rintro i ys v s' h' tk' m hi ⟨h, tk, rfl, hS, hk, hG, hl⟩ hP hS' hk' hN ⟨c, hDc⟩
        have hkk : ∀ a o, s₁.heap.get? a = some o → a ∉ as → h'.get? a = some o := fun a o e na => hk' a o (fun e' => by rw [hwr _ e'] at e; cases e) (Nat.ne_of_lt (Nat.lt_trans (ltOf _ _ e) (by omega))) (hk a o e na)
        have Hg := Hid.of s₁.heap as
        refine wpT_mono (turn i ys v _ h' tk' m hi hl hP Hg ⟨hN, fun a o e => hkk a o (Hg.sub _ _ e) (fun q => by rw [Hg.none _ q] at e; cases e), by rw [Hg.size]; omega⟩ hkk (hGs _ _ _ _ hG fun a o h1 h2 h3 e => hk' a o h3 h1 e) hS' ⟨c, hDc⟩) (fun y s'' hy => ?_) fun _ _ e => e
        obtain ⟨h'', tk'', rfl, hk'', hG''⟩ := hy
        refine ⟨⟨h'', tk'', rfl, Wk.frame _ _ _ hS' fun a ha o e => hk'' a o e (.inr (.inr (.inl ha))), fun a o e na => hk'' a o (hkk a o e na) (.inr (.inr (.inr ⟨by rw [e]; rfl, na⟩))), hG'', by simp [hl]⟩, ?_, ⟨_, hN.at' fun o e => hk'' _ _ e (.inr (.inl rfl))⟩⟩
        rw [hDc]; exact hk'' _ _ hDc (.inl rfl)
      · rintro ys c s' h' tk' m ⟨h, tk, rfl, hS, hk, hG, _⟩ hl hk' hD' hN'
        refine ⟨ys, c, h', tk', m, rfl, rfl, hl, hGs _ _ _ _ hG fun a o _ _ h3 e => hk' a o h3 e, fun a o e na => hk' a o (fun e' => by rw [hwr _ e'] at e; cases e) (hk a o e na), hD', hN'⟩
      · exact Wk.frame _ _ _ hS0 fun a _ o e => k23 a o e
    refine wpT_ite ?_
    split
    · exact wpT_bind (wpT_pure (wpT_pure ⟨rfl, loop _⟩))
    · refine wpT_bind (wpX.of (wpAny_rule ?_))
      show wpX b _ A (standAt _ >>= fun _ => pyIter (.ref I) >>= _) _ _ _
      refine wpT_bind (wpX.of (wpAny_standAt ?_))
      refine wpT_bind (wpX.of (Wk.self 0 _ _ _ (Wk.frame _ _ _ hS0 fun a _ o e => k23 a o e) ?_))
      exact wpT_pure ⟨rfl, loop _⟩
  · obtain ⟨ys, c, h₄, tk₄, m₄, rfl, rfl, hl, hG, hk, hD, hN⟩ := hr
    refine wpT_bind (wpT_holding (wpX.of (wpAny_comp_letGo (cenv := compEnvC scope cl _ env) hkind _ _ m₄ hv hN fun h₅ m₅ _ hs₅ => ?_)))
    refine wpT_pure (done ys c h₅ tk₄ hl ?_ ?_ ?_)
    · exact hGs _ _ _ _ hG fun a o h1 _ _ e => hs₅.extBut a o h1 e
    · exact fun a o e na => hs₅.extBut a o (show a ≠ C from Nat.ne_of_lt (Nat.lt_trans (ltOf _ _ e) (by omega))) (hk a o e na)
    · exact hs₅.extBut _ _ hDC hD

theorem compOb_listW {x : Str} {elt : PySem.Expr} {scope : Scope} {cl : List (Str × Addr)} {Q : Value → Shared → Prop} {l : Addr} {vs : List Value} {c : Nat} (hh : A.handled = none) (hl : s.heap.get? l = some (PySem.W.listOf (List.toArray vs) c)) (hz : vs.length ≤ sizeLine)
    (as : List Addr) (has : ∀ a ∈ as, (s.heap.get? a).isSome = true ∧ a ≠ l)
    (h : ∀ (I D C : Addr) (h₃ : Heap), s.heap.get? I = none → s.heap.get? D = none → s.heap.get? C = none → (∀ a o, s.heap.get? a = some o → h₃.get? a = some o) →
      ∃ G : Nat → List Value → Heap → Prop, G 0 [] h₃ ∧ (∀ i ys h h', G i ys h → (∀ a o, a ≠ C → a ≠ D → a ≠ I → h.get? a = some o → h'.get? a = some o) → G i ys h') ∧
        (∀ i ys v g h tk (m : Str → Option Value), vs[i]? = some v → ys.length = i → Hid s.heap g as → Fr g C h (fun y => if y = x then some v else m y) → (∀ a o, s.heap.get? a = some o → a ∉ as → h.get? a = some o) → G i ys h → (h.get? I).isSome = true → (h.get? D).isSome = true →
          wpX b (model prog w) A (eval elt (compEnvC scope cl C env)) (fun y s' => ∃ h' tk', s' = { s with heap := h', toks := tk' } ∧ (∀ a o, h.get? a = some o → (a = D ∨ a = C ∨ a ∈ [I, l] ∨ ((s.heap.get? a).isSome = true ∧ a ∉ as)) → h'.get? a = some o) ∧ G (i + 1) (ys ++ [y]) h') (fun _ _ => False) { s with heap := h, toks := tk }) ∧
        (∀ ys c h tk, ys.length = vs.length → G vs.length ys h → (∀ a o, s.heap.get? a = some o → a ∉ as → h.get? a = some o) → h.get? D = some (PySem.W.listOf (List.toArray ys) c) → Q (.ref D) { s with heap := h, toks := tk })) :
    wpAny (model prog w) A (pyIter (.ref l)) (CompObW b prog w A env scope cl x elt Q s) E s := by
  have hL : s.heap.IsList l vs.toArray := ⟨_, hl, rfl, _, rfl⟩
  have hlt := Heap.lt_size hl
  have fresh : ∀ a, s.heap.objs.size ≤ a → s.heap.get? a = none := fun a ha => by
    cases e : s.heap.get? a with
    | none => rfl
    | some o => exact absurd (Heap.lt_size e) (Nat.not_lt.mpr ha)
  refine wpAny_pyIter_list hL ?_
  have sz : (s.heap.push { cls := .type "list_iterator", data := .fields #[.ref l, .int 0 0] }).objs.size = s.heap.objs.size + 1 := Heap.size_push _ _
  refine ⟨s.heap.objs.size, _, _, _, _, _, as, rfl, Walks.list (prog := prog) (w := w) hh s.heap.objs.size l (Nat.ne_of_lt hlt) vs.toArray, ?_, ⟨⟨_, Heap.get?_push_size _ rfl, rfl, rfl⟩, hL.push _⟩, by rw [List.size_toArray]; exact hz, ?_, ?_, fun a o e => Heap.get?_push_of_some _ e, by show _ ≤ (s.heap.push _).objs.size; rw [sz]; exact Nat.le_succ _, ?_⟩
  · intro a ha
    show a < (s.heap.push _).objs.size
    rw [sz]
    rcases List.mem_cons.mp ha with rfl | ha
    · exact Nat.lt_succ_self _
    · rw [List.mem_singleton.mp ha]; exact Nat.lt_succ_of_lt hlt
  · intro a ha
    rw [List.mem_singleton.mp ha]; exact fresh _ (Nat.le_refl _)
  · intro a ha
    obtain ⟨h1, h2⟩ := has a ha
    refine ⟨h1, fun hm => ?_⟩
    rcases List.mem_cons.mp hm with rfl | hm
    · rw [fresh _ (Nat.le_refl _)] at h1; cases h1
    · exact h2 (List.mem_singleton.mp hm)
  · intro D C h₃ hD hC hDC k
    have hD' : s.heap.objs.size ≤ D := Nat.le_trans (by show _ ≤ (s.heap.push _).objs.size; rw [sz]; exact Nat.le_succ _) hD
    have hC' : s.heap.objs.size ≤ C := Nat.le_trans (by show _ ≤ (s.heap.push _).objs.size; rw [sz]; exact Nat.le_succ _) hC
    obtain ⟨G, g0, gs, turn, done⟩ := h s.heap.objs.size D C h₃ (fresh _ (Nat.le_refl _)) (fresh _ hD') (fresh _ hC') fun a o e => k a o (Heap.get?_push_of_some _ e)
    refine ⟨G, g0, fun i ys h h' hg hk => gs i ys h h' hg fun a o h1 h2 h3 e => hk a o h1 h2 (fun hm => h3 (List.mem_singleton.mp hm)) e, fun i ys v g h tk m hi hy hP Hg F hk hG hS hDl => turn i ys v g h tk m (by simpa using hP) hy Hg F hk hG (by obtain ⟨o, e, _⟩ := hS.1; rw [e]; rfl) (by obtain ⟨c, e⟩ := hDl; rw [e]; rfl), fun ys c h tk hy hG hk hD => done ys c h tk (by simpa using hy) (by simpa using hG) hk hD⟩
end

noncomputable def pushAll (most fl : Int) : List (Array UInt8) → List (Array UInt8) → List Int × List (Array UInt8)
  | [], rows => ([], rows)
  | b :: bs, rows => ((duePush most rows b fl).1 :: (pushAll most fl bs (duePush most rows b fl).2).1, (pushAll most fl bs (duePush most rows b fl).2).2)
section
variable {prog : Program} {w : World} {A : Around} {E : Value → Shared → Prop} {s : Shared} {mg mb : Str → Option Value} {h₀ : Heap} {L : Addr} {m : Str → Option Value} {q : Qd} {dp un : Nat} {fr : Option (List Env)} {gd : Option (List Code)}
set_option maxHeartbeats 0 in
theorem c_push_rows {l : Addr} {rows bs : List (Array UInt8)} {vs : List Value} {c : Nat} {fl : Int} {tf : Tok} {Q : Value → Shared → Prop} {g₀ : Heap} (R : Rm (AN dp un fr gd) 6) (Y : Lay w mg mb g₀) (k : Kp g₀ s.heap) (hg : ∀ a ∈ q.as, g₀.get? a = none) (H : QAt prog w s.heap q) (hq : q.Ok) (hr : Holds q rows)
    (hl : s.heap.get? l = some (W.listOf (List.toArray vs) c)) (hgl : g₀.get? l = none) (hlq : l ∉ q.as) (hB : BytesAre vs bs) (hbs : ∀ b ∈ bs, b.size = q.wd.toNat) (hn : bs.length ≤ 100)
    (hQ : ∀ q' r vs' c' h' tk, Mut prog w s.heap h' q q' → q'.Ok → Holds q' (pushAll q.most fl bs rows).2 → s.heap.get? r = none → h'.get? r = some (W.listOf (List.toArray vs') c') → IntsAre vs' (pushAll q.most fl bs rows).1 → Q (.ref r) { s with heap := h', toks := tk }) :
    wpT (model prog w) (AN dp un fr gd) (call (.ref 420) [.ref q.x, .ref l, .int fl tf]) Q E s := by
  obtain ⟨qs, I0, KQ⟩ := H
  have nd := hq.ad
  refine wpT_call ?_
  refine' enterXC (b := true) (binds := [(Str.ofString "queue", .ref q.x), (Str.ofString "rows", .ref l), (Str.ofString "flags", .int fl tf)]) ((l, W.listOf (List.toArray vs) c) :: qs) ?k0 R Y k ?k1 ?k2 ?k3 ?k4 ?k5 ?_ ?k6 ?k7 ?k8
  case k0 =>
    intro e he
    rcases List.mem_cons.mp he with rfl | he
    · exact ⟨hl, hgl⟩
    · exact ⟨KQ e he, hg _ (I0.addrs ▸ List.mem_map_of_mem he)⟩
  case k1 => k_is
  case k2 => k_is
  case k3 => exact BindsTo.of_defaults rfl (Y.X.keeps k _ _ (by k_is)) rfl rfl rfl
  case k4 => exact rfl
  case k5 => decide
  case k6 => exact rfl
  case k7 => exact rfl
  case k8 => exact rfl
  clear Y k
  rw [List.map_cons, I0.addrs]
  intro L h₁ tk0 cells Y Hg F N Yc hlt R'
  dsimp only at Y Hg F N
  generalize hideAll s.heap (l :: q.as) = g at Y Hg F N
  k_cells Yc
  have X := Y.X
  have T := Y.T
  refine wpX_execs_cons (wpX_Return (my_ListCompW (b := true) (by intro _; rfl) (by with_unfolding_all rfl) rfl (by decide) (by decide) rfl ?_))
  repeat' ((fail_if_success (first | (with_reducible show Exists _) | (with_reducible show wpAny _ _ (exec (Stmt.While _ _ _ _) _) _ _ _) | (with_reducible show wpAny _ _ (exec (Stmt.For _ _ _ _ _) _) _ _ _) | (with_reducible show wpAny _ _ (eval (Expr.ListComp _ _ _ _) _) _ _ _))); first | (k_unfold; (try dsimp only)) | walk1 | (dsimp only; walk1))
  rename_i o1 o2 d1 d2
  have F1 := F
  have N1 := N
  have a1 := N1 (l, _) (.tail _ (.tail _ (.head _)))
  have a2 := N1 (_, o1) (.head _)
  have a3 := N1 (_, o2) (.tail _ (.head _))
  dsimp only at a1 a2 a3
  have Nq : News g L h₁ qs := News.mono N1 fun e he => .tail _ (.tail _ (.tail _ he))
  have qsat : ∀ a ∈ q.as, (h₁.get? a).isSome = true ∧ a ≠ l := fun a ha => by
    refine ⟨?_, fun e => hlq (e ▸ ha)⟩
    rw [← I0.addrs] at ha
    obtain ⟨e, he, rfl⟩ := List.mem_map.mp ha
    rw [(Nq e he).1]; rfl
  refine compOb_listW rfl a1.1 (by rw [hB.length, sizeLine_eq]; omega) q.as qsat fun I D C h₃ hI0 hD0 hC0 k3 => ?_
  refine ⟨fun i ys h => (Ex4 fun q1 qs1 rows1 zs => All9 (IsQ prog w q1 qs1) ((∀ e ∈ qs1, h.get? e.1 = some e.2)) (q1.Ok) (Holds q1 rows1) ((q1.x = q.x ∧ q1.kind = q.kind ∧ q1.wd = q.wd ∧ q1.most = q.most)) ((∀ a ∈ q1.as, a ∈ q.as ∨ h₁.get? a = none)) ((∀ a ∈ q1.as, a ≠ I ∧ a ≠ D ∧ a ≠ C)) (IntsAre ys zs) (pushAll q.most fl bs rows = (zs ++ (pushAll q.most fl (bs.drop i) rows1).1, (pushAll q.most fl (bs.drop i) rows1).2))), ?_, ?_, ?_, ?_⟩
  · exact ⟨q, qs, rows, [], I0, fun e he => k3 _ _ (Nq e he).1, hq, hr, ⟨rfl, rfl, rfl, rfl⟩, fun a ha => .inl ha, fun a ha => by
      have := (qsat a ha).1
      refine ⟨fun e => ?_, fun e => ?_, fun e => ?_⟩ <;> subst e <;> simp_all, .nil, rfl⟩
  · rintro i ys h h' ⟨q1, qs1, rows1, zs, J, K1, r1, r2, r3, r4, r5, r6, r7⟩ hk
    refine ⟨q1, qs1, rows1, zs, J, fun e he => ?_, r1, r2, r3, r4, r5, r6, r7⟩
    have ha : e.1 ∈ q1.as := J.addrs ▸ List.mem_map_of_mem he
    obtain ⟨z1, z2, z3⟩ := r5 _ ha
    exact hk _ _ z3 z2 z1 (K1 e he)
  · rintro i ys v g2 h tk m hv hy Hg2 Fc kk ⟨q1, qs1, rows1, zs, J, K1, ok1, hr1, sq, nw, nidc, hz, hp⟩ hIs hDs
    obtain ⟨b, t, rfl, hb⟩ := hB.get i v hv
    have nw' : ∀ a ∈ q1.as, g2.get? a = none := fun a ha => by
      rcases nw a ha with h1 | h1
      · exact Hg2.none a h1
      · cases e : g2.get? a with
        | none => rfl
        | some o => rw [Hg2.sub _ _ e] at h1; cases h1
    have Nj : News g2 C h qs1 := fun e he => by
      have ha : e.1 ∈ q1.as := J.addrs ▸ List.mem_map_of_mem he
      exact ⟨K1 e he, (nidc _ ha).2.2, nw' _ ha⟩
    have sub : ∀ b o, g.get? b = some o → g2.get? b = some o := fun b o e => Hg2.get b o (F1.keep b o e) (fun hm => by
      rw [← I0.addrs] at hm
      obtain ⟨z, hz, rfl⟩ := List.mem_map.mp hm
      rw [(Nq z hz).2.2] at e; cases e)
    have Yg := Y.keeps sub
    have Xg := Yg.X
    have Tg := Yg.T
    have notq : ∀ {a : Addr} {o : Obj}, h₁.get? a = some o → o.cls ≠ .none ∨ True → a ∉ q.as → g2.get? a = some o := fun e _ hn => Hg2.get _ _ e hn
    have hqL : ∀ a ∈ q.as, @LT.lt Nat _ a L := fun a ha => by
      rw [← I0.addrs] at ha
      obtain ⟨z, hz, rfl⟩ := List.mem_map.mp ha
      exact hlt _ (.tail _ hz)
    have hc1 : CellAt g2 _ (.int fl tf) := ⟨_, Hg2.get _ _ a2.1 (fun hm => by have h9 := hqL _ hm; omega), d1⟩
    have hc2 : CellAt g2 _ (.ref q1.x) := ⟨_, Hg2.get _ _ a3.1 (fun hm => by have h9 := hqL _ hm; omega), by rw [sq.1]; exact d2⟩
    have hl1 := a1.1
    clear N1 F1 Nq qsat k3 X T Y notq a1 a2 a3
    refine wpX_CallMeth ?_
    repeat' ((fail_if_success (first | (with_reducible show Exists _) | (with_reducible show wpAny _ _ (exec (Stmt.While _ _ _ _) _) _ _ _) | (with_reducible show wpAny _ _ (exec (Stmt.For _ _ _ _ _) _) _ _ _) | (with_reducible show wpAny _ _ (eval (Expr.ListComp _ _ _ _) _) _ _ _))); first | (k_unfold; (try dsimp only)) | walk1 | (dsimp only; walk1))
    dsimp only
    refine wpX_callWith_K Xg (by k_is) ?_
    repeat' ((fail_if_success (first | (with_reducible show Exists _) | (with_reducible show wpAny _ _ (exec (Stmt.While _ _ _ _) _) _ _ _) | (with_reducible show wpAny _ _ (exec (Stmt.For _ _ _ _ _) _) _ _ _) | (with_reducible show wpAny _ _ (eval (Expr.ListComp _ _ _ _) _) _ _ _))); first | (k_unfold; (try dsimp only)) | walk1 | (dsimp only; walk1))
    have hq9 : b.size = q1.wd.toNat := by rw [sq.2.2.1]; exact hbs b (List.mem_of_getElem? hb)
    refine c_push (g₀ := g2) (Rm.mono R' (by decide)) Yg Fc.keep nw' (QAt.of_news J Nj fun _ h => h) ok1 hr1 hq9 fun q2 t2 h2 tk2 M2 ok2 hr2 => ?_
    obtain ⟨qs2, J2, K2⟩ := M2.at_
    rw [sq.2.2.2] at hr2 ⊢
    have hdr : bs.drop i = b :: bs.drop (i + 1) := by
      obtain ⟨hi, e⟩ := List.getElem?_eq_some_iff.mp hb
      rw [List.drop_eq_getElem_cons hi, e]
    dsimp only
    refine ⟨h2, tk2, rfl, fun a o e ha => M2.stay a o (fun hm => ?_) e, q2, qs2, _, zs ++ [(duePush q.most rows1 b fl).1], J2, K2, ok2, hr2, ⟨M2.x.trans sq.1, M2.kind.trans sq.2.1, M2.wd.trans sq.2.2.1, M2.most.trans sq.2.2.2⟩, fun a ha => ?_, fun a ha => ?_, hz.append (.cons _ _ .nil), ?_⟩
    · rcases ha with h1 | h1 | h1 | h1
      · exact (nidc _ hm).2.1 h1
      · exact (nidc _ hm).2.2 h1
      · rcases List.mem_cons.mp h1 with h1 | h1
        · exact (nidc _ hm).1 h1
        · have h2 := List.mem_singleton.mp h1
          rcases nw _ hm with h3 | h3
          · exact hlq (h2 ▸ h3)
          · rw [h2, hl1] at h3; cases h3
      · rcases nw _ hm with h3 | h3
        · exact h1.2 h3
        · have h4 := h1.1; rw [h3] at h4; cases h4
    · by_cases hm : a ∈ q.as
      · exact .inl hm
      · rcases M2.new a ha with h1 | h1
        · exact nw a h1
        · refine .inr ?_
          cases e : h₁.get? a with
          | none => rfl
          | some o => rw [kk a o e hm] at h1; cases h1
    · rcases M2.new a ha with h1 | h1
      · exact nidc a h1
      · obtain ⟨oL, _, _, hC1, _⟩ := Fc.ns
        refine ⟨fun e => ?_, fun e => ?_, fun e => ?_⟩
        · rw [e] at h1; rw [h1] at hIs; cases hIs
        · rw [e] at h1; rw [h1] at hDs; cases hDs
        · rw [e, hC1] at h1; cases h1
    · rw [hp, hdr, pushAll]
      simp
  · rintro ys c5 h tk hy ⟨q1, qs1, rows1, zs, J, K1, ok1, hr1, sq, nw, nidc, hz, hp⟩ kk hD
    have hbl : bs.drop vs.length = [] := by rw [hB.length]; exact List.drop_of_length_le (Nat.le_refl _)
    rw [hbl] at hp
    simp only [pushAll, List.append_nil] at hp
    rw [hp] at hQ
    have keep : ∀ b o, b ∉ q.as → s.heap.get? b = some o → h.get? b = some o := fun b o hb e => by
      refine kk b o ?_ hb
      by_cases hc : b = l
      · subst hc; rw [hl] at e; cases e; exact a1.1
      · exact F1.keep b o (Hg.get b o e (by simp [hc, hb]))
    refine hQ q1 D ys c5 h tk ⟨fun b o hb e => keep b o hb e, fun a ha => ?_, ⟨qs1, J, K1⟩, ok1.ad, sq.1, sq.2.1, sq.2.2.1, sq.2.2.2⟩ ok1 hr1 ?_ hD hz
    · by_cases hm : a ∈ q.as
      · exact .inl hm
      · refine .inr ?_
        rcases nw a ha with h1 | h1
        · exact absurd h1 hm
        · cases e : s.heap.get? a with
          | none => rfl
          | some o =>
            have : h₁.get? a = some o := by
              by_cases hc : a = l
              · subst hc; rw [hl] at e; cases e; exact a1.1
              · exact F1.keep a o (Hg.get a o e (by simp [hc, hm]))
            rw [this] at h1; cases h1
    · cases e : s.heap.get? D with
      | none => rfl
      | some o =>
        by_cases hm : D ∈ q.as
        · have := (qsat D hm).1; rw [hD0] at this; cases this
        · have : h₁.get? D = some o := by
            by_cases hc : D = l
            · subst hc; rw [hl] at e; cases e; exact a1.1
            · exact F1.keep D o (Hg.get D o e (by simp [hc, hm]))
          rw [this] at hD0; cases hD0
end

noncomputable def pourD (kind : Str) (most fl : Int) : Nat → List (Array UInt8) → List (Array UInt8) → List (Array UInt8) × List (Array UInt8) × Nat
  | 0, left, row => (left, row, 0)
  | n + 1, left, row => match (duePop kind left).1 with
    | none => (left, row, 0)
    | some b => if (duePush most row b fl).1 ≠ 0 then (left, row, 0) else
      ((pourD kind most fl n (duePop kind left).2 (duePush most row b fl).2).1, (pourD kind most fl n (duePop kind left).2 (duePush most row b fl).2).2.1, (pourD kind most fl n (duePop kind left).2 (duePush most row b fl).2).2.2 + 1)
theorem kw_f_27 : True := by
  k_with "my sub" => (first | exact fun _ h => h | exact fun _ h => List.mem_append_left _ h | exact fun _ h => List.mem_append_right _ h | exact fun _ h => List.Mem.tail _ h | exact fun _ h => List.Mem.tail _ (List.mem_append_left _ h) | exact fun _ h => List.Mem.tail _ (List.mem_append_right _ h) | exact fun _ h => List.Mem.tail _ (List.Mem.tail _ h) | exact fun _ h => List.Mem.tail _ (List.Mem.tail _ (List.mem_append_left _ h)) | exact fun _ h => List.Mem.tail _ (List.Mem.tail _ (List.mem_append_right _ h)))
  k_with "my q" => (exact QAt.of_news (by assumption) (by k_asm) (by walk_at "my sub"))
  exact trivial
theorem duePush_ne {most : Int} {rows : List (Array UInt8)} {b : Array UInt8} {fl : Int} (h : (duePush most rows b fl).1 ≠ 0) : (duePush most rows b fl).2 = rows := by
  unfold duePush at h ⊢
  split
  · rfl
  · split
    · rfl
    · rename_i h1 h2
      rw [if_neg h1, if_neg h2] at h
      exact absurd rfl h
section
variable {prog : Program} {w : World} {A : Around} {E : Value → Shared → Prop} {s : Shared} {mg mb : Str → Option Value} {h₀ : Heap} {L : Addr} {m : Str → Option Value} {q : Qd} {dp un : Nat} {fr : Option (List Env)} {gd : Option (List Code)}
inductive TwoP (prog : Program) (w : World) (g : Heap) (L : Addr) (h' : Heap) (m : Str → Option Value) (q' p : Qd) (ps : List (Addr × Obj)) : Prop
  | mk (F : Fr g L h' m) (qs' : List (Addr × Obj)) (I : IsQ prog w q' qs') (N : News g L h' (qs' ++ ps)) (ap : ∀ a ∈ p.as, a ∉ q'.as) : TwoP prog w g L h' m q' p ps
theorem Mut.two {g h h' : Heap} {p q' : Qd} {qs ps : List (Addr × Obj)} (M : Mut prog w h h' q q') (F : Fr g L h m) (N : News g L h (qs ++ ps)) (I : IsQ prog w q qs) (J : IsQ prog w p ps) (nd : q.as.Nodup) (ap : ∀ a ∈ p.as, a ∉ q.as) :
    TwoP prog w g L h' m q' p ps := by
  obtain ⟨F', qs', I', N', ap'⟩ := Mut.newsP (pre := ps) M F (News.mono N fun e he => (List.mem_append.mp he).elim (List.mem_append_right _) (List.mem_append_left _)) I nd fun e he => ap _ (J.addrs ▸ List.mem_map_of_mem he)
  refine ⟨F', qs', I', News.mono N' fun e he => (List.mem_append.mp he).elim (List.mem_append_right _) (List.mem_append_left _), fun a ha => ?_⟩
  rw [← J.addrs] at ha
  obtain ⟨e, he, rfl⟩ := List.mem_map.mp ha
  exact ap' e he
theorem two_new {g h : Heap} {p q1 : Qd} {qs : List (Addr × Obj)} (Hg : Hid s.heap g (q.as ++ p.as)) (I : IsQ prog w q1 qs) (N : News g L h qs) : ∀ a ∈ q1.as, a ∈ q.as ∨ s.heap.get? a = none ∨ a ∈ p.as := by
  intro a ha
  rw [← I.addrs] at ha
  obtain ⟨e, he, rfl⟩ := List.mem_map.mp ha
  by_cases h1 : e.1 ∈ q.as
  · exact .inl h1
  by_cases h2 : e.1 ∈ p.as
  · exact .inr (.inr h2)
  refine .inr (.inl ?_)
  cases e0 : s.heap.get? e.1 with
  | none => rfl
  | some o =>
    have := Hg.get _ _ e0 (fun hm => (List.mem_append.mp hm).elim h1 h2)
    rw [(N e he).2.2] at this; cases this
set_option maxHeartbeats 0 in
theorem c_pour {p : Qd} {rows row : List (Array UInt8)} {fl : Int} {tf : Tok} {Q : Value → Shared → Prop} {g₀ : Heap} (R : Rm (AN dp un fr gd) 7) (Y : Lay w mg mb g₀) (k : Kp g₀ s.heap) (hg : ∀ a ∈ q.as, g₀.get? a = none) (hg' : ∀ a ∈ p.as, g₀.get? a = none) (ap : ∀ a ∈ q.as, a ∉ p.as) (H : QAt prog w s.heap q) (H' : QAt prog w s.heap p) (hq : q.Ok) (hp : p.Ok) (hwd : p.wd = q.wd) (hr : Holds q rows) (ht : Holds p row)
    (hQ : ∀ q' p' t h' tk, (∀ b o, b ∉ q.as → b ∉ p.as → s.heap.get? b = some o → h'.get? b = some o) → (∀ a ∈ q'.as, a ∈ q.as ∨ s.heap.get? a = none ∨ a ∈ p.as) → (∀ a ∈ p'.as, a ∈ q.as ∨ s.heap.get? a = none ∨ a ∈ p.as) → (∀ a ∈ q'.as, a ∉ p'.as) → QAt prog w h' q' → QAt prog w h' p' →
      q'.Ok → p'.Ok → (q'.x = q.x ∧ q'.kind = q.kind ∧ q'.wd = q.wd ∧ q'.most = q.most) → (p'.x = p.x ∧ p'.kind = p.kind ∧ p'.wd = p.wd ∧ p'.most = p.most) → Holds q' (pourD q.kind p.most fl rows.length rows row).1 → Holds p' (pourD q.kind p.most fl rows.length rows row).2.1 → Q (.int ((pourD q.kind p.most fl rows.length rows row).2.2 : Int) t) { s with heap := h', toks := tk }) :
    wpT (model prog w) (AN dp un fr gd) (call (.ref 435) [.ref q.x, .ref p.x, .int fl tf]) Q E s := by
  obtain ⟨qs, I, KQ⟩ := H
  obtain ⟨ps, J, KP⟩ := H'
  refine wpT_call ?_
  refine' enterX (b := true) (binds := [(Str.ofString "source", .ref q.x), (Str.ofString "target", .ref p.x), (Str.ofString "flags", .int fl tf)]) (qs ++ ps) ?k0 R Y k ?k1 ?k2 ?k3 ?k4 ?_ ?k5 ?k6 ?k7 ?k8
  case k0 =>
    intro e he
    rcases List.mem_append.mp he with he | he
    · exact ⟨KQ e he, hg _ (I.addrs ▸ List.mem_map_of_mem he)⟩
    · exact ⟨KP e he, hg' _ (J.addrs ▸ List.mem_map_of_mem he)⟩
  case k1 => k_is
  case k2 => k_is
  case k3 => exact BindsTo.of_defaults rfl (Y.X.keeps k _ _ (by k_is)) rfl rfl rfl
  case k4 => exact locs rfl
  case k5 => decide
  case k6 => exact rfl
  case k7 => exact rfl
  case k8 => exact rfl
  clear Y k KQ KP
  rw [List.map_append, I.addrs, J.addrs]
  intro L h₁ Y Hg F N R'
  generalize hideAll s.heap (q.as ++ p.as) = g at Y Hg F N
  have X := Y.X
  have T := Y.T
  refine wpX_execs_cons (wpX.of ?_)
  repeat' ((fail_if_success (first | (with_reducible show Exists _) | (with_reducible show wpAny _ _ (exec (Stmt.While _ _ _ _) _) _ _ _) | (with_reducible show wpAny _ _ (exec (Stmt.For _ _ _ _ _) _) _ _ _) | (with_reducible show wpAny _ _ (eval (Expr.ListComp _ _ _ _) _) _ _ _))); first | (k_unfold; (try dsimp only)) | walk1 | (dsimp only; walk1))
  rename Fr _ _ _ _ => F1
  rename News _ _ _ _ => N1
  refine wpX_execs_cons ?_
  refine my_While (fun n s' => (Ex11 fun h tk m' q1 qs1 p1 ps1 rows1 row1 (cnt : Nat) (tc : Tok) => All18 (s' = { s with heap := h, toks := tk }) (rows1.length = n) (Fr g L h m') (m' (Str.ofString "source") = some (.ref q1.x)) (m' (Str.ofString "target") = some (.ref p1.x)) (m' (Str.ofString "flags") = some (.int fl tf)) (m' (Str.ofString "count") = some (.int (cnt : Int) tc)) (IsQ prog w q1 qs1) (IsQ prog w p1 ps1) (News g L h (qs1 ++ ps1)) ((∀ a ∈ q1.as, a ∉ p1.as)) (q1.Ok) (p1.Ok) ((q1.x = q.x ∧ q1.kind = q.kind ∧ q1.wd = q.wd ∧ q1.most = q.most)) ((p1.x = p.x ∧ p1.kind = p.kind ∧ p1.wd = p.wd ∧ p1.most = p.most)) (Holds q1 rows1) (Holds p1 row1) (pourD q.kind p.most fl rows.length rows row = ((pourD q.kind p.most fl n rows1 row1).1, (pourD q.kind p.most fl n rows1 row1).2.1, (pourD q.kind p.most fl n rows1 row1).2.2 + cnt)))) rows.length ?init ?turn
  case init =>
    exact ⟨_, _, _, q, qs, p, ps, rows, row, 0, _, rfl, rfl, F1, rfl, rfl, rfl, rfl, I, J, N1, ap, hq, hp, ⟨rfl, rfl, rfl, rfl⟩, ⟨rfl, rfl, rfl, rfl⟩, hr, ht, rfl⟩
  case turn =>
    rintro n s' ⟨h, tk, m', q1, qs1, p1, ps1, rows1, row1, cnt, tc, rfl, hn, F, e1, e2, e3, e4, I1, J1, N, ap1, hq1, hp1, sq, sp, hr1, ht1, hd⟩
    clear F1 N1 I J
    refine wpX.of ?_
    repeat' ((fail_if_success (first | (with_reducible show Exists _) | (with_reducible show wpAny _ _ (exec (Stmt.While _ _ _ _) _) _ _ _) | (with_reducible show wpAny _ _ (exec (Stmt.For _ _ _ _ _) _) _ _ _) | (with_reducible show wpAny _ _ (eval (Expr.ListComp _ _ _ _) _) _ _ _))); first | (k_unfold; (try dsimp only)) | walk1 | (dsimp only; walk1))
    all_goals (try dsimp only)
    · have h0 : rows1.length = 0 := by assumption
      have z : rows1 = [] := List.length_eq_zero_iff.mp h0
      subst z
      have hn0 : n = 0 := by rw [← hn]; rfl
      subst hn0
      refine wpX.of ?_
      repeat' ((fail_if_success (first | (with_reducible show Exists _) | (with_reducible show wpAny _ _ (exec (Stmt.While _ _ _ _) _) _ _ _) | (with_reducible show wpAny _ _ (exec (Stmt.For _ _ _ _ _) _) _ _ _) | (with_reducible show wpAny _ _ (eval (Expr.ListComp _ _ _ _) _) _ _ _))); first | (k_unfold; (try dsimp only)) | walk1 | (dsimp only; walk1))
      rename Fr _ _ _ _ => F2
      rename News _ _ _ _ => N2
      rw [hd] at hQ
      have fin := fun tk => hQ q1 p1 tc _ tk (fun b o b1 b2 e => F2.keep b o (Hg.get b o e (fun hm => (List.mem_append.mp hm).elim b1 b2))) (two_new Hg I1 (News.mono N2 (by walk_at "my sub"))) (two_new Hg J1 (News.mono N2 (by walk_at "my sub"))) ap1 (QAt.of_news I1 N2 (by walk_at "my sub")) (QAt.of_news J1 N2 (by walk_at "my sub")) hq1 hp1 sq sp hr1 ht1
      simp only [pourD, Nat.zero_add] at fin
      exact fin _
    · have h0 : rows1.length ≠ 0 := by assumption
      have hne : rows1 ≠ [] := fun e => h0 (by rw [e]; rfl)
      obtain ⟨b, pb, _, pl⟩ := duePop_inTurn (kind := q1.kind) hne
      refine wpX_execs_cons (wpX_If (wpX_isCompare (wpX_CallMeth ?_)))
      repeat' ((fail_if_success (first | (with_reducible show Exists _) | (with_reducible show wpAny _ _ (exec (Stmt.While _ _ _ _) _) _ _ _) | (with_reducible show wpAny _ _ (exec (Stmt.For _ _ _ _ _) _) _ _ _) | (with_reducible show wpAny _ _ (eval (Expr.ListComp _ _ _ _) _) _ _ _))); first | (k_unfold; (try dsimp only)) | walk1 | (dsimp only; walk1))
      dsimp only
      refine wpX_callWith_K X (by k_is) ?_
      repeat' ((fail_if_success (first | (with_reducible show Exists _) | (with_reducible show wpAny _ _ (exec (Stmt.While _ _ _ _) _) _ _ _) | (with_reducible show wpAny _ _ (exec (Stmt.For _ _ _ _ _) _) _ _ _) | (with_reducible show wpAny _ _ (eval (Expr.ListComp _ _ _ _) _) _ _ _))); first | (k_unfold; (try dsimp only)) | walk1 | (dsimp only; walk1))
      rename IsOpt _ _ => hv
      rw [pb] at hv
      obtain ⟨tv, rfl⟩ := hv
      rename Fr _ _ _ _ => F3
      rename News _ _ _ _ => N3
      have hbs : b.size = p1.wd.toNat := by rw [sp.2.2.1, hwd, ← sq.2.2.1]; exact hr1.size hq1 (duePop_mem pb)
      have N3s : News g L _ (ps1 ++ qs1) := News.mono N3 fun e he => (List.mem_append.mp he).elim (List.mem_append_right _) (List.mem_append_left _)
      refine c_push (g₀ := g) (Rm.mono R' (by decide)) Y F3.keep (fun a ha => (Own.of_hid J1 (News.mono N3 (by walk_at "my sub")) hp1.ad).ng a ha) (QAt.of_news J1 N3 (by walk_at "my sub")) hp1 ht1 hbs fun p2 t2 h2 tk2 M2 ok2 ht2 => ?_
      obtain ⟨F4, ps2, J2, N4s, ap2⟩ := Mut.two M2 F3 N3s J1 I1 hp1.ad ap1
      have N4 : News g L h2 (qs1 ++ ps2) := News.mono N4s fun e he => (List.mem_append.mp he).elim (List.mem_append_right _) (List.mem_append_left _)
      have sp2 : p2.x = p.x ∧ p2.kind = p.kind ∧ p2.wd = p.wd ∧ p2.most = p.most := ⟨M2.x.trans sp.1, M2.kind.trans sp.2.1, M2.wd.trans sp.2.2.1, M2.most.trans sp.2.2.2⟩
      have e2' : m' (Str.ofString "target") = some (.ref p2.x) := by rw [M2.x]; exact e2
      rw [sp.2.2.2] at ht2 ⊢
      rw [sq.2.1] at pb pl
      clear F3 N3 N3s N4s e2 J1 M2 ht1 hp1 sp ap1
      dsimp only
      repeat' ((fail_if_success (first | (with_reducible show Exists _) | (with_reducible show wpAny _ _ (exec (Stmt.While _ _ _ _) _) _ _ _) | (with_reducible show wpAny _ _ (exec (Stmt.For _ _ _ _ _) _) _ _ _) | (with_reducible show wpAny _ _ (eval (Expr.ListComp _ _ _ _) _) _ _ _))); first | (k_unfold; (try dsimp only)) | walk1 | (dsimp only; walk1))
      all_goals
        obtain ⟨k, rfl⟩ : ∃ k, n = k + 1 := ⟨n - 1, by omega⟩
        rename Fr _ _ _ _ => F5
        rename News _ _ _ _ => N5
      · have ha : (duePush p.most row1 b fl).1 ≠ 0 := by assumption
        have e : pourD q.kind p.most fl (k + 1) rows1 row1 = (rows1, row1, 0) := by rw [pourD, pb]; simp [ha]
        rw [duePush_ne ha] at ht2
        rw [e] at hd
        rw [hd] at hQ
        refine wpX_execs_cons (wpX.of ?_)
        repeat' ((fail_if_success (first | (with_reducible show Exists _) | (with_reducible show wpAny _ _ (exec (Stmt.While _ _ _ _) _) _ _ _) | (with_reducible show wpAny _ _ (exec (Stmt.For _ _ _ _ _) _) _ _ _) | (with_reducible show wpAny _ _ (eval (Expr.ListComp _ _ _ _) _) _ _ _))); first | (k_unfold; (try dsimp only)) | walk1 | (dsimp only; walk1))
        rename Fr _ _ _ _ => F6
        rename News _ _ _ _ => N6
        have fin := fun tk => hQ q1 p2 tc _ tk (fun b o b1 b2 e => F6.keep b o (Hg.get b o e (fun hm => (List.mem_append.mp hm).elim b1 b2))) (two_new Hg I1 (News.mono N6 (by walk_at "my sub"))) (two_new Hg J2 (News.mono N6 (by walk_at "my sub"))) ap2 (QAt.of_news I1 N6 (by walk_at "my sub")) (QAt.of_news J2 N6 (by walk_at "my sub")) hq1 ok2 sq sp2 hr1 ht2
        simp only [Nat.zero_add] at fin
        exact fin _
      · have ha : (duePush p.most row1 b fl).1 = 0 := by assumption
        have e : pourD q.kind p.most fl (k + 1) rows1 row1 = ((pourD q.kind p.most fl k (duePop q.kind rows1).2 (duePush p.most row1 b fl).2).1, (pourD q.kind p.most fl k (duePop q.kind rows1).2 (duePush p.most row1 b fl).2).2.1, (pourD q.kind p.most fl k (duePop q.kind rows1).2 (duePush p.most row1 b fl).2).2.2 + 1) := by rw [pourD, pb]; simp [ha]
        refine wpX_execs_nil ?_
        dsimp only
        refine wpX_execs_cons (wpX.of ?_)
        repeat' ((fail_if_success (first | (with_reducible show Exists _) | (with_reducible show wpAny _ _ (exec (Stmt.While _ _ _ _) _) _ _ _) | (with_reducible show wpAny _ _ (exec (Stmt.For _ _ _ _ _) _) _ _ _) | (with_reducible show wpAny _ _ (eval (Expr.ListComp _ _ _ _) _) _ _ _))); first | (k_unfold; (try dsimp only)) | walk1 | (dsimp only; walk1))
        rename Fr _ _ _ _ => F6
        rename News _ _ _ _ => N6
        refine c_pop (g₀ := g) (Rm.mono R' (by decide)) Y F6.keep (fun a ha => (Own.of_hid I1 (News.mono N6 (by walk_at "my sub")) hq1.ad).ng a ha) (QAt.of_news I1 N6 (by walk_at "my sub")) hq1 hr1 fun q2 v h3 tk3 M3 ok3 hr3 hv3 => ?_
        obtain ⟨F7, qs3, I3, N7, ap3⟩ := Mut.two M3 F6 N6 I1 J2 hq1.ad (fun a h1 h2 => ap2 a h2 h1)
        have sq3 : q2.x = q.x ∧ q2.kind = q.kind ∧ q2.wd = q.wd ∧ q2.most = q.most := ⟨M3.x.trans sq.1, M3.kind.trans sq.2.1, M3.wd.trans sq.2.2.1, M3.most.trans sq.2.2.2⟩
        have e1' : m' (Str.ofString "source") = some (.ref q2.x) := by rw [M3.x]; exact e1
        rw [sq.2.1] at hr3
        clear F6 N6 e1 I1 hq1 hr1 M3
        dsimp only
        repeat' ((fail_if_success (first | (with_reducible show Exists _) | (with_reducible show wpAny _ _ (exec (Stmt.While _ _ _ _) _) _ _ _) | (with_reducible show wpAny _ _ (exec (Stmt.For _ _ _ _ _) _) _ _ _) | (with_reducible show wpAny _ _ (eval (Expr.ListComp _ _ _ _) _) _ _ _))); first | (k_unfold; (try dsimp only)) | walk1 | (dsimp only; walk1))
        rename Fr _ _ _ _ => F8
        rename News _ _ _ _ => N8
        refine wpX_execs_cons (wpX.of ?_)
        repeat' ((fail_if_success (first | (with_reducible show Exists _) | (with_reducible show wpAny _ _ (exec (Stmt.While _ _ _ _) _) _ _ _) | (with_reducible show wpAny _ _ (exec (Stmt.For _ _ _ _ _) _) _ _ _) | (with_reducible show wpAny _ _ (eval (Expr.ListComp _ _ _ _) _) _ _ _))); first | (k_unfold; (try dsimp only)) | walk1 | (dsimp only; walk1))
        rename Fr _ _ _ _ => F9
        rename News _ _ _ _ => N9
        refine wpX_execs_nil ?_
        refine ⟨k, by omega, _, _, _, q2, qs3, p2, ps2, _, _, cnt + 1, _, rfl, by omega, F9, (if_neg (by decide +kernel)).trans e1', (if_neg (by decide +kernel)).trans e2', (if_neg (by decide +kernel)).trans e3, if_pos rfl, I3, J2, N9, fun a h1 h2 => ap3 a h2 h1, ok3, ok2, sq3, sp2, hr3, ht2, ?_⟩
        rw [hd, e]
        simp [Nat.add_assoc, Nat.add_comm 1 cnt]
end

theorem duePush_len {most : Int} {rows : List (Array UInt8)} {b : Array UInt8} {fl : Int} : (duePush most rows b fl).2.length ≤ rows.length + 1 := by
  unfold duePush
  split
  · exact Nat.le_succ _
  · split
    · exact Nat.le_succ _
    · dsimp only
      split
      · rw [List.length_append, List.length_tail, List.length_singleton]; omega
      · rw [List.length_append, List.length_singleton]; exact Nat.le_refl _
noncomputable def pourNames : List Str := [Str.ofString "turn", Str.ofString "octets", Str.ofString "rest", Str.ofString "answer", Str.ofString "more", Str.ofString "row", Str.ofString "left", Str.ofString "count"]
/-- the loop over a range with one fact at its end, by exhaustion or by break -/
theorem range_loopP {b : Bool} {prog : Program} {w : World} {A : Around} {E : Value → Shared → Prop} {s : Shared} {env : Env} {x : Str} {px : Pos} {body : List Stmt} {Q : Flow → Shared → Prop} {r : Addr} {n : Nat} {t u v : Tok} (hr : IsRange s.heap r 0 n 1 t u v) (hn : n ≤ 1000) (hh : A.handled = none)
    (J : Nat → Shared → Prop) (P : Shared → Prop) (init : J 0 { s with heap := s.heap.push (riter n 0) }) (hst : ∀ i s', J i s' → s'.heap.get? s.heap.objs.size = some (riter n i))
    (turn : ∀ i t s₁ h' tk, i < n → J i s₁ → h'.get? s.heap.objs.size = some (riter n (i + 1)) → (∀ a o, a ∉ [s.heap.objs.size] → s₁.heap.get? a = some o → h'.get? a = some o) →
      wpAny (model prog w) A (bindName env x (.int (i : Nat) t)) (fun _ s₂ => wpX b (model prog w) A (execs body env) (TurnEnd (J (i + 1)) (fun f s' => match f with | .next => P s' | f => Q f s')) (fun _ _ => False) s₂) (fun _ _ => False) { s₁ with heap := h', toks := tk })
    (done : ∀ s₁ h' tk, J n s₁ → (∀ a o, a ∉ [s.heap.objs.size] → s₁.heap.get? a = some o → h'.get? a = some o) → P { s₁ with heap := h', toks := tk })
    (rest : ∀ s', P s' → Q .next s') :
    wpAny (model prog w) A (pyIter (.ref r)) (fun it s₂ => codeX b (model prog w) A (.forLoop (.Name x px) it body [] env) (LoopR Q) s₂) E s :=
  wpAny_mono (range_loop hr hn hh J init hst turn done) (fun it s₂ h => codeT_mono h fun r s' h' => by
    cases r with
    | error e => exact h'
    | ok f => cases f with
      | next => exact rest _ h'
      | cont => exact h'
      | brk => exact h'
      | ret v => exact h') fun _ _ h => h
theorem sub_nil {l : List (Addr × Obj)} : ∀ p ∈ ([] : List (Addr × Obj)), p ∈ l := fun _ h => nomatch h
theorem sub_app {a b l : List (Addr × Obj)} (h : ∀ p ∈ a, p ∈ l) (h' : ∀ p ∈ b, p ∈ l) : ∀ p ∈ a ++ b, p ∈ l := fun p hp => (List.mem_append.mp hp).elim (h p) (h' p)
theorem sub_cons {a : Addr × Obj} {l l' : List (Addr × Obj)} (h : a ∈ l') (h' : ∀ p ∈ l, p ∈ l') : ∀ p ∈ a :: l, p ∈ l' := fun p hp => by
  rcases List.mem_cons.mp hp with rfl | hp
  · exact h
  · exact h' p hp
theorem sub_refl {l : List (Addr × Obj)} : ∀ p ∈ l, p ∈ l := fun _ h => h
theorem sub_tail {a : Addr × Obj} {l l' : List (Addr × Obj)} (h : ∀ p ∈ l, p ∈ l') : ∀ p ∈ l, p ∈ a :: l' := fun p hp => .tail _ (h p hp)
theorem sub_inl {l a b : List (Addr × Obj)} (h : ∀ p ∈ l, p ∈ a) : ∀ p ∈ l, p ∈ a ++ b := fun p hp => List.mem_append_left _ (h p hp)
theorem sub_inr {l a b : List (Addr × Obj)} (h : ∀ p ∈ l, p ∈ b) : ∀ p ∈ l, p ∈ a ++ b := fun p hp => List.mem_append_right _ (h p hp)
section
variable {prog : Program} {w : World} {A : Around} {E : Value → Shared → Prop} {s : Shared} {mg mb : Str → Option Value} {h₀ : Heap} {L : Addr} {m : Str → Option Value} {q : Qd} {dp un : Nat} {fr : Option (List Env)} {gd : Option (List Code)}
theorem pick_news {g h : Heap} {D r1 lr r2 ll I0 : Addr} {oD o1 olr o2 oll oI : Obj} {x1 x2 : Addr × Obj} {rest : List (Addr × Obj)} (N : News g L h ((D, oD) :: (r1, o1) :: (lr, olr) :: (r2, o2) :: (ll, oll) :: (I0, oI) :: x1 :: x2 :: rest)) : News g L h ((I0, oI) :: (lr, olr) :: (ll, oll) :: rest) :=
  News.mono N fun p hp => by
    rcases List.mem_cons.mp hp with rfl | hp
    · exact .tail _ (.tail _ (.tail _ (.tail _ (.tail _ (.head _)))))
    rcases List.mem_cons.mp hp with rfl | hp
    · exact .tail _ (.tail _ (.head _))
    rcases List.mem_cons.mp hp with rfl | hp
    · exact .tail _ (.tail _ (.tail _ (.tail _ (.head _))))
    · exact .tail _ (.tail _ (.tail _ (.tail _ (.tail _ (.tail _ (.tail _ (.tail _ hp)))))))
theorem list_not_q {h : Heap} {qs : List (Addr × Obj)} {a : Addr} {us : List Value} {z : Nat} (I : IsQ prog w q qs) (K : ∀ e ∈ qs, h.get? e.1 = some e.2) (e : h.get? a = some (W.listOf (List.toArray us) z)) : a ∉ q.as := by
  intro ha
  rw [← I.addrs] at ha
  obtain ⟨p, hp, rfl⟩ := List.mem_map.mp ha
  rw [K p hp] at e
  have e := Option.some.inj e
  cases I with
  | mk t n ov hv lo =>
    rcases List.mem_cons.mp hp with rfl | hp
    · have := congrArg Obj.data e; cases this
    rcases List.mem_cons.mp hp with rfl | hp
    · have := congrArg Obj.data e; cases this
    rcases List.mem_cons.mp hp with rfl | hp
    · obtain ⟨es, ep, _, hd, _⟩ := hv
      dsimp only at e
      rw [e] at hd; cases hd
    · obtain ⟨x, _, rfl⟩ := List.mem_map.mp hp
      have := congrArg Obj.data e; cases this
theorem list_not_at {h : Heap} {a : Addr} {us : List Value} {z : Nat} (H : QAt prog w h q) (e : h.get? a = some (W.listOf (List.toArray us) z)) : a ∉ q.as := by
  obtain ⟨qs, I, K⟩ := H
  exact list_not_q I K e
theorem two_keep {g h h' : Heap} {p : Qd} {news : List (Addr × Obj)} (F : Fr g L h m) (N : News g L h news) (st : ∀ b o, b ∉ q.as → b ∉ p.as → h.get? b = some o → h'.get? b = some o) (O : Own prog w g L h q) (O' : Own prog w g L h p) (ap : ∀ e ∈ news, e.1 ∉ q.as ∧ e.1 ∉ p.as) : Fr g L h' m ∧ News g L h' news := by
  refine ⟨⟨?_, fun b o e => st b o (fun hb => by rw [O.ng b hb] at e; cases e) (fun hb => by rw [O'.ng b hb] at e; cases e) (F.keep b o e), F.above⟩, fun e he => ⟨st _ _ (ap e he).1 (ap e he).2 (N e he).1, (N e he).2⟩⟩
  obtain ⟨oL, a, b, hL, c⟩ := F.ns
  exact ⟨oL, a, b, st _ _ (fun hb => O.nl _ hb rfl) (fun hb => O'.nl _ hb rfl) hL, c⟩
theorem two_made {g h h' : Heap} {p q' : Qd} {qs' : List (Addr × Obj)} (F : Fr g L h m) (O : Own prog w g L h q) (O' : Own prog w g L h p) (I : IsQ prog w q' qs') (K : ∀ e ∈ qs', h'.get? e.1 = some e.2) (nw : ∀ a ∈ q'.as, a ∈ q.as ∨ h.get? a = none ∨ a ∈ p.as) : News g L h' qs' := by
  intro e he
  have ha : e.1 ∈ q'.as := I.addrs ▸ List.mem_map_of_mem he
  rcases nw _ ha with h1 | h1 | h1
  · exact ⟨K e he, O.nl _ h1, O.ng _ h1⟩
  · refine ⟨K e he, fun q => ?_, ?_⟩
    · obtain ⟨oL, _, _, hL, _⟩ := F.ns
      rw [q, hL] at h1; cases h1
    · cases e0 : g.get? e.1 with
      | none => rfl
      | some o => rw [F.keep _ _ e0] at h1; cases h1
  · exact ⟨K e he, O'.nl _ h1, O'.ng _ h1⟩
theorem c_isE {x l : Addr} {kind : Str} {wd most : Int} {rows : List (Array UInt8)} {vs : List Value} {c : Nat} {tk₁ tw tm : Tok} {Q : Value → Shared → Prop} {g₀ : Heap} (ex : q.x = x) (ek : q.kind = kind) (ew : q.wd = wd) (em : q.most = most) (R : Rm (AN dp un fr gd) 9) (Y : Lay w mg mb g₀) (k : Kp g₀ s.heap)
    (K : ∀ p ∈ [(l, W.listOf (List.toArray vs) c)], s.heap.get? p.1 = some p.2 ∧ g₀.get? p.1 = none) (hB : BytesAre vs rows) (H : QAt prog w s.heap q) (hlq : l ∉ q.as) (hq : q.Ok) (hr : Holds q rows)
    (hQ : ∀ h' tk, Kp s.heap h' → Q (.bool true) { s with heap := h', toks := tk }) :
    wpAny (model prog w) (AN dp un fr gd) (call (.ref 492) [.ref x, .str kind tk₁, .ref l, .int wd tw, .int most tm]) Q E s := by
  subst ex; subst ek; subst ew; subst em
  exact c_is R Y k K hB H hlq hq hr hQ
theorem Holds.none {q : Qd} (h : q.hd = q.tl) : Holds q [] := by
  refine ⟨?_, fun k b hk => by simp at hk⟩
  unfold Qd.cnt; rw [h]; simp
theorem pen_K1 {r : Addr} {g h : Heap} {news : List (Addr × Obj)} {o3 : Obj} (N : News g L h news) (c : (r, o3) ∈ news) : ∀ p ∈ [(r, o3)], h.get? p.1 = some p.2 ∧ g.get? p.1 = none := by
  intro p hp
  rcases List.mem_singleton.mp hp with rfl
  exact ⟨(N _ c).1, (N _ c).2.2⟩
theorem pen_K3 {pa pc r : Addr} {g h : Heap} {news : List (Addr × Obj)} {o1 o2 o3 : Obj} (N : News g L h news) (a : (pa, o1) ∈ news) (b : (pc, o2) ∈ news) (c : (r, o3) ∈ news) : ∀ p ∈ [(pa, o1), (pc, o2), (r, o3)], h.get? p.1 = some p.2 ∧ g.get? p.1 = none := by
  intro p hp
  rcases List.mem_cons.mp hp with rfl | hp
  · exact ⟨(N _ a).1, (N _ a).2.2⟩
  rcases List.mem_cons.mp hp with rfl | hp
  · exact ⟨(N _ b).1, (N _ b).2.2⟩
  · rcases List.mem_singleton.mp hp with rfl
    exact ⟨(N _ c).1, (N _ c).2.2⟩
end
theorem kw_f_28 : True := by
  k_with "call ref" => ((with_reducible show wpAny _ _ (call (Value.ref 461) _) _ _ _); k_dflt (refine' c_pick (by walk_at "my rm") (by assumption) (by exact Fr.keep (by k_asm)) (by exact pen_K3 (by k_asm) (by walk_at "my mem") (by walk_at "my mem") (by walk_at "my mem")) (by assumption) (by assumption) (by omega) (by first | assumption | decide) (by walk_at "my ne") (by walk_at "my ne") (by exact Nat.le_of_ble_eq_true rfl) (by exact Nat.le_of_ble_eq_true rfl) ?_; intro _ _ _ _ _ _ _ _ _ _ st' at' _ _; (have _ := pen_fr (by k_asm) (by k_asm) (by walk_at "my upd") st' at'); (have _ := pen_nw (by k_asm) (by walk_at "my upd") st' at'); (try k_sweep); clear st' at'))
  k_with "my q" => (exact QAt.keeps (by assumption) (Fr.keep (by k_asm)))
  k_with "my sub" => (first | (with_reducible exact sub_refl) | ((with_reducible refine sub_tail ?_); walk_at "my sub") | ((with_reducible refine sub_inl ?_); walk_at "my sub") | ((with_reducible refine sub_inr ?_); walk_at "my sub"))
  k_with "call ref" => ((with_reducible show wpAny _ _ (call (Value.ref 492) _) _ _ _); k_dflt (refine' c_isE (by with_reducible assumption) (by with_reducible assumption) (by with_reducible assumption) (by with_reducible assumption) (by walk_at "my rm") (by assumption) (by exact Fr.keep (by k_asm)) (by exact pen_K1 (by k_asm) (by walk_at "my mem")) (by assumption) (by walk_at "my q") (by exact list_not_at (by walk_at "my q") (News.get (by k_asm) (by walk_at "my mem"))) (by assumption) (by assumption) ?_; walk_at "my after"))
  k_with "call ref" => ((with_reducible show wpAny _ _ (call (Value.ref 473) _) _ _ _); k_dflt (refine' c_due_push (by walk_at "my rm") (by walk_at "my lay") (by exact News.get (by k_asm) (by walk_at "my mem")) (by assumption) (by walk_at "my room") ?_; intro _ _ _ _ _ _ _ k' n' o' nl' ol' _; (try dsimp only at k'); (try dsimp only at n'); (have _ := Fr.keeps (by k_asm) k'); (have _ := News.add (by k_asm) (News.addE (by k_asm) (by k_asm) k' nl' (by walk_at "my mem") ol') n' o'); (try k_sweep); clear k' n' o' nl' ol'))
  exact trivial
section
variable {prog : Program} {w : World} {A : Around} {E : Value → Shared → Prop} {s : Shared} {mg mb : Str → Option Value} {h₀ : Heap} {L : Addr} {m : Str → Option Value} {q : Qd} {dp un : Nat} {fr : Option (List Env)} {gd : Option (List Code)}
set_option maxHeartbeats 0 in
theorem c_poured {pa pc l : Addr} {rows : List (Array UInt8)} {cells : List Int} {sp : Nat} {gr : Int} {t u tk₁ tw tm : Tok} {n k1 c : Nat} {cs vs : List Value} {Q : Value → Shared → Prop} {g₀ : Heap} (R : Rm (AN dp un fr gd) 12) (Y : Lay w mg mb g₀) (k : Kp g₀ s.heap)
    (K : ∀ p ∈ [(pa, penObj pc sp gr t u n), (pc, W.listOf (List.toArray cs) k1), (l, W.listOf (List.toArray vs) c)], s.heap.get? p.1 = some p.2 ∧ g₀.get? p.1 = none) (hv : IntsAre cs cells) (hcl : cells.length ≤ 60) (hs : sp ≤ 90000) (hG : 0 ≤ gr) (hpc : pc ≠ pa) (hlp : l ≠ pa)
    (hB : BytesAre vs rows) (H : QAt prog w s.heap q) (hpq : pa ∉ q.as) (hcq : pc ∉ q.as) (hlq : l ∉ q.as) (hq : q.Ok) (hr : Holds q rows)
    (hQ : ∀ sp' gr' t' u' n' h' tk, (∀ b o, b ≠ pa → s.heap.get? b = some o → h'.get? b = some o) → h'.get? pa = some (penObj pc sp' gr' t' u' n') → 0 ≤ gr' → sp' ≤ sp + 2 → Q (.bool true) { s with heap := h', toks := tk }) :
    wpT (model prog w) (AN dp un fr gd) (call (.ref 499) [.ref pa, .ref q.x, .str q.kind tk₁, .ref l, .int q.wd tw, .int q.most tm]) Q E s := by
  have hKc := (K _ (.tail _ (.head _))).1
  have hKl := (K _ (.tail _ (.tail _ (.head _)))).1
  have hrl : rows.length ≤ 6 := by have := hr.1; have := Qd.cnt_le hq; have := hq.most1; omega
  refine wpT_call ?_
  refine' enterX (b := true) (binds := [(Str.ofString "pen", .ref pa), (Str.ofString "one", .ref q.x), (Str.ofString "kind", .str q.kind tk₁), (Str.ofString "rows", .ref l), (Str.ofString "width", .int q.wd tw), (Str.ofString "most", .int q.most tm)]) [(pa, penObj pc sp gr t u n), (pc, W.listOf (List.toArray cs) k1), (l, W.listOf (List.toArray vs) c)] ?k0 R Y k ?k1 ?k2 ?k3 ?k4 ?_ ?k5 ?k6 ?k7 ?k8
  case k0 => exact K
  case k1 => k_is
  case k2 => k_is
  case k3 => exact BindsTo.of_eq rfl
  case k4 => exact locs rfl
  case k5 => decide
  case k6 => exact rfl
  case k7 => exact rfl
  case k8 => exact rfl
  clear Y k K
  intro L h₁ Y Hg F N R'
  change Lay w mg mb (hideAll s.heap [pa, pc, l]) at Y
  change Hid s.heap (hideAll s.heap [pa, pc, l]) [pa, pc, l] at Hg
  change Fr (hideAll s.heap [pa, pc, l]) L h₁ _ at F
  change News (hideAll s.heap [pa, pc, l]) L h₁ _ at N
  generalize hideAll s.heap [pa, pc, l] = g at Y Hg F N
  have X := Y.X
  have T := Y.T
  have Hq : QAt prog w g q := by
    obtain ⟨qs, i, kq⟩ := H
    refine ⟨qs, i, fun p hp => Hg.get _ _ (kq p hp) fun hm => ?_⟩
    have ha : p.1 ∈ q.as := i.addrs ▸ List.mem_map_of_mem hp
    rcases List.mem_cons.mp hm with h1 | hm
    · exact hpq (h1 ▸ ha)
    rcases List.mem_cons.mp hm with h1 | hm
    · exact hcq (h1 ▸ ha)
    · exact hlq (List.mem_singleton.mp hm ▸ ha)
  have hap : ∀ p ∈ [(pc, W.listOf (List.toArray cs) k1), (l, W.listOf (List.toArray vs) c)], p.1 ≠ pa := fun p hp => by
    rcases List.mem_cons.mp hp with rfl | hp
    · exact hpc
    · rcases List.mem_singleton.mp hp with rfl; exact hlp
  clear H
  refine wpX_execs_cons (wpX.of ?_)
  refine wpAny_mono (Q := fun f s' => (Ex14 fun h' tk m' ok t1 sz t2 fl t3 sp' gr' t4 t5 n4 => All17 (f = .next) (s' = { s with heap := h', toks := tk }) (Fr g L h' m') (m' (Str.ofString "other") = some (.str ok t1)) (m' (Str.ofString "size") = some (.int sz t2)) (m' (Str.ofString "flags") = some (.int fl t3)) (m' (Str.ofString "one") = some (.ref q.x)) (m' (Str.ofString "kind") = some (.str q.kind tk₁)) (m' (Str.ofString "rows") = some (.ref l)) (m' (Str.ofString "width") = some (.int q.wd tw)) (m' (Str.ofString "most") = some (.int q.most tm)) ((ok = Str.ofString "queue" ∨ ok = Str.ofString "stack")) (1 ≤ sz) (sz ≤ 6) (sp' ≤ sp + 2) (0 ≤ gr') (News g L h' [(pa, penObj pc sp' gr' t4 t5 n4), (pc, W.listOf (List.toArray cs) k1), (l, W.listOf (List.toArray vs) c)]))) ?_ (fun f s' hf => ?_) (fun _ _ h => h)
  ·
    repeat' ((fail_if_success (first | (with_reducible show Exists _) | (with_reducible show wpAny _ _ (exec (Stmt.While _ _ _ _) _) _ _ _) | (with_reducible show wpAny _ _ (exec (Stmt.For _ _ _ _ _) _) _ _ _) | (with_reducible show wpAny _ _ (eval (Expr.ListComp _ _ _ _) _) _ _ _))); first | (k_unfold; (try dsimp only)) | walk1 | (dsimp only; walk1))
    all_goals (try dsimp only)
    all_goals
      rename Fr _ _ _ _ => F3
      rename News _ _ _ _ => N3
      rename _ = some _ => hx
    · obtain ⟨z, tz, rfl, _⟩ := IntsAre.at (.cons _ _ (.cons _ _ (.cons _ _ (.cons _ _ .nil)))) _ _ hx
      refine ⟨_, _, _, _, _, _, _, _, _, _, _, _, _, _, trivial, rfl, F3, rfl, rfl, rfl, rfl, rfl, rfl, rfl, rfl, .inr rfl, ?_, ?_, ?_, ?_, News.mono N3 fun p hp => .tail _ (.tail _ hp)⟩
      all_goals omega
    · obtain ⟨z, tz, rfl, _⟩ := IntsAre.at (.cons _ _ (.cons _ _ (.cons _ _ (.cons _ _ .nil)))) _ _ hx
      refine ⟨_, _, _, _, _, _, _, _, _, _, _, _, _, _, trivial, rfl, F3, rfl, rfl, rfl, rfl, rfl, rfl, rfl, rfl, .inl rfl, ?_, ?_, ?_, ?_, News.mono N3 fun p hp => .tail _ (.tail _ hp)⟩
      all_goals omega
  · obtain ⟨h2, tk2, m2, ok, t1, sz, t2, fl, t3, sp', gr', t4, t5, n4, rfl, rfl, F2, e1, e2, e3, e4, e5, e6, e7, e8, hok, hsz0, hsz1, hsp, hgr, N2⟩ := hf
    clear F N hap
    dsimp only
    refine wpX_execs_cons (wpX.of ?_)
    repeat' ((fail_if_success (first | (with_reducible show Exists _) | (with_reducible show wpAny _ _ (exec (Stmt.While _ _ _ _) _) _ _ _) | (with_reducible show wpAny _ _ (exec (Stmt.For _ _ _ _ _) _) _ _ _) | (with_reducible show wpAny _ _ (eval (Expr.ListComp _ _ _ _) _) _ _ _))); first | (k_unfold; (try dsimp only)) | walk1 | (dsimp only; walk1))
    rename Fr _ _ _ _ => F3
    rename News _ _ _ _ => N3
    refine c_make (Rm.mono R' (by decide)) (Y.keeps F3.keep) hok ⟨hq.wd0, hq.wd1⟩ ⟨hsz0, hsz1⟩ fun q2 h3 tk3 k3 fr3 z1 z2 z3 z4 z5 z6 H3 ok3 => ?_
    obtain ⟨qs2, I2, N4', nd4⟩ := News.made F3 N3 k3 fr3 H3
    have N4 : News g L h3 ((pa, penObj pc sp' gr' t4 t5 n4) :: (pc, W.listOf (List.toArray cs) k1) :: (l, W.listOf (List.toArray vs) c) :: qs2) := News.mono N4' fun p hp => by
      rcases List.mem_cons.mp hp with rfl | hp
      · exact List.mem_append_right _ (.head _)
      rcases List.mem_cons.mp hp with rfl | hp
      · exact List.mem_append_right _ (.tail _ (.head _))
      rcases List.mem_cons.mp hp with rfl | hp
      · exact List.mem_append_right _ (.tail _ (.tail _ (.head _)))
      · exact List.mem_append_left _ hp
    clear N4'
    have F4 := F3.keeps k3
    clear F3 N3 k3 fr3 H3
    dsimp only
    repeat' ((fail_if_success (first | (with_reducible show Exists _) | (with_reducible show wpAny _ _ (exec (Stmt.While _ _ _ _) _) _ _ _) | (with_reducible show wpAny _ _ (exec (Stmt.For _ _ _ _ _) _) _ _ _) | (with_reducible show wpAny _ _ (eval (Expr.ListComp _ _ _ _) _) _ _ _))); first | (k_unfold; (try dsimp only)) | walk1 | (dsimp only; walk1))
    refine wpX_execs_cons ?_
    refine my_For (wpX.of ?_)
    repeat' ((fail_if_success (first | (with_reducible show Exists _) | (with_reducible show wpAny _ _ (exec (Stmt.While _ _ _ _) _) _ _ _) | (with_reducible show wpAny _ _ (exec (Stmt.For _ _ _ _ _) _) _ _ _) | (with_reducible show wpAny _ _ (eval (Expr.ListComp _ _ _ _) _) _ _ _))); first | (k_unfold; (try dsimp only)) | walk1 | (dsimp only; walk1))
    rename_i h9 tk9 t₁ u₁ v₁ hR F9 N9 k9
    obtain ⟨m9, lr, cr, F10, f1, f2, f3, f4, f5, f6, f7, f8, f9, f10, N10⟩ : (Ex3 fun m9 lr cr => All12 (Fr g L h9 m9) (m9 (Str.ofString "goal") = some (.ref q2.x)) (m9 (Str.ofString "row") = some (.ref lr)) (m9 (Str.ofString "left") = some (.ref l)) ((∃ tc, m9 (Str.ofString "count") = some (.int ((0 : Nat) : Int) tc))) (m9 (Str.ofString "size") = some (.int sz t2)) (m9 (Str.ofString "flags") = some (.int fl t3)) (m9 (Str.ofString "one") = some (.ref q.x)) ((m9 (Str.ofString "kind") = some (.str q.kind tk₁) ∧ m9 (Str.ofString "other") = some (.str ok t1))) (m9 (Str.ofString "rows") = some (.ref l)) ((m9 (Str.ofString "width") = some (.int q.wd tw) ∧ m9 (Str.ofString "most") = some (.int q.most tm))) (News g L h9 ((lr, W.listOf (List.toArray []) cr) :: (pa, penObj pc sp' gr' t4 t5 n4) :: (pc, W.listOf (List.toArray cs) k1) :: (l, W.listOf (List.toArray vs) c) :: qs2))) :=
      ⟨_, _, _, F9, rfl, rfl, rfl, ⟨_, rfl⟩, (if_neg (by decide +kernel)).trans ((if_neg (by decide +kernel)).trans ((if_neg (by decide +kernel)).trans ((if_neg (by decide +kernel)).trans e2))), (if_neg (by decide +kernel)).trans ((if_neg (by decide +kernel)).trans ((if_neg (by decide +kernel)).trans ((if_neg (by decide +kernel)).trans e3))),
        (if_neg (by decide +kernel)).trans ((if_neg (by decide +kernel)).trans ((if_neg (by decide +kernel)).trans ((if_neg (by decide +kernel)).trans e4))), ⟨(if_neg (by decide +kernel)).trans ((if_neg (by decide +kernel)).trans ((if_neg (by decide +kernel)).trans ((if_neg (by decide +kernel)).trans e5))), (if_neg (by decide +kernel)).trans ((if_neg (by decide +kernel)).trans ((if_neg (by decide +kernel)).trans ((if_neg (by decide +kernel)).trans e1)))⟩,
        (if_neg (by decide +kernel)).trans ((if_neg (by decide +kernel)).trans ((if_neg (by decide +kernel)).trans ((if_neg (by decide +kernel)).trans e6))), ⟨(if_neg (by decide +kernel)).trans ((if_neg (by decide +kernel)).trans ((if_neg (by decide +kernel)).trans ((if_neg (by decide +kernel)).trans e7))), (if_neg (by decide +kernel)).trans ((if_neg (by decide +kernel)).trans ((if_neg (by decide +kernel)).trans ((if_neg (by decide +kernel)).trans e8)))⟩, News.mono N9 fun p hp => .tail _ hp⟩
    clear F9 N9 e1 e2 e3 e4 e5 e6 e7 e8
    obtain ⟨tc0, f4⟩ := f4
    have hI0q : ∀ p ∈ qs2, p.1 ≠ h9.objs.size := fun p hp => Nat.ne_of_lt (Heap.lt_size (N10 p (.tail _ (.tail _ (.tail _ (.tail _ hp))))).1)
    refine range_loopP hR (by omega) rfl (fun i s' => (Ex12 fun h tk m' lrow vrow crow row1 lleft vleft cleft left1 tcnt => All12 (s' = { s with heap := h, toks := tk }) (Fr g L h m') ((∀ y, y ∉ pourNames → m' y = m9 y)) (m' (Str.ofString "row") = some (.ref lrow)) (m' (Str.ofString "left") = some (.ref lleft)) (m' (Str.ofString "count") = some (.int (i : Int) tcnt)) (News g L h ((h9.objs.size, riter rows.length i) :: (lrow, W.listOf (List.toArray vrow) crow) :: (lleft, W.listOf (List.toArray vleft) cleft) :: (pa, penObj pc sp' gr' t4 t5 n4) :: (pc, W.listOf (List.toArray cs) k1) :: (l, W.listOf (List.toArray vs) c) :: qs2)) (BytesAre vrow row1) (BytesAre vleft left1) (left1.length + i = rows.length) (row1.length ≤ i) (pourD q.kind sz fl rows.length rows [] = ((pourD q.kind sz fl left1.length left1 row1).1, (pourD q.kind sz fl left1.length left1 row1).2.1, (pourD q.kind sz fl left1.length left1 row1).2.2 + i)))) (fun s' => (Ex13 fun h tk m' lrow vrow crow row1 lleft vleft cleft left1 (cnt : Nat) (tcnt : Tok) => All10 (s' = { s with heap := h, toks := tk }) (Fr g L h m') ((∀ y, y ∉ pourNames → m' y = m9 y)) (m' (Str.ofString "row") = some (.ref lrow)) (m' (Str.ofString "left") = some (.ref lleft)) (m' (Str.ofString "count") = some (.int (cnt : Int) tcnt)) (News g L h ((lrow, W.listOf (List.toArray vrow) crow) :: (lleft, W.listOf (List.toArray vleft) cleft) :: (pa, penObj pc sp' gr' t4 t5 n4) :: (pc, W.listOf (List.toArray cs) k1) :: (l, W.listOf (List.toArray vs) c) :: qs2)) (BytesAre vrow row1) (BytesAre vleft left1) (pourD q.kind sz fl rows.length rows [] = (left1, row1, cnt)))) ?init ?hst ?turn ?done ?rest
    case init =>
      refine ⟨h9.push (riter rows.length 0), _, m9, lr, [], cr, [], l, vs, c, rows, tc0, rfl, F10.push _, fun _ _ => rfl, f2, f3, f4, (News.mono N10 fun p hp => ?_).push F10 _, .nil, hB, rfl, Nat.le_refl _, rfl⟩
      rcases List.mem_cons.mp hp with rfl | hp
      · exact .head _
      rcases List.mem_cons.mp hp with rfl | hp
      · exact .tail _ (.tail _ (.tail _ (.head _)))
      · exact .tail _ hp
    case hst =>
      rintro i s' ⟨h, tk, m', lrow, vrow, crow, row1, lleft, vleft, cleft, left1, tcnt, rfl, F, hm, g1, g2, g3, N, _, _, _, _, _⟩
      exact (N _ (.head _)).1
    case turn =>
      rintro i ti s₁ h' tk' hin ⟨h, tk, m', lrow, vrow, crow, row1, lleft, vleft, cleft, left1, tcnt, rfl, F, hm, g1, g2, g3, N, hrw, hlf, hll, hrl1, hd⟩ hI' hk
      have nl : ∀ {a : Addr} {us : List Value} {z : Nat}, h.get? a = some (W.listOf (List.toArray us) z) → a ≠ h9.objs.size := fun e q => by
        rw [q, (N _ (.head _)).1] at e
        have h2 : Value.type "range_iterator" = Value.type "list" := congrArg Obj.cls (Option.some.inj e)
        simp at h2
      obtain ⟨F5, N5⟩ := iter_step F N (fun p hp => by
        rcases List.mem_cons.mp hp with rfl | hp
        · exact nl (N _ (.tail _ (.head _))).1
        rcases List.mem_cons.mp hp with rfl | hp
        · exact nl (N _ (.tail _ (.tail _ (.head _)))).1
        rcases List.mem_cons.mp hp with rfl | hp
        · exact nl (N (pa, _) (.tail _ (.tail _ (.tail _ (.head _))))).1
        rcases List.mem_cons.mp hp with rfl | hp
        · exact nl (N (pc, _) (.tail _ (.tail _ (.tail _ (.tail _ (.head _)))))).1
        rcases List.mem_cons.mp hp with rfl | hp
        · exact nl (N (l, _) (.tail _ (.tail _ (.tail _ (.tail _ (.tail _ (.head _))))))).1
        · exact hI0q p hp) hk hI'
      clear F N nl
      dsimp only
      repeat' ((fail_if_success (first | (with_reducible show Exists _) | (with_reducible show wpAny _ _ (exec (Stmt.While _ _ _ _) _) _ _ _) | (with_reducible show wpAny _ _ (exec (Stmt.For _ _ _ _ _) _) _ _ _) | (with_reducible show wpAny _ _ (eval (Expr.ListComp _ _ _ _) _) _ _ _))); first | (k_unfold; (try dsimp only)) | walk1 | (dsimp only; walk1))
      rename Fr _ _ _ _ => F6
      obtain ⟨m2, F7, hm2, g1', g2', g3'⟩ : ∃ m2, All5 (Fr g L _ m2) ((∀ y, y ∉ pourNames → m2 y = m9 y)) (m2 (Str.ofString "row") = some (.ref lrow)) (m2 (Str.ofString "left") = some (.ref lleft)) (m2 (Str.ofString "count") = some (.int (i : Int) tcnt)) :=
        ⟨_, F6, fun y hy => (if_neg (fun e => hy (by rw [e]; exact List.Mem.head _))).trans (hm y hy), (if_neg (by decide +kernel)).trans g1, (if_neg (by decide +kernel)).trans g2, (if_neg (by decide +kernel)).trans g3⟩
      have b1 := (hm2 (Str.ofString "kind") (by decide +kernel)).trans f8.1
      have b2 := (hm2 (Str.ofString "size") (by decide +kernel)).trans f5
      have b3 := (hm2 (Str.ofString "flags") (by decide +kernel)).trans f6
      have hl0 : left1.length ≤ 6 := by omega
      clear F6 hm g1 g2 g3
      refine wpX.of ?_
      repeat' ((fail_if_success (first | (with_reducible show Exists _) | (with_reducible show wpAny _ _ (exec (Stmt.If _ _ _ _) _) _ _ _) | (with_reducible show wpAny _ _ (exec (Stmt.While _ _ _ _) _) _ _ _) | (with_reducible show wpAny _ _ (exec (Stmt.For _ _ _ _ _) _) _ _ _) | (with_reducible show wpAny _ _ (eval (Expr.ListComp _ _ _ _) _) _ _ _))); first | (k_unfold; (try dsimp only)) | walk1 | (dsimp only; walk1))
      have hne : left1 ≠ [] := fun e => by rw [e] at hll; simp at hll; omega
      obtain ⟨b, pb, _, pl⟩ := duePop_inTurn (kind := q.kind) hne
      rename IsOpt _ _ => hx
      rw [pb] at hx
      obtain ⟨tb, rfl⟩ := hx
      have hrl2 : row1.length ≤ 6 := by omega
      repeat' ((fail_if_success (first | (with_reducible show Exists _) | (with_reducible show wpAny _ _ (exec (Stmt.If _ _ _ _) _) _ _ _) | (with_reducible show wpAny _ _ (exec (Stmt.While _ _ _ _) _) _ _ _) | (with_reducible show wpAny _ _ (exec (Stmt.For _ _ _ _ _) _) _ _ _) | (with_reducible show wpAny _ _ (eval (Expr.ListComp _ _ _ _) _) _ _ _))); first | (k_unfold; (try dsimp only)) | walk1 | (dsimp only; walk1))
      walk1
      repeat' ((fail_if_success (first | (with_reducible show Exists _) | (with_reducible show wpAny _ _ (exec (Stmt.While _ _ _ _) _) _ _ _) | (with_reducible show wpAny _ _ (exec (Stmt.For _ _ _ _ _) _) _ _ _) | (with_reducible show wpAny _ _ (eval (Expr.ListComp _ _ _ _) _) _ _ _))); first | (k_unfold; (try dsimp only)) | walk1 | (dsimp only; walk1))
      all_goals (try dsimp only)
      all_goals
        rename Fr _ _ _ _ => F8
        rename News _ _ _ _ => N8
        obtain ⟨kk, hkk⟩ : ∃ kk, left1.length = kk + 1 := ⟨left1.length - 1, by omega⟩
        rw [hkk] at hd
      · have ha : (duePush sz row1 b fl).1 ≠ 0 := by assumption
        have e : pourD q.kind sz fl (kk + 1) left1 row1 = (left1, row1, 0) := by rw [pourD, pb]; simp [ha]
        rw [e] at hd
        simp only [Nat.zero_add] at hd
        refine ⟨_, _, _, lrow, vrow, crow, row1, lleft, vleft, cleft, left1, i, tcnt, rfl, F8, fun y hy => ?_, ?_, ?_, ?_, News.mono N8 fun p hp => ?_, hrw, hlf, hd⟩
        · have h1 := hy
          simp only [pourNames, List.mem_cons, List.not_mem_nil, or_false, not_or] at h1
          simp only [h1, if_false]
          exact hm2 y hy
        · exact (if_neg (by decide +kernel)).trans ((if_neg (by decide +kernel)).trans ((if_neg (by decide +kernel)).trans ((if_neg (by decide +kernel)).trans g1')))
        · exact (if_neg (by decide +kernel)).trans ((if_neg (by decide +kernel)).trans ((if_neg (by decide +kernel)).trans ((if_neg (by decide +kernel)).trans g2')))
        · exact (if_neg (by decide +kernel)).trans ((if_neg (by decide +kernel)).trans ((if_neg (by decide +kernel)).trans ((if_neg (by decide +kernel)).trans g3')))
        · exact .tail _ (.tail _ (.tail _ (.tail _ (.tail _ hp))))
      · have ha : (duePush sz row1 b fl).1 = 0 := by assumption
        have e : pourD q.kind sz fl (kk + 1) left1 row1 = ((pourD q.kind sz fl kk (duePop q.kind left1).2 (duePush sz row1 b fl).2).1, (pourD q.kind sz fl kk (duePop q.kind left1).2 (duePush sz row1 b fl).2).2.1, (pourD q.kind sz fl kk (duePop q.kind left1).2 (duePush sz row1 b fl).2).2.2 + 1) := by rw [pourD, pb]; simp [ha]
        have hkl : (duePop q.kind left1).2.length = kk := by omega
        rename BytesAre _ (duePush sz row1 b fl).2 => hBr
        rename BytesAre _ (duePop q.kind left1).2 => hBl
        have N9 := pick_news N8
        refine ⟨_, _, _, _, _, _, (duePush sz row1 b fl).2, _, _, _, (duePop q.kind left1).2, _, rfl, F8, fun y hy => ?_, if_pos rfl, (if_neg (by decide +kernel)).trans (if_pos rfl), (if_neg (by decide +kernel)).trans ((if_neg (by decide +kernel)).trans (if_pos rfl)), N9, hBr, hBl, by omega, ?_, ?_⟩
        · have h1 := hy
          simp only [pourNames, List.mem_cons, List.not_mem_nil, or_false, not_or] at h1
          simp only [h1, if_false]
          exact hm2 y hy
        · have := duePush_len (most := sz) (rows := row1) (b := b) (fl := fl); omega
        · rw [hd, e, hkl]
          simp [Nat.add_assoc, Nat.add_comm 1 i]
    case done =>
      rintro s₁ h' tk' ⟨h, tk, m', lrow, vrow, crow, row1, lleft, vleft, cleft, left1, tcnt, rfl, F, hm, g1, g2, g3, N, hrw, hlf, hll, hrl1, hd⟩ hk
      have nl : ∀ {a : Addr} {us : List Value} {z : Nat}, h.get? a = some (W.listOf (List.toArray us) z) → a ≠ h9.objs.size := fun e q => by
        rw [q, (N _ (.head _)).1] at e
        have h2 : Value.type "range_iterator" = Value.type "list" := congrArg Obj.cls (Option.some.inj e)
        simp at h2
      obtain ⟨F5, N5⟩ := iter_end F N (fun p hp => by
        rcases List.mem_cons.mp hp with rfl | hp
        · exact nl (N _ (.tail _ (.head _))).1
        rcases List.mem_cons.mp hp with rfl | hp
        · exact nl (N _ (.tail _ (.tail _ (.head _)))).1
        rcases List.mem_cons.mp hp with rfl | hp
        · exact nl (N (pa, _) (.tail _ (.tail _ (.tail _ (.head _))))).1
        rcases List.mem_cons.mp hp with rfl | hp
        · exact nl (N (pc, _) (.tail _ (.tail _ (.tail _ (.tail _ (.head _)))))).1
        rcases List.mem_cons.mp hp with rfl | hp
        · exact nl (N (l, _) (.tail _ (.tail _ (.tail _ (.tail _ (.tail _ (.head _))))))).1
        · exact hI0q p hp) hk
      have z : left1 = [] := List.length_eq_zero_iff.mp (by omega)
      subst z
      refine ⟨_, _, _, lrow, vrow, crow, row1, lleft, vleft, cleft, [], rows.length, tcnt, rfl, F5, hm, g1, g2, g3, N5, hrw, hlf, ?_⟩
      rw [hd]; simp [pourD]
    case rest =>
      rintro s' ⟨h, tk, m', lrow, vrow, crow, row1, lleft, vleft, cleft, left1, cnt, tcnt, rfl, F, hm, g1, g2, g3, N, hrw, hlf, hd⟩
      have b0 := (hm (Str.ofString "one") (by decide +kernel)).trans f7
      dsimp only
      refine wpX_execs_cons (wpX_Assign (wpX_CallMeth ?_))
      repeat' ((fail_if_success (first | (with_reducible show Exists _) | (with_reducible show wpAny _ _ (exec (Stmt.While _ _ _ _) _) _ _ _) | (with_reducible show wpAny _ _ (exec (Stmt.For _ _ _ _ _) _) _ _ _) | (with_reducible show wpAny _ _ (eval (Expr.ListComp _ _ _ _) _) _ _ _))); first | (k_unfold; (try dsimp only)) | walk1 | (dsimp only; walk1))
      dsimp only
      refine wpX_callWith_K0 (X.keeps F.keep) (by k_is) ?_
      refine c_copy (Rm.mono R' (by decide)) (Y.keeps F.keep) (Hq.keeps F.keep) hq hr fun q3 h3 tk3 k3 fr3 x1 x2 x3 hr3 H3 okc => ?_
      obtain ⟨qs3, I3, N3, nd3⟩ := News.made F N k3 fr3 H3
      have F3 := F.keeps k3
      clear F N k3 H3
      dsimp only
      refine wpX.of ?_
      repeat' ((fail_if_success (first | (with_reducible show Exists _) | (with_reducible show wpAny _ _ (exec (Stmt.While _ _ _ _) _) _ _ _) | (with_reducible show wpAny _ _ (exec (Stmt.For _ _ _ _ _) _) _ _ _) | (with_reducible show wpAny _ _ (eval (Expr.ListComp _ _ _ _) _) _ _ _))); first | (k_unfold; (try dsimp only)) | walk1 | (dsimp only; walk1))
      rename Fr _ _ _ _ => F4
      rename News _ _ _ _ => N4
      obtain ⟨m4, F5, hm4, p1, p2, p3, p4⟩ : ∃ m4, All6 (Fr g L _ m4) ((∀ y, y ∉ Str.ofString "spare" :: pourNames → m4 y = m9 y)) (m4 (Str.ofString "spare") = some (.ref q3.x)) (m4 (Str.ofString "row") = some (.ref lrow)) (m4 (Str.ofString "left") = some (.ref lleft)) (m4 (Str.ofString "count") = some (.int (cnt : Int) tcnt)) :=
        ⟨_, F4, fun y hy => (if_neg (fun e => hy (by rw [e]; exact List.Mem.head _))).trans (hm y (fun h => hy (.tail _ h))), if_pos rfl, (if_neg (by decide +kernel)).trans g1, (if_neg (by decide +kernel)).trans g2, (if_neg (by decide +kernel)).trans g3⟩
      have c1 := (hm4 (Str.ofString "goal") (by decide +kernel)).trans f1
      have c2 := (hm4 (Str.ofString "flags") (by decide +kernel)).trans f6
      clear F4 hm g1 g2 g3
      refine wpX_execs_cons (wpX_If (wpX_isCompare (wpX_CallName ?_)))
      repeat' ((fail_if_success (first | (with_reducible show Exists _) | (with_reducible show wpAny _ _ (exec (Stmt.While _ _ _ _) _) _ _ _) | (with_reducible show wpAny _ _ (exec (Stmt.For _ _ _ _ _) _) _ _ _) | (with_reducible show wpAny _ _ (eval (Expr.ListComp _ _ _ _) _) _ _ _))); first | (k_unfold; (try dsimp only)) | walk1 | (dsimp only; walk1))
      dsimp only
      refine wpX_callWith_K X (by k_is) ?_
      repeat' ((fail_if_success (first | (with_reducible show Exists _) | (with_reducible show wpAny _ _ (exec (Stmt.While _ _ _ _) _) _ _ _) | (with_reducible show wpAny _ _ (exec (Stmt.For _ _ _ _ _) _) _ _ _) | (with_reducible show wpAny _ _ (eval (Expr.ListComp _ _ _ _) _) _ _ _))); first | (k_unfold; (try dsimp only)) | walk1 | (dsimp only; walk1))
      rename Fr _ _ _ _ => F6
      rename News _ _ _ _ => N6
      have O3 := Own.of_hid I3 (News.mono N6 (by walk_at "my sub")) okc.ad
      have O2 := Own.of_hid I2 (News.mono N6 (by walk_at "my sub")) ok3.ad
      have ap32 : ∀ a ∈ q3.as, a ∉ q2.as := fun a h1 h2 => by
        rw [← I2.addrs] at h2
        obtain ⟨e, he, rfl⟩ := List.mem_map.mp h2
        exact nd3 e (.tail _ (.tail _ (.tail _ (.tail _ (.tail _ he))))) h1
      have hwd : q2.wd = q3.wd := z2.trans x2.symm
      have ht0 : Holds q2 [] := Holds.none (z4.trans z5.symm)
      refine c_pour (g₀ := g) (Rm.mono R' (by decide)) Y F6.keep O3.ng O2.ng ap32 O3.at_ O2.at_ okc ok3 hwd hr3 ht0 fun q4 q5 t9 h7 tk7 st7 nq np ap7 H4 H5 ok4 ok5 sq4 sq5 hr4 hr5 => ?_
      rw [x1, z3, hd] at hr4 hr5 ⊢
      obtain ⟨qs4, I4, K4⟩ := H4
      obtain ⟨qs5, I5, K5⟩ := H5
      have N7 : News g L _ [(lrow, W.listOf (List.toArray vrow) crow), (lleft, W.listOf (List.toArray vleft) cleft), (pa, penObj pc sp' gr' t4 t5 n4), (pc, W.listOf (List.toArray cs) k1), (l, W.listOf (List.toArray vs) c)] := News.mono N6 fun e he => List.mem_append_right _ (by
        rcases List.mem_cons.mp he with rfl | he
        · exact .head _
        rcases List.mem_cons.mp he with rfl | he
        · exact .tail _ (.head _)
        rcases List.mem_cons.mp he with rfl | he
        · exact .tail _ (.tail _ (.head _))
        rcases List.mem_cons.mp he with rfl | he
        · exact .tail _ (.tail _ (.tail _ (.head _)))
        · rcases List.mem_singleton.mp he with rfl
          exact .tail _ (.tail _ (.tail _ (.tail _ (.head _)))))
      obtain ⟨F7, N8⟩ := two_keep F6 N7 st7 O3 O2 (fun e he => by
        rcases List.mem_cons.mp he with rfl | he
        · exact ⟨list_not_at O3.at_ (N7 _ (.head _)).1, list_not_at O2.at_ (N7 _ (.head _)).1⟩
        rcases List.mem_cons.mp he with rfl | he
        · exact ⟨list_not_at O3.at_ (N7 _ (.tail _ (.head _))).1, list_not_at O2.at_ (N7 _ (.tail _ (.head _))).1⟩
        rcases List.mem_cons.mp he with rfl | he
        · exact ⟨list_not_at O3.at_ (N7 (pa, _) (.tail _ (.tail _ (.head _)))).1, list_not_at O2.at_ (N7 (pa, _) (.tail _ (.tail _ (.head _)))).1⟩
        rcases List.mem_cons.mp he with rfl | he
        · exact ⟨list_not_at O3.at_ (N7 (pc, _) (.tail _ (.tail _ (.tail _ (.head _))))).1, list_not_at O2.at_ (N7 (pc, _) (.tail _ (.tail _ (.tail _ (.head _))))).1⟩
        · rcases List.mem_singleton.mp he with rfl
          exact ⟨list_not_at O3.at_ (N7 (l, _) (.tail _ (.tail _ (.tail _ (.tail _ (.head _)))))).1, list_not_at O2.at_ (N7 (l, _) (.tail _ (.tail _ (.tail _ (.tail _ (.head _)))))).1⟩)
      have M4 := two_made F6 O3 O2 I4 K4 nq
      have M5 := two_made F6 O3 O2 I5 K5 np
      have N9 : News g L h7 ((lrow, W.listOf (List.toArray vrow) crow) :: (lleft, W.listOf (List.toArray vleft) cleft) :: (pa, penObj pc sp' gr' t4 t5 n4) :: (pc, W.listOf (List.toArray cs) k1) :: (l, W.listOf (List.toArray vs) c) :: (qs4 ++ qs5)) := fun e he => by
        rcases List.mem_append.mp (show e ∈ [_, _, _, _, _] ++ (qs4 ++ qs5) from he) with he | he
        · exact N8 e he
        · exact (List.mem_append.mp he).elim (M4 e) (M5 e)
      have y1 : q4.x = q3.x := sq4.1
      have y2 : q4.kind = q.kind := sq4.2.1.trans x1
      have y3 : q4.wd = q.wd := sq4.2.2.1.trans x2
      have y4 : q4.most = q.most := sq4.2.2.2.trans x3
      have y5 : q5.x = q2.x := sq5.1
      have y6 : q5.kind = ok := sq5.2.1.trans z1
      have y7 : q5.wd = q.wd := sq5.2.2.1.trans z2
      have y8 : q5.most = sz := sq5.2.2.2.trans z3
      have y9 : q.x = q.x ∧ q.kind = q.kind ∧ q.wd = q.wd ∧ q.most = q.most := ⟨rfl, rfl, rfl, rfl⟩
      obtain ⟨y9, y10, y11, y12⟩ := y9
      have c3 := (hm4 (Str.ofString "other") (by decide +kernel)).trans f8.2
      have c4 := (hm4 (Str.ofString "kind") (by decide +kernel)).trans f8.1
      have c5 := (hm4 (Str.ofString "width") (by decide +kernel)).trans f10.1
      have c6 := (hm4 (Str.ofString "most") (by decide +kernel)).trans f10.2
      have c7 := (hm4 (Str.ofString "size") (by decide +kernel)).trans f5
      have c8 := (hm4 (Str.ofString "rows") (by decide +kernel)).trans f9
      have c9 := (hm4 (Str.ofString "one") (by decide +kernel)).trans f7
      clear F6 N6 N7 N8 M4 M5 st7 nq np O3 O2 K4 K5 nd3 I3 I2
      dsimp only
      repeat' ((fail_if_success (first | (with_reducible show Exists _) | (with_reducible show wpAny _ _ (exec (Stmt.While _ _ _ _) _) _ _ _) | (with_reducible show wpAny _ _ (exec (Stmt.For _ _ _ _ _) _) _ _ _) | (with_reducible show wpAny _ _ (eval (Expr.ListComp _ _ _ _) _) _ _ _))); first | (k_unfold; (try dsimp only)) | walk1 | (dsimp only; walk1))
      refine wpX_execs_nil ?_
      dsimp only
      refine wpX_execs_cons (wpX.of ?_)
      repeat' ((fail_if_success (first | (with_reducible show Exists _) | (with_reducible show wpAny _ _ (exec (Stmt.While _ _ _ _) _) _ _ _) | (with_reducible show wpAny _ _ (exec (Stmt.For _ _ _ _ _) _) _ _ _) | (with_reducible show wpAny _ _ (eval (Expr.ListComp _ _ _ _) _) _ _ _))); first | (k_unfold; (try dsimp only)) | walk1 | (dsimp only; walk1))
      rename Fr _ _ _ _ => F8
      rename News _ _ _ _ => N8
      refine hQ sp' gr' t4 t5 n4 _ _ (fun b o hb e => ?_) (N8 (pa, _) (.tail _ (.tail _ (.head _)))).1 hgr hsp
      by_cases hc : b = pc
      · subst hc; rw [hKc] at e; cases e; exact (N8 (_, _) (.tail _ (.tail _ (.tail _ (.head _))))).1
      by_cases hc2 : b = l
      · subst hc2; rw [hKl] at e; cases e; exact (N8 (_, _) (.tail _ (.tail _ (.tail _ (.tail _ (.head _)))))).1
      exact F8.keep b o (Hg.get b o e (by simp [hb, hc, hc2]))
end

/-- what holds of the law's state: pre stands ahead in the ledger (the loop's iterator), bd the pen's bound -/
structure LawSt (prog : Program) (w : World) (g : Heap) (L : Addr) (kind : Str) (tkk : Tok) (wd : Nat) (mo : Int) (tm : Tok) (pa pc : Addr) (cs : List Value) (k1 : Nat) (o3 o4 : Obj) (pre : List (Addr × Obj)) (bd : Nat) (h : Heap) (m : Str → Option Value) (q : Qd) (qs : List (Addr × Obj)) (rs : List (Array UInt8)) (lr : Addr) (vs : List Value) (cr sp : Nat) (gr : Int) (ta tb : Tok) (n : Nat) : Prop where
  F : Fr g L h m
  one : m (Str.ofString "one") = some (.ref q.x)
  rows : m (Str.ofString "rows") = some (.ref lr)
  kd : m (Str.ofString "kind") = some (.str kind tkk)
  mst : m (Str.ofString "most") = some (.int mo tm)
  I : IsQ prog w q qs
  N : News g L h (pre ++ (lr, W.listOf (List.toArray vs) cr) :: (L + 1 + 1, o4) :: (L + 1, o3) :: (pa, penObj pc sp gr ta tb n) :: (pc, W.listOf (List.toArray cs) k1) :: qs)
  st : q.kind = kind ∧ q.wd = wd ∧ q.most = mo
  ok : q.Ok
  hr : Holds q rs
  hB : BytesAre vs rs
  hs : sp ≤ bd
  hg : 0 ≤ gr
inductive LawAt (prog : Program) (w : World) (s : Shared) (L : Addr) (kind : Str) (tkk : Tok) (wd : Nat) (mo : Int) (tm : Tok) (pa pc : Addr) (cs : List Value) (k1 : Nat) (o3 o4 : Obj) (pre : List (Addr × Obj)) (bd : Nat) : Shared → Prop
  | mk (h : Heap) (tk : Nat) (m : Str → Option Value) (q : Qd) (qs : List (Addr × Obj)) (rs : List (Array UInt8)) (lr : Addr) (vs : List Value) (cr : Nat) (sp : Nat) (gr : Int) (ta : Tok) (tb : Tok) (n : Nat) (S : LawSt prog w s.heap L kind tkk wd mo tm pa pc cs k1 o3 o4 pre bd h m q qs rs lr vs cr sp gr ta tb n) : LawAt prog w s L kind tkk wd mo tm pa pc cs k1 o3 o4 pre bd { s with heap := h, toks := tk }
theorem pushAll_snoc {most fl : Int} : ∀ (bs rows : List (Array UInt8)) (b : Array UInt8), pushAll most fl (bs ++ [b]) rows = ((pushAll most fl bs rows).1 ++ [(duePush most (pushAll most fl bs rows).2 b fl).1], (duePush most (pushAll most fl bs rows).2 b fl).2)
  | [], _, _ => rfl
  | c :: bs, rows, b => by
    show ((duePush most rows c fl).1 :: (pushAll most fl (bs ++ [b]) _).1, (pushAll most fl (bs ++ [b]) _).2) = _
    rw [pushAll_snoc bs]
    rfl
theorem pushAll_take {most fl : Int} {bs rows : List (Array UInt8)} {b : Array UInt8} {i : Nat} (h : bs[i]? = some b) : pushAll most fl (bs.take (i + 1)) rows = ((pushAll most fl (bs.take i) rows).1 ++ [(duePush most (pushAll most fl (bs.take i) rows).2 b fl).1], (duePush most (pushAll most fl (bs.take i) rows).2 b fl).2) := by
  rw [List.take_succ, h]
  exact pushAll_snoc _ _ _
theorem pushAll_len {most fl : Int} : ∀ (bs rows : List (Array UInt8)), (pushAll most fl bs rows).2.length ≤ rows.length + bs.length ∧ (pushAll most fl bs rows).1.length = bs.length
  | [], _ => ⟨Nat.le_refl _, rfl⟩
  | c :: bs, rows => by
    have h1 := pushAll_len (most := most) (fl := fl) bs (duePush most rows c fl).2
    have h2 := duePush_len (most := most) (rows := rows) (b := c) (fl := fl)
    refine ⟨?_, ?_⟩
    · show (pushAll most fl bs _).2.length ≤ _
      rw [List.length_cons]; omega
    · show ((duePush most rows c fl).1 :: (pushAll most fl bs _).1).length = _
      rw [List.length_cons, List.length_cons, h1.2]
theorem allLt_all {d : Addr} : ∀ {l : List (Addr × Obj)}, AllLt d l → ∀ p ∈ l, p.1 < d
  | [], _, _, h => nomatch h
  | p :: _, h, q, hq => by
    rcases List.mem_cons.mp hq with rfl | hq
    · exact h.1
    · exact allLt_all h.2 q hq
theorem liter_ne_list {h : Heap} {a b l : Addr} {us : List Value} {z i : Nat} (e : h.IsListIter a l i) (e' : h.get? b = some (W.listOf (List.toArray us) z)) : b ≠ a := fun q => by
  obtain ⟨o, e1, e2, e3⟩ := e
  rw [q, e1] at e'
  cases e'
  have h2 : Value.type "list" = Value.type "list_iterator" := e2
  simp at h2
section
variable {b : Bool} {prog : Program} {w : World} {A : Around} {E : Value → Shared → Prop} {s : Shared} {env : Env}
theorem list_loopP {x : Str} {px : Pos} {body : List Stmt} {Q : Flow → Shared → Prop} {l : Addr} {vs : List Value} {c : Nat} (hl : s.heap.get? l = some (W.listOf (List.toArray vs) c)) (hh : A.handled = none)
    (J : Nat → Shared → Prop) (P : Shared → Prop) (init : J 0 { s with heap := s.heap.push { cls := .type "list_iterator", data := .fields #[.ref l, .int 0 0] } }) (hst : ∀ i s', J i s' → s'.heap.IsListIter s.heap.objs.size l i ∧ s'.heap.IsList l vs.toArray)
    (turn : ∀ i v s₁ h' tk, vs[i]? = some v → J i s₁ → h'.IsListIter s.heap.objs.size l (i + 1) → (∀ a o, a ∉ [s.heap.objs.size] → s₁.heap.get? a = some o → h'.get? a = some o) →
      wpAny (model prog w) A (bindName env x v) (fun _ s₂ => wpX b (model prog w) A (execs body env) (TurnEnd (J (i + 1)) (fun f s' => match f with | .next => P s' | f => Q f s')) (fun _ _ => False) s₂) (fun _ _ => False) { s₁ with heap := h', toks := tk })
    (done : ∀ s₁ h' tk, J vs.length s₁ → (∀ a o, a ∉ [s.heap.objs.size] → s₁.heap.get? a = some o → h'.get? a = some o) → P { s₁ with heap := h', toks := tk })
    (rest : ∀ s', P s' → Q .next s') :
    wpAny (model prog w) A (pyIter (.ref l)) (fun it s₂ => codeX b (model prog w) A (.forLoop (.Name x px) it body [] env) (LoopR Q) s₂) E s := by
  have hL : s.heap.IsList l vs.toArray := ⟨_, hl, rfl, _, rfl⟩
  refine wpAny_pyIter_list hL ?_
  refine codeT_mono (codeX_for (Q := fun f s' => match f with | .next => P s' | f => Q f s') (Walks.list (prog := prog) (w := w) hh s.heap.objs.size l (Nat.ne_of_lt (Heap.lt_size hl)) vs.toArray) J hst
    (fun i v s₁ h' tk hi hJ hP hS hk => turn i v s₁ h' tk (by simpa using hP) hJ hS.1 hk) (fun s₁ h' tk hJ hk => done s₁ h' tk (by simpa using hJ) hk) _ 0 _ (Nat.sub_zero _) (Nat.zero_le _) init) fun r s' h' => ?_
  cases r with
  | error e => exact h'
  | ok f => cases f with
    | next => exact rest _ h'
    | cont => exact h'
    | brk => exact h'
    | ret v => exact h'
end
theorem turnRows_queue {rows : List (Array UInt8)} : turnRows (Str.ofString "queue") rows = rows.tail ++ rows.take 1 := by
  unfold turnRows duePop
  cases rows with
  | nil => rfl
  | cons b t => rfl
theorem turnRows_stack {rows : List (Array UInt8)} : turnRows (Str.ofString "stack") rows = rows := by
  unfold turnRows duePop
  by_cases h : rows = []
  · subst h; rfl
  · rw [if_neg h, if_neg (by decide +kernel)]
    dsimp only
    rw [List.getLast?_eq_some_getLast h]
    exact List.dropLast_concat_getLast h
theorem turnN_stack {rows : List (Array UInt8)} : ∀ n, turnN (Str.ofString "stack") rows n = rows
  | 0 => rfl
  | n + 1 => by show turnRows _ (turnN _ _ n) = _; rw [turnN_stack n, turnRows_stack]
theorem turnN_empty {kind : Str} (n : Nat) : turnN kind [] n = [] := turnN_nil.mpr rfl
section
variable {prog : Program} {w : World} {A : Around} {E : Value → Shared → Prop} {s : Shared} {mg mb : Str → Option Value} {h₀ : Heap} {L : Addr} {m : Str → Option Value} {q : Qd} {dp un : Nat} {fr : Option (List Env)} {gd : Option (List Code)}
theorem st_cell {g : Heap} {env : Env} {name : Str} {cL : Addr} {oc : Obj} {v₀ : Option Value} {v : Value} {news : List (Addr × Obj)} {Q : Unit → Shared → Prop} (F : Fr g L s.heap m) (N : News g L s.heap ((cL, oc) :: news)) (d : oc.data = .cell v₀) (ap : ∀ p ∈ news, p.1 ≠ cL)
    (hk : env.scope.kind = .function) (hl : env.kindOf name = some .cell) (hc : env.cells.lookup name = some cL)
    (h : ∀ h' oc', oc'.data = .cell (some v) → Fr g L h' m → News g L h' ((cL, oc') :: news) → Q () { s with heap := h' }) : wpAny (model prog w) A (storeName env name v) Q E s := by
  have n := N _ (.head _)
  refine wpAny_storeName_cell hk hl hc ⟨_, n.1, d⟩ fun h' hc' hs => ?_
  obtain ⟨oc', e, d'⟩ := hc'
  refine h h' oc' d' (F.change hs n.2.1 n.2.2) fun p hp => ?_
  rcases List.mem_cons.mp hp with rfl | hp
  · exact ⟨e, n.2⟩
  · exact ⟨hs.extBut _ _ (ap p hp) (N p (.tail _ hp)).1, (N p (.tail _ hp)).2⟩
theorem nameE_L {M : Model} {g : Heap} {x name : Str} {pos : Pos} {scope : Scope} {a : Addr} {cd v : Value} {Q : Value → Shared → Prop} (F : Fr g L s.heap m) (hv : m x = some v) (h : Q v s) (hk : (envOfC name scope L a cd).scope.kind = .function) (hx : (envOfC name scope L a cd).kindOf x = some .local)
    (hd : (x == ("__debug__" : Str)) = false) : wpAny M A (eval (.Name x pos) (envOfC name scope L a cd)) Q E s := wpAny_Name (wpAny_loadName_local hk hx F.ns hv h) hd
theorem pick2 {a b x : Value} {i : Nat} (h : [a, b][i]? = some x) : x = a ∨ x = b := by
  rcases i with _ | _ | i
  · exact .inl (Option.some.inj h).symm
  · exact .inr (Option.some.inj h).symm
  · simp at h
theorem cell_nat {o : Obj} {v : Int} {tk : Tok} (d : o.data = .cell (some (.int (1 + v) tk))) (h0 : 0 ≤ v) (h1 : v < 4) : ∃ wd : Nat, o.data = .cell (some (.int (wd : Int) tk)) ∧ 1 ≤ wd ∧ wd ≤ 4 := by
  refine ⟨(1 + v).toNat, ?_, by omega, by omega⟩
  rw [Int.toNat_of_nonneg (by omega)]; exact d
theorem law_news {g h : Heap} {D l1 c1 pa pc c2 : Addr} {oD ol o3 op oc o4 : Obj} (N : News g L h [(D, oD), (l1, ol), (c1, o3), (pa, op), (pc, oc), (c2, o4)]) : News g L h [(c2, o4), (c1, o3), (pa, op), (pc, oc)] :=
  News.mono N fun p hp => by
    rcases List.mem_cons.mp hp with rfl | hp
    · exact .tail _ (.tail _ (.tail _ (.tail _ (.tail _ (.head _)))))
    rcases List.mem_cons.mp hp with rfl | hp
    · exact .tail _ (.tail _ (.head _))
    rcases List.mem_cons.mp hp with rfl | hp
    · exact .tail _ (.tail _ (.tail _ (.head _)))
    · rcases List.mem_singleton.mp hp with rfl
      exact .tail _ (.tail _ (.tail _ (.tail _ (.head _))))
theorem list_ne_cell {h : Heap} {a cL : Addr} {us : List Value} {z : Nat} {oc : Obj} {v₀ : Option Value} (e : h.get? a = some (W.listOf (List.toArray us) z)) (n : h.get? cL = some oc) (d : oc.data = .cell v₀) : a ≠ cL := fun q => by
  rw [q, n] at e; cases e; cases d
theorem bytes_ne_pen {h : Heap} {lr pa pc : Addr} {vs : List Value} {rs : List (Array UInt8)} {cr sp n : Nat} {gr : Int} {ta tb : Tok} (e : h.get? lr = some (W.listOf (List.toArray vs) cr)) (e' : h.get? pa = some (penObj pc sp gr ta tb n)) (hB : BytesAre vs rs) : lr ≠ pa := fun q => by
  rw [q, e'] at e
  have h2 := congrArg Obj.data (Option.some.inj e)
  injection h2 with h3 _
  have h4 := congrArg Array.toList h3
  simp only [List.toList_toArray] at h4
  subst h4
  cases hB
theorem not_q {h : Heap} {qs : List (Addr × Obj)} {a : Addr} {o : Obj} (I : IsQ prog w q qs) (K : ∀ e ∈ qs, h.get? e.1 = some e.2) (e : h.get? a = some o) (n1 : o.data ≠ .plain) (n2 : ∀ es n, o.data ≠ .dict es n) (n3 : ∀ b, o.data ≠ (baObj b).data) : a ∉ q.as := by
  intro ha
  rw [← I.addrs] at ha
  obtain ⟨p, hp, rfl⟩ := List.mem_map.mp ha
  rw [K p hp] at e
  have e := Option.some.inj e
  subst e
  cases I with
  | mk t n ov hv lo =>
    rcases List.mem_cons.mp hp with rfl | hp
    · exact n1 rfl
    rcases List.mem_cons.mp hp with rfl | hp
    · exact n2 _ _ rfl
    rcases List.mem_cons.mp hp with rfl | hp
    · obtain ⟨es, ep, _, hd, _⟩ := hv
      exact n2 _ _ hd
    · obtain ⟨x, _, rfl⟩ := List.mem_map.mp hp
      exact n3 _ rfl
theorem cell_not_q {h : Heap} {qs : List (Addr × Obj)} {a : Addr} {o : Obj} {v : Option Value} (I : IsQ prog w q qs) (K : ∀ e ∈ qs, h.get? e.1 = some e.2) (e : h.get? a = some o) (d : o.data = .cell v) : a ∉ q.as :=
  not_q I K e (by rw [d]; exact fun q => nomatch q) (by intro _ _; rw [d]; exact fun q => nomatch q) (by intro _; rw [d]; exact fun q => nomatch q)
theorem riter_not_q {h : Heap} {qs : List (Addr × Obj)} {a : Addr} {n i : Nat} (I : IsQ prog w q qs) (K : ∀ e ∈ qs, h.get? e.1 = some e.2) (e : h.get? a = some (riter n i)) : a ∉ q.as :=
  not_q I K e (fun q => nomatch q) (fun _ _ q => nomatch q) (fun _ q => nomatch q)
theorem riter_ne_cell {h : Heap} {a b : Addr} {o : Obj} {v : Option Value} {n i : Nat} (e : h.get? a = some (riter n i)) (e' : h.get? b = some o) (d : o.data = .cell v) : b ≠ a := fun q => by
  rw [q, e] at e'; cases e'; cases d
theorem riter_ne_list {h : Heap} {a b : Addr} {us : List Value} {z n i : Nat} (e : h.get? a = some (riter n i)) (e' : h.get? b = some (W.listOf (List.toArray us) z)) : b ≠ a := fun q => by
  rw [q, e] at e'
  have h2 : Value.type "range_iterator" = Value.type "list" := congrArg Obj.cls (Option.some.inj e')
  simp at h2
structure LawAp (L pa pc lr : Addr) (q : Qd) (qs : List (Addr × Obj)) : Prop where
  a1 : L + 1 + 1 ≠ pa
  a2 : L + 1 ≠ pa
  a3 : pc ≠ pa
  a4 : lr ≠ pa
  a5 : ∀ p ∈ qs, p.1 ≠ pa
  b1 : L + 1 + 1 ∉ q.as
  b2 : L + 1 ∉ q.as
  b3 : pa ∉ q.as
  b4 : pc ∉ q.as
  b5 : lr ∉ q.as
theorem LawSt.ap {h : Heap} {kind : Str} {tkk tm : Tok} {wd : Nat} {mo : Int} {pa pc : Addr} {cs : List Value} {k1 : Nat} {o3 o4 : Obj} {bd : Nat} {pre qs : List (Addr × Obj)} {rs : List (Array UInt8)} {lr : Addr} {vs : List Value} {cr sp : Nat} {gr : Int} {ta tb : Tok} {n : Nat} {v3 v4 : Option Value} {g : Heap}
    (S : LawSt prog w g L kind tkk wd mo tm pa pc cs k1 o3 o4 pre bd h m q qs rs lr vs cr sp gr ta tb n) (d3 : o3.data = .cell v3) (d4 : o4.data = .cell v4) (hpc : pc ≠ pa) : LawAp L pa pc lr q qs := by
  have N := News.mono S.N fun p hp => List.mem_append_right _ hp
  have K : ∀ e ∈ qs, h.get? e.1 = some e.2 := fun e he => (N e (.tail _ (.tail _ (.tail _ (.tail _ (.tail _ he)))))).1
  have e1 := (N (lr, W.listOf (List.toArray vs) cr) (.head _)).1
  have e2 := (N (L + 1 + 1, o4) (.tail _ (.head _))).1
  have e3 := (N (L + 1, o3) (.tail _ (.tail _ (.head _)))).1
  have e4 : h.get? pa = some (W.listOf (List.toArray [_, _, _]) _) := (N (pa, penObj pc sp gr ta tb n) (.tail _ (.tail _ (.tail _ (.head _))))).1
  have e5 := (N (pc, W.listOf (List.toArray cs) k1) (.tail _ (.tail _ (.tail _ (.tail _ (.head _)))))).1
  have q3 := list_not_q S.I K e4
  exact ⟨(list_ne_cell e4 e2 d4).symm, (list_ne_cell e4 e3 d3).symm, hpc, bytes_ne_pen e1 e4 S.hB, IsQ.apart S.I q3, cell_not_q S.I K e2 d4, cell_not_q S.I K e3 d3, q3, list_not_q S.I K e5, list_not_q S.I K e1⟩
theorem law_apart {h : Heap} {kind : Str} {tkk tm : Tok} {wd : Nat} {mo : Int} {pa pc : Addr} {cs : List Value} {k1 : Nat} {o3 o4 : Obj} {I0 : Addr} {i bd : Nat} {qs : List (Addr × Obj)} {rs : List (Array UInt8)} {lr : Addr} {vs : List Value} {cr sp : Nat} {gr : Int} {ta tb : Tok} {n : Nat} {v3 v4 : Option Value} {g : Heap}
    (S : LawSt prog w g L kind tkk wd mo tm pa pc cs k1 o3 o4 [(I0, riter 24 i)] bd h m q qs rs lr vs cr sp gr ta tb n) (d3 : o3.data = .cell v3) (d4 : o4.data = .cell v4) :
    ∀ p ∈ (lr, W.listOf (List.toArray vs) cr) :: (L + 1 + 1, o4) :: (L + 1, o3) :: (pa, penObj pc sp gr ta tb n) :: (pc, W.listOf (List.toArray cs) k1) :: qs, p.1 ≠ I0 := by
  have N := S.N
  have e0 := (N (I0, riter 24 i) (.head _)).1
  have K : ∀ e ∈ qs, h.get? e.1 = some e.2 := fun e he => (N e (.tail _ (.tail _ (.tail _ (.tail _ (.tail _ (.tail _ he))))))).1
  intro p hp
  rcases List.mem_cons.mp hp with rfl | hp
  · exact riter_ne_list e0 (N _ (.tail _ (.head _))).1
  rcases List.mem_cons.mp hp with rfl | hp
  · exact riter_ne_cell e0 (N (_, o4) (.tail _ (.tail _ (.head _)))).1 d4
  rcases List.mem_cons.mp hp with rfl | hp
  · exact riter_ne_cell e0 (N (_, o3) (.tail _ (.tail _ (.tail _ (.head _))))).1 d3
  rcases List.mem_cons.mp hp with rfl | hp
  · exact riter_ne_list (us := [_, _, _]) e0 (N (pa, _) (.tail _ (.tail _ (.tail _ (.tail _ (.head _)))))).1
  rcases List.mem_cons.mp hp with rfl | hp
  · exact riter_ne_list e0 (N (pc, _) (.tail _ (.tail _ (.tail _ (.tail _ (.tail _ (.head _))))))).1
  · exact IsQ.apart S.I (riter_not_q S.I K e0) p hp
theorem rep_ints (t : Tok) : ∀ n : Nat, IntsAre (List.replicate n [Value.int 0 t]).flatten (List.replicate n 0)
  | 0 => .nil
  | n + 1 => by rw [List.replicate_succ, List.replicate_succ, List.flatten_cons]; exact .cons _ _ (rep_ints t n)
theorem mul_zero {A : Around} {g : Heap} {news : List (Addr × Obj)} {l : Addr} {t u : Tok} {c : Nat} {x : Int} {Q : Value → Shared → Prop} (F : Fr g L s.heap m) (N : News g L s.heap news) (hl : s.heap.get? l = some (W.listOf #[.int 0 t] c)) (h0 : 0 ≤ x) (h1 : x ≤ 3)
    (h : ∀ D vs h', Fr g L h' m → News g L h' news → h'.IsList D vs.toArray → IntsAre vs (List.replicate x.toNat 0) → Q (.ref D) { s with heap := h' }) :
    wpAny (model prog w) A (binaryOp .Mult (.ref l) (.int x u)) Q E s := by
  refine PyProof.Rows.mul_list F N hl (by omega) (by omega) (by simp; omega) fun h' F' N' => ?_
  have hI := News.isList N' (.head _)
  rw [show (#[Value.int 0 t] : Array Value).isEmpty = false from rfl] at hI
  simp only [Bool.false_eq_true, if_false, listMul_foldl] at hI
  exact h _ _ h' F' (fun p hp => N' p (.tail _ hp)) (by simpa using hI) (rep_ints t x.toNat)
theorem ne_ints_same {A : Around} {a b : Addr} {vs us : List Value} {ns ms : List Int} {Q : Value → Shared → Prop} (ha : s.heap.IsList a vs.toArray) (hb : s.heap.IsList b us.toArray) (hi : IntsAre vs ns) (hj : IntsAre us ms) (e : ns = ms) (hu : A.units + 64 < cLine)
    (h : Q (.bool false) s) : wpAny (model prog w) A (compareOp .NotEq (.ref a) (.ref b)) Q E s := by
  subst e
  exact ne_intsK ha hi hb hj hu (by simpa using h)
theorem eq_ints_same {A : Around} {a b : Addr} {vs us : List Value} {ns ms : List Int} {Q : Value → Shared → Prop} (ha : s.heap.IsList a vs.toArray) (hb : s.heap.IsList b us.toArray) (hi : IntsAre vs ns) (hj : IntsAre us ms) (e : ns = ms) (hu : A.units + 64 < cLine)
    (h : Q (.bool true) s) : wpAny (model prog w) A (compareOp .Eq (.ref a) (.ref b)) Q E s := by
  subst e
  exact eq_intsK ha hi hb hj hu (by simpa using h)
theorem units64 {A : Around} {n : Nat} (R : Rm A n) (h : 8 ≤ n) : A.units + 64 < cLine := by have := R.u; omega
theorem zs_pos {rs : List (Array UInt8)} {k : Nat} (h : 0 < rs.length) : (if rs = [] then [] else List.replicate k (0 : Int)) = List.replicate (k : Int).toNat 0 := by
  rw [if_neg (List.length_pos_iff.mp h)]; rfl
theorem zs_neg {rs : List (Array UInt8)} {k : Nat} (h : ¬ 0 < rs.length) : (if rs = [] then [] else List.replicate k (0 : Int)) = List.replicate (0 : Int).toNat 0 := by
  rw [if_pos (List.length_eq_zero_iff.mp (by omega))]; rfl
theorem c_pouredE {x pa pc l : Addr} {kind : Str} {wd most : Int} {rows : List (Array UInt8)} {cells : List Int} {sp : Nat} {gr : Int} {t u tk₁ tw tm : Tok} {n k1 c : Nat} {cs vs : List Value} {Q : Value → Shared → Prop} {g₀ : Heap} (ex : q.x = x) (ek : q.kind = kind) (ew : q.wd = wd) (em : q.most = most) (R : Rm (AN dp un fr gd) 12) (Y : Lay w mg mb g₀) (k : Kp g₀ s.heap)
    (K : ∀ p ∈ [(pa, penObj pc sp gr t u n), (pc, W.listOf (List.toArray cs) k1), (l, W.listOf (List.toArray vs) c)], s.heap.get? p.1 = some p.2 ∧ g₀.get? p.1 = none) (hv : IntsAre cs cells) (hcl : cells.length ≤ 60) (hs : sp ≤ 90000) (hG : 0 ≤ gr) (hpc : pc ≠ pa) (hlp : l ≠ pa)
    (hB : BytesAre vs rows) (H : QAt prog w s.heap q) (hpq : pa ∉ q.as) (hcq : pc ∉ q.as) (hlq : l ∉ q.as) (hq : q.Ok) (hr : Holds q rows)
    (hQ : ∀ sp' gr' t' u' n' h' tk, (∀ b o, b ≠ pa → s.heap.get? b = some o → h'.get? b = some o) → h'.get? pa = some (penObj pc sp' gr' t' u' n') → 0 ≤ gr' → sp' ≤ sp + 2 → Q (.bool true) { s with heap := h', toks := tk }) :
    wpT (model prog w) (AN dp un fr gd) (call (.ref 499) [.ref pa, .ref x, .str kind tk₁, .ref l, .int wd tw, .int most tm]) Q E s := by
  subst ex; subst ek; subst ew; subst em
  exact c_poured R Y k K hv hcl hs hG hpc hlp hB H hpq hcq hlq hq hr hQ
theorem c_refusedE {x : Addr} {wd : Int} {B : Heap} {outer : List Env} {rows : List (Array UInt8)} {tw : Tok} {Q : Value → Shared → Prop} (ex : q.x = x) (ew : q.wd = wd) (K : Below (AN dp un fr gd) B outer s.heap) (hBs : B.objs.size ≤ s.heap.objs.size) (R : Rm (AN dp un fr gd) 10) (YB : Lay w mg mb B) (H : QAt prog w s.heap q) (hq : q.Ok) (hr : Holds q rows)
    (hQ : ∀ h' tk, B.StaysIn h' → s.heap.UpToSlots h' → Q (.bool true) { s with heap := h', toks := tk }) :
    wpAny (model prog w) (AN dp un fr gd) (call (.ref 506) [.ref x, .int wd tw]) Q E s := by
  subst ex; subst ew
  exact c_refused K hBs R YB H hq hr hQ
theorem below_law {A : Around} {g h : Heap} {name : Str} {scope : Scope} {a : Addr} {cd : Value} {nn : Nat} (hA : A.frames = some []) (F : Fr g L h m) (_ : Rm (A.deeper (envOfC name scope L a cd)) nn) (hk : scope.kind = .function) :
    Below (A.deeper (envOfC name scope L a cd)) (hideAll h [L]) [envOfC name scope L a cd] h := by
  obtain ⟨oL, es, ep, hL, hd', r⟩ := F.ns
  refine ⟨Around.frames_deeper hA, fun b o e => of_hideAll _ e, ?_, ⟨L, oL, rfl, hideAll_none _ (.head _), hL, fun vs q => by rw [hd'] at q; cases q⟩, trivial⟩
  show scope.kind ≠ .module
  rw [hk]; decide
theorem law_stay {g h h' : Heap} {news : List (Addr × Obj)} (F : Fr g L h m) (N : News g L h news) (st : (hideAll h [L]).StaysIn h') (up : h.UpToSlots h') : Fr g L h' m ∧ News g L h' news := by
  refine ⟨⟨up.ns F.ns, fun b o e => st b o (hideAll_get _ (F.keep b o e) fun hm => ?_), F.above⟩, fun p hp => ⟨st _ _ (hideAll_get _ (N p hp).1 fun hm => (N p hp).2.1 (List.mem_singleton.mp hm)), (N p hp).2⟩⟩
  rw [List.mem_singleton.mp hm] at e
  exact absurd (Nat.lt_of_lt_of_le (Heap.lt_size e) F.above) (Nat.lt_irrefl _)
theorem law_lay {g h : Heap} (Y : Lay w mg mb g) (F : Fr g L h m) : Lay w mg mb (hideAll h [L]) := Y.keeps fun b o e => hideAll_get _ (F.keep b o e) fun hm => by
  rw [List.mem_singleton.mp hm] at e
  exact absurd (Nat.lt_of_lt_of_le (Heap.lt_size e) F.above) (Nat.lt_irrefl _)
theorem pow_263 {A : Around} {t u : Tok} {Q : Value → Shared → Prop} (h : ∀ z, Q (.int z s.toks) { s with toks := s.toks + 1 }) : wpAny (model prog w) A (binaryOp .Pow (.int 2 t) (.int 63 u)) Q E s :=
  pow_any (by decide) (by decide) (by decide +kernel) h
theorem News.mono_mem {a b : List (Addr × Obj)} (h : ∀ p ∈ a, p ∈ b) {e : Addr × Obj} (he : e ∈ a) : e ∈ b := h e he
theorem pre_ap {I0 l2 pa pc : Addr} {oI o2 o3 o4 op oc : Obj} (h0 : I0 ∉ q.as) (h1 : l2 ∉ q.as) (b1 : L + 1 + 1 ∉ q.as) (b2 : L + 1 ∉ q.as) (b3 : pa ∉ q.as) (b4 : pc ∉ q.as) :
    ∀ p ∈ [(I0, oI), (l2, o2), (L + 1 + 1, o4), (L + 1, o3), (pa, op), (pc, oc)], p.1 ∉ q.as := by
  intro p hp
  rcases List.mem_cons.mp hp with rfl | hp
  · exact h0
  rcases List.mem_cons.mp hp with rfl | hp
  · exact h1
  rcases List.mem_cons.mp hp with rfl | hp
  · exact b1
  rcases List.mem_cons.mp hp with rfl | hp
  · exact b2
  rcases List.mem_cons.mp hp with rfl | hp
  · exact b3
  · rcases List.mem_singleton.mp hp with rfl
    exact b4
theorem all_nil {d : Addr} : ∀ p ∈ ([] : List (Addr × Obj)), p.1 ≠ d := fun _ h => nomatch h
theorem all_cons {a d : Addr} {o : Obj} {l : List (Addr × Obj)} (h1 : a ≠ d) (h2 : ∀ p ∈ l, p.1 ≠ d) : ∀ p ∈ (a, o) :: l, p.1 ≠ d := fun p hp => by
  rcases List.mem_cons.mp hp with rfl | hp
  · exact h1
  · exact h2 p hp
end
theorem kw_f_29 : True := by
  k_with "my memr" => (first | (refine List.mem_append_right _ ?_; walk_at "my mem"))
  k_with "binaryOp Mult ref int" => ((with_reducible show wpAny _ _ (binaryOp Operator.Mult (Value.ref _) (Value.int _ _)) _ _ _); k_dflt (refine' mul_zero (by k_asm) (by k_asm) (by exact News.get (by k_asm) (by walk_at "my mem")) (by omega) (by omega) ?_); intro _ _ _ _ _ _ _; (try k_sweep))
  k_with "compareOp NotEq ref ref" => ((with_reducible show wpAny _ _ (compareOp CmpOp.NotEq (Value.ref _) (Value.ref _)) _ _ _); k_dflt (refine' ne_ints_same (by walk_at "my list") (by assumption) (by assumption) (by assumption) (by first | exact zs_pos (by assumption) | exact zs_neg (by assumption)) (by exact units64 (by assumption) (by decide)) ?_))
  k_with "compareOp Eq ref ref" => ((with_reducible show wpAny _ _ (compareOp CmpOp.Eq (Value.ref _) (Value.ref _)) _ _ _); k_dflt (refine' eq_ints_same (by walk_at "my list") (by walk_at "my list") (by assumption) (by assumption) (by rfl) (by exact units64 (by assumption) (by decide)) ?_))
  k_with "compareOp Eq ref ref" => ((with_reducible show wpAny _ _ (compareOp CmpOp.Eq (Value.ref _) (Value.ref _)) _ _ _); k_dflt (refine' eqB_same (by walk_at "my list") (by walk_at "my list") (by assumption) (by assumption) (by walk_at "my units") ?_))
  k_with "my nm" => (first | with_reducible assumption | exact if_pos rfl | (refine (if_neg (by decide +kernel)).trans ?_; walk_at "my nm"))
  k_with "eval Name" => ((with_reducible show wpAny _ _ (eval (Expr.Name _ _) (envOfC _ _ _ _ _)) _ _ _); k_dflt (refine' nameE_L (by k_asm) (by walk_at "my nm") ?_ (by rfl) (by rfl) (by decide); k_whole))
  k_with "my all" => (first | assumption | exact all_nil | (refine all_cons ?_ ?_; (walk_at "my ne"); walk_at "my all"))
  k_with "my upd" => (first | exact Upd.head (by walk_at "my all") | exact Upd.tail (by dsimp only; walk_at "my ne") (Upd.head (by walk_at "my all")) | exact Upd.tail (by dsimp only; walk_at "my ne") (Upd.tail (by dsimp only; walk_at "my ne") (Upd.head (by walk_at "my all"))) | exact Upd.tail (by dsimp only; walk_at "my ne") (Upd.tail (by dsimp only; walk_at "my ne") (Upd.tail (by dsimp only; walk_at "my ne") (Upd.head (by walk_at "my all")))) | exact Upd.tail (by dsimp only; walk_at "my ne") (Upd.tail (by dsimp only; walk_at "my ne") (Upd.tail (by dsimp only; walk_at "my ne") (Upd.tail (by dsimp only; walk_at "my ne") (Upd.head (by walk_at "my all"))))) | exact Upd.tail (by dsimp only; walk_at "my ne") (Upd.tail (by dsimp only; walk_at "my ne") (Upd.tail (by dsimp only; walk_at "my ne") (Upd.tail (by dsimp only; walk_at "my ne") (Upd.tail (by dsimp only; walk_at "my ne") (Upd.head (by walk_at "my all")))))) | exact Upd.tail (by dsimp only; walk_at "my ne") (Upd.tail (by dsimp only; walk_at "my ne") (Upd.tail (by dsimp only; walk_at "my ne") (Upd.tail (by dsimp only; walk_at "my ne") (Upd.tail (by dsimp only; walk_at "my ne") (Upd.tail (by dsimp only; walk_at "my ne") (Upd.head (by walk_at "my all"))))))))
  k_with "call ref" => ((with_reducible show wpAny _ _ (call (Value.ref 466) _) _ _ _); k_dflt (refine' c_octets (by walk_at "my rm") (by assumption) (by exact Fr.keep (by k_asm)) (by exact pen_K (by k_asm) (by walk_at "my mem") (by walk_at "my mem")) (by assumption) (by assumption) (by omega) (by first | assumption | decide) (by walk_at "my ne") (by assumption) ?_; intro _ _ _ _ _ _ _ _ _ _ st' at' _ _; (have _ := pen_fr (by k_asm) (by k_asm) (by walk_at "my upd") st' at'); (have _ := pen_nw (by k_asm) (by walk_at "my upd") st' at'); (try k_sweep); clear st' at'))
  k_with "binaryOp Pow int int" => ((with_reducible show wpAny _ _ (binaryOp Operator.Pow (Value.int 2 _) (Value.int 63 _)) _ _ _); with_reducible refine pow_263 ?_; intro _)
  k_with "my subset" => (first | (with_reducible exact sub_nil) | ((with_reducible refine sub_cons ?_ ?_); (walk_at "my mem"); walk_at "my subset") | ((with_reducible refine sub_app ?_ ?_) <;> walk_at "my subset") | walk_at "my sub")
  exact trivial
section
variable {prog : Program} {w : World} {A : Around} {E : Value → Shared → Prop} {s : Shared} {mg mb : Str → Option Value} {h₀ : Heap} {L : Addr} {m : Str → Option Value} {q : Qd} {dp un : Nat} {fr : Option (List Env)} {gd : Option (List Code)}
set_option maxHeartbeats 0 in
theorem c_law {l : Addr} {xs : List Int} {vs : List Value} {Q : Value → Shared → Prop} (hfr : (AN dp un fr gd).frames = some []) (R : Rm (AN dp un fr gd) 16) (Y : Lay w mg mb s.heap) (hl : s.heap.IsList l vs.toArray) (hv : IntsAre vs xs) (hx : xs.length ≤ 63)
    (hQ : ∀ h' tk, Kp s.heap h' → Q (.bool true) { s with heap := h', toks := tk }) :
    wpT (model prog w) (AN dp un fr gd) (call (.ref 511) [.ref l]) Q E s := by
  refine wpT_call ?_
  refine' enterXC (b := true) (binds := [(Str.ofString "script", .ref l)]) [] (fun _ h => nomatch h) R Y (fun _ _ e => e) ?k1 ?k2 ?k3 ?k4 ?k5 ?_ ?k6 ?k7 ?k8
  case k1 => k_is
  case k2 => k_is
  case k3 => exact BindsTo.of_eq rfl
  case k4 => exact rfl
  case k5 => decide
  case k6 => exact rfl
  case k7 => exact rfl
  case k8 => exact rfl
  intro L h₁ tk0 cells Y0 Hg0 F0 N0 Yc hlt R'
  have X := Y.X
  have T := Y.T
  have F : Fr s.heap L h₁ _ := F0
  have N : News s.heap L h₁ (cells ++ []) := N0
  rw [List.append_nil] at N
  clear F0 N0 Y0 Hg0 hlt
  k_cells Yc
  refine wpX_execs_cons (wpX.of ?_)
  repeat' ((fail_if_success (first | (with_reducible show Exists _) | (with_reducible show wpAny _ _ (exec (Stmt.While _ _ _ _) _) _ _ _) | (with_reducible show wpAny _ _ (exec (Stmt.For _ _ _ _ _) _) _ _ _) | (with_reducible show wpAny _ _ (eval (Expr.ListComp _ _ _ _) _) _ _ _))); first | (k_unfold; (try dsimp only)) | walk1 | (dsimp only; walk1))
  rename_i o1 o2 d1 d2
  refine c_pen (Rm.mono R' (by decide)) (Y.keeps F.keep) (hl.at fun o => F.keep l o) hv hx fun pa pc t u n cs k1 h2 tk2 k2 fra frc hpcpa ea ec hcs => ?_
  have F1 := F.keeps k2
  have N1 := News.add F (News.add F (News.keeps N k2) frc ec) fra ea
  have n1 := N1 (L + 1, o2) (.tail _ (.tail _ (.tail _ (.head _))))
  have n2 := N1 (L + 1 + 1, o1) (.tail _ (.tail _ (.head _)))
  dsimp only at n1 n2
  have N2 : News s.heap L h2 [(L + 1, o2), (pa, penObj pc 0 0 t u n), (pc, W.listOf (List.toArray cs) k1), (L + 1 + 1, o1)] := News.mono N1 fun p hp => by
    rcases List.mem_cons.mp hp with rfl | hp
    · exact .tail _ (.tail _ (.tail _ (.head _)))
    rcases List.mem_cons.mp hp with rfl | hp
    · exact .head _
    rcases List.mem_cons.mp hp with rfl | hp
    · exact .tail _ (.head _)
    · rcases List.mem_singleton.mp hp with rfl
      exact .tail _ (.tail _ (.head _))
  have hpa1 : pa ≠ L + 1 := list_ne_cell (us := [_, _, _]) ea n1.1 d2
  have hpc1 : pc ≠ L + 1 := list_ne_cell ec n1.1 d2
  have hpa2 : pa ≠ L + 1 + 1 := list_ne_cell (us := [_, _, _]) ea n2.1 d1
  have hpc2 : pc ≠ L + 1 + 1 := list_ne_cell ec n2.1 d1
  dsimp only
  refine st_cell (s := { s with heap := h2, toks := tk2 }) F1 N2 d2 (fun p hp => by
    rcases List.mem_cons.mp hp with rfl | hp
    · exact list_ne_cell (us := [_, _, _]) ea n1.1 d2
    rcases List.mem_cons.mp hp with rfl | hp
    · exact list_ne_cell ec n1.1 d2
    · rcases List.mem_singleton.mp hp with rfl
      exact Nat.ne_of_gt (Nat.lt_succ_self _)) rfl rfl rfl fun h3 o3 d3 F2 N3 => ?_
  clear F1 N1 N2 n1 n2 ea ec fra frc k2 F N
  have hcl : (xs.take 60).length ≤ 60 := by rw [List.length_take]; omega
  dsimp only
  refine wpX_execs_cons (wpX.of (wpAny_mono (Q := fun f s' => (Ex15 fun h' tk m' kind tkk (wd : Nat) (tw : Tok) mo tm sp' gr' t4 t5 n4 o4 => All14 (f = .next) (s' = { s with heap := h', toks := tk }) (Fr s.heap L h' m') (m' (Str.ofString "kind") = some (.str kind tkk)) (m' (Str.ofString "most") = some (.int mo tm)) ((kind = Str.ofString "queue" ∨ kind = Str.ofString "stack")) (1 ≤ wd) (wd ≤ 4) (1 ≤ mo) (mo ≤ 5) (sp' ≤ 3) (0 ≤ gr') (o4.data = .cell (some (.int (wd : Int) tw))) (News s.heap L h' [(L + 1 + 1, o4), (L + 1, o3), (pa, penObj pc sp' gr' t4 t5 n4), (pc, W.listOf (List.toArray cs) k1)]))) ?_ (fun f s' hf => ?_) (fun _ _ h => h)))
  ·
    repeat' ((fail_if_success (first | (with_reducible show Exists _) | (with_reducible show wpAny _ _ (exec (Stmt.While _ _ _ _) _) _ _ _) | (with_reducible show wpAny _ _ (exec (Stmt.For _ _ _ _ _) _) _ _ _) | (with_reducible show wpAny _ _ (eval (Expr.ListComp _ _ _ _) _) _ _ _))); first | (k_unfold; (try dsimp only)) | walk1 | (dsimp only; walk1))
    rename Fr _ _ _ _ => F4
    rename News _ _ _ _ => N4
    rename _ = some _ => hxx
    rename _ = Data.cell (some (Value.int _ _)) => dw
    obtain ⟨wd, dw', hw0, hw1⟩ := cell_nat dw (by assumption) (by assumption)
    have N5 := law_news N4
    rcases pick2 hxx with rfl | rfl
    · refine ⟨_, _, _, _, _, wd, _, _, _, _, _, _, _, _, _, trivial, rfl, F4, (if_neg (by decide +kernel)).trans (if_pos rfl), if_pos rfl, .inl rfl, hw0, hw1, ?_, ?_, ?_, ?_, dw', N5⟩
      all_goals omega
    · refine ⟨_, _, _, _, _, wd, _, _, _, _, _, _, _, _, _, trivial, rfl, F4, (if_neg (by decide +kernel)).trans (if_pos rfl), if_pos rfl, .inr rfl, hw0, hw1, ?_, ?_, ?_, ?_, dw', N5⟩
      all_goals omega
  · obtain ⟨h4, tk4, m4, kind, tkk, wd, tw, mo, tm, sp', gr', t4, t5, n4, o4, rfl, rfl, F4, e1, e2, hkd, hw0, hw1, hm0, hm1, hsp, hgr, d4, N4⟩ := hf
    clear F2 N3
    dsimp only
    refine wpX_execs_cons (wpX.of ?_)
    repeat' ((fail_if_success (first | (with_reducible show Exists _) | (with_reducible show wpAny _ _ (exec (Stmt.While _ _ _ _) _) _ _ _) | (with_reducible show wpAny _ _ (exec (Stmt.For _ _ _ _ _) _) _ _ _) | (with_reducible show wpAny _ _ (eval (Expr.ListComp _ _ _ _) _) _ _ _))); first | (k_unfold; (try dsimp only)) | walk1 | (dsimp only; walk1))
    rename Fr _ _ _ _ => F5
    rename News _ _ _ _ => N5
    refine c_make (Rm.mono R' (by decide)) (Y.keeps F5.keep) hkd ⟨by omega, by omega⟩ ⟨hm0, by omega⟩ fun q1 h5 tk5 k5 fr5 z1 z2 z3 z4 z5 z6 H5 ok1 => ?_
    obtain ⟨qs1, I1, N6, nd1⟩ := News.made F5 N5 k5 fr5 H5
    have F6 := F5.keeps k5
    clear F5 N5 k5 fr5 H5
    dsimp only
    repeat' ((fail_if_success (first | (with_reducible show Exists _) | (with_reducible show wpAny _ _ (exec (Stmt.While _ _ _ _) _) _ _ _) | (with_reducible show wpAny _ _ (exec (Stmt.For _ _ _ _ _) _) _ _ _) | (with_reducible show wpAny _ _ (eval (Expr.ListComp _ _ _ _) _) _ _ _))); first | (k_unfold; (try dsimp only)) | walk1 | (dsimp only; walk1))
    rename Fr _ _ _ _ => F7
    rename News _ _ _ _ => N7
    obtain ⟨m5, lr, cr, F8, g1, g2, g3, g4, N8⟩ : (Ex3 fun m5 lr cr => All6 (Fr s.heap L _ m5) (m5 (Str.ofString "one") = some (.ref q1.x)) (m5 (Str.ofString "rows") = some (.ref lr)) (m5 (Str.ofString "kind") = some (.str kind tkk)) (m5 (Str.ofString "most") = some (.int mo tm)) (News s.heap L _ ((lr, W.listOf (List.toArray []) cr) :: (L + 1 + 1, o4) :: (L + 1, o3) :: (pa, penObj pc sp' gr' t4 t5 n4) :: (pc, W.listOf (List.toArray cs) k1) :: qs1))) :=
      ⟨_, _, _, F7, if_pos rfl, (if_neg (by decide +kernel)).trans (if_pos rfl), (if_neg (by decide +kernel)).trans ((if_neg (by decide +kernel)).trans e1), (if_neg (by decide +kernel)).trans ((if_neg (by decide +kernel)).trans e2), News.mono N7 fun p hp => by
        rcases List.mem_cons.mp hp with rfl | hp
        · exact .tail _ (.head _)
        rcases List.mem_cons.mp hp with rfl | hp
        · exact .tail _ (.tail _ (List.mem_append_right _ (.head _)))
        rcases List.mem_cons.mp hp with rfl | hp
        · exact .tail _ (.tail _ (List.mem_append_right _ (.tail _ (.head _))))
        rcases List.mem_cons.mp hp with rfl | hp
        · exact .tail _ (.tail _ (List.mem_append_right _ (.tail _ (.tail _ (.head _)))))
        rcases List.mem_cons.mp hp with rfl | hp
        · exact .tail _ (.tail _ (List.mem_append_right _ (.tail _ (.tail _ (.tail _ (.head _))))))
        · exact .tail _ (.tail _ (List.mem_append_left _ hp))⟩
    clear F7 N7 e1 e2 nd1
    refine wpX_execs_cons ?_
    refine my_For (wpX.of ?_)
    repeat' ((fail_if_success (first | (with_reducible show Exists _) | (with_reducible show wpAny _ _ (exec (Stmt.While _ _ _ _) _) _ _ _) | (with_reducible show wpAny _ _ (exec (Stmt.For _ _ _ _ _) _) _ _ _) | (with_reducible show wpAny _ _ (eval (Expr.ListComp _ _ _ _) _) _ _ _))); first | (k_unfold; (try dsimp only)) | walk1 | (dsimp only; walk1))
    rename_i h9 tk9 t₁ u₁ v₁ hR F9 N9 k9
    have hI0q : ∀ p ∈ qs1, p.1 ≠ h9.objs.size := fun p hp => Nat.ne_of_lt (Heap.lt_size (N9 p (.tail _ (.tail _ (.tail _ (.tail _ (.tail _ hp)))))).1)
    refine range_loopP (n := 24) hR (by omega) rfl (fun i => LawAt prog w s L kind tkk wd mo tm pa pc cs k1 o3 o4 [(h9.objs.size, riter 24 i)] (3 + 20 * i)) (LawAt prog w s L kind tkk wd mo tm pa pc cs k1 o3 o4 [] 500) ?init ?hst ?turn ?done ?rest
    case init =>
      exact ⟨h9.push (riter 24 0), _, m5, q1, qs1, [], lr, [], cr, sp', gr', t4, t5, n4, ⟨F9.push _, g1, g2, g3, g4, I1, N9.push F9 _, ⟨z1, z2, z3⟩, ok1, Holds.none (z4.trans z5.symm), .nil, by omega, hgr⟩⟩
    case hst =>
      rintro i s' ⟨h, tk, m, q, qs, rs, lr, vs, cr, sp, gr, ta, tb, n, S⟩
      exact (S.N _ (.head _)).1
    case turn =>
      rintro i ti s₁ h' tk' hin ⟨h, tk, m, q, qs, rs, lr, vs, cr, sp, gr, ta, tb, n, S⟩ hI' hk
      obtain ⟨F5, N5⟩ := iter_step S.F S.N (law_apart S d3 d4) hk hI'
      obtain ⟨a1, a2, a3, a4, a5, b1, b2, b3, b4, b5⟩ := S.ap d3 d4 hpcpa
      have a0 : h9.objs.size ≠ pa := (law_apart S d3 d4 (pa, penObj pc sp gr ta tb n) (.tail _ (.tail _ (.tail _ (.head _))))).symm
      have s1 := S.one
      have s2 := S.rows
      have s3 := S.kd
      have s4 := S.mst
      have hs9 : sp ≤ 600 := by have := S.hs; omega
      have hg9 := S.hg
      clear hk hI'
      dsimp only
      repeat' ((fail_if_success (first | (with_reducible show Exists _) | (with_reducible show wpAny _ _ (exec (Stmt.While _ _ _ _) _) _ _ _) | (with_reducible show wpAny _ _ (exec (Stmt.For _ _ _ _ _) _) _ _ _) | (with_reducible show wpAny _ _ (eval (Expr.ListComp _ _ _ _) _) _ _ _))); first | (k_unfold; (try dsimp only)) | walk1 | (dsimp only; walk1))
      rename Fr _ _ _ _ => F6
      obtain ⟨m2, F7, r1, r2, r3, r4⟩ : ∃ m2, All5 (Fr s.heap L _ m2) (m2 (Str.ofString "one") = some (.ref q.x)) (m2 (Str.ofString "rows") = some (.ref lr)) (m2 (Str.ofString "kind") = some (.str kind tkk)) (m2 (Str.ofString "most") = some (.int mo tm)) :=
        ⟨_, F6, (if_neg (by decide +kernel)).trans s1, (if_neg (by decide +kernel)).trans s2, (if_neg (by decide +kernel)).trans s3, (if_neg (by decide +kernel)).trans s4⟩
      clear F6 s1 s2 s3 s4
      refine wpX_execs_cons (wpX.of ?_)
      repeat' ((fail_if_success (first | (with_reducible show Exists _) | (with_reducible show wpAny _ _ (exec (Stmt.While _ _ _ _) _) _ _ _) | (with_reducible show wpAny _ _ (exec (Stmt.For _ _ _ _ _) _) _ _ _) | (with_reducible show wpAny _ _ (eval (Expr.ListComp _ _ _ _) _) _ _ _))); first | (k_unfold; (try dsimp only)) | walk1 | (dsimp only; walk1))
      rename Fr _ _ _ _ => F8
      rename News _ _ _ _ => N8
      refine wpX_execs_cons (wpT_mono (Q := fun f s' => f = .next ∧ LawAt prog w s L kind tkk wd mo tm pa pc cs k1 o3 o4 [(h9.objs.size, riter 24 (i + 1))] (3 + 20 * i + 10) s') ?_ (fun f s' hf => ?_) (fun _ _ h => h))
      · refine wpX_If (wpX.of ?_)
        repeat' ((fail_if_success (first | (with_reducible show Exists _) | (with_reducible show wpAny _ _ (exec (Stmt.While _ _ _ _) _) _ _ _) | (with_reducible show wpAny _ _ (exec (Stmt.For _ _ _ _ _) _) _ _ _) | (with_reducible show wpAny _ _ (eval (Expr.ListComp _ _ _ _) _) _ _ _))); first | (k_unfold; (try dsimp only)) | walk1 | (dsimp only; walk1))
        · --BR push
          refine wpX_execs_cons (wpX.of (wpAny_mono (Q := fun f s' => (Ex12 fun h' tk m' x tx fl tf sp2 gr2 tc td n2 => All13 (f = .next) (s' = { s with heap := h', toks := tk }) (Fr s.heap L h' m') (m' (Str.ofString "octets") = some (.bytes x tx)) (m' (Str.ofString "flags") = some (.int fl tf)) (m' (Str.ofString "one") = some (.ref q.x)) (m' (Str.ofString "rows") = some (.ref lr)) (m' (Str.ofString "kind") = some (.str kind tkk)) (m' (Str.ofString "most") = some (.int mo tm)) (x.size = wd) (sp2 ≤ sp + 6) (0 ≤ gr2) (News s.heap L h' ((h9.objs.size, riter 24 (i + 1)) :: (lr, W.listOf (List.toArray vs) cr) :: (L + 1 + 1, o4) :: (L + 1, o3) :: (pa, penObj pc sp2 gr2 tc td n2) :: (pc, W.listOf (List.toArray cs) k1) :: qs)))) ?_ (fun f s' hf => ?_) (fun _ _ h => h)))
          ·
            repeat' ((fail_if_success (first | (with_reducible show Exists _) | (with_reducible show wpAny _ _ (exec (Stmt.While _ _ _ _) _) _ _ _) | (with_reducible show wpAny _ _ (exec (Stmt.For _ _ _ _ _) _) _ _ _) | (with_reducible show wpAny _ _ (eval (Expr.ListComp _ _ _ _) _) _ _ _))); first | (k_unfold; (try dsimp only)) | walk1 | (dsimp only; walk1))
            · rename Fr _ _ _ _ => F9
              rename News _ _ _ _ => N9
              rename _ = some _ => hxx
              obtain ⟨z, tz, rfl, _⟩ := IntsAre.at (.cons _ _ (.cons _ _ (.cons _ _ (.cons _ _ (.cons _ _ (.cons _ _ (.cons _ _ (.cons _ _ .nil)))))))) _ _ hxx
              refine' ⟨_, _, _, _, _, _, _, _, _, _, _, _, trivial, rfl, F9, ?n1, ?n2, ?n3, ?n4, ?n5, ?n6, ?sz, ?sp, ?gr, ?nw⟩
              case nw => exact News.mono N9 (by walk_at "my subset")
              case sz => assumption
              case sp => omega
              case gr => assumption
              case n1 => walk_at "my nm"
              case n2 => walk_at "my nm"
              case n3 => walk_at "my nm"
              case n4 => walk_at "my nm"
              case n5 => walk_at "my nm"
              case n6 => walk_at "my nm"
          · obtain ⟨h5, tk5, m5, x, tx, fl, tf, sp2, gr2, tc, td, n2, rfl, rfl, F9, e1, e2, e3, e4, e5, e6, hxs, hsp2, hgr2, N9⟩ := hf
            clear F8 N8
            have hB := S.hB
            have I := S.I
            have ok := S.ok
            have hr := S.hr
            have hrl : rs.length ≤ 6 := by have := S.hr.1; have := Qd.cnt_le S.ok; have := S.ok.most1; omega
            dsimp only
            refine wpX_execs_cons (wpX.of ?_)
            repeat' ((fail_if_success (first | (with_reducible show Exists _) | (with_reducible show wpAny _ _ (exec (Stmt.While _ _ _ _) _) _ _ _) | (with_reducible show wpAny _ _ (exec (Stmt.For _ _ _ _ _) _) _ _ _) | (with_reducible show wpAny _ _ (eval (Expr.ListComp _ _ _ _) _) _ _ _))); first | (k_unfold; (try dsimp only)) | walk1 | (dsimp only; walk1))
            refine wpX_execs_cons (wpX_If (wpX_isCompare (wpX_CallMeth ?_)))
            repeat' ((fail_if_success (first | (with_reducible show Exists _) | (with_reducible show wpAny _ _ (exec (Stmt.While _ _ _ _) _) _ _ _) | (with_reducible show wpAny _ _ (exec (Stmt.For _ _ _ _ _) _) _ _ _) | (with_reducible show wpAny _ _ (eval (Expr.ListComp _ _ _ _) _) _ _ _))); first | (k_unfold; (try dsimp only)) | walk1 | (dsimp only; walk1))
            dsimp only
            refine wpX_callWith_K X (by k_is) ?_
            repeat' ((fail_if_success (first | (with_reducible show Exists _) | (with_reducible show wpAny _ _ (exec (Stmt.While _ _ _ _) _) _ _ _) | (with_reducible show wpAny _ _ (exec (Stmt.For _ _ _ _ _) _) _ _ _) | (with_reducible show wpAny _ _ (eval (Expr.ListComp _ _ _ _) _) _ _ _))); first | (k_unfold; (try dsimp only)) | walk1 | (dsimp only; walk1))
            rename Fr _ _ _ _ => F10
            rename News _ _ _ _ => N10
            obtain ⟨m6, l2, vs2, c2, t2, F11, f1, f2, f3, f4, f5, hB2, N11⟩ : (Ex5 fun m6 l2 vs2 c2 t2 => All8 (Fr s.heap L _ m6) (m6 (Str.ofString "one") = some (.ref q.x)) (m6 (Str.ofString "rows") = some (.ref l2)) (m6 (Str.ofString "kind") = some (.str kind tkk)) (m6 (Str.ofString "most") = some (.int mo tm)) (m6 (Str.ofString "due") = some (.int (duePush mo rs x fl).1 t2)) (BytesAre vs2 (duePush mo rs x fl).2) (News s.heap L _ ([(h9.objs.size, riter 24 (i + 1)), (l2, W.listOf (List.toArray vs2) c2), (L + 1 + 1, o4), (L + 1, o3), (pa, penObj pc sp2 gr2 tc td n2), (pc, W.listOf (List.toArray cs) k1)] ++ qs))) := by
              refine' ⟨_, _, _, _, _, F10, ?u1, ?u2, ?u3, ?u4, ?u5, ?u6, ?u7⟩
              case u2 => walk_at "my nm"
              case u5 => walk_at "my nm"
              case u6 => assumption
              case u7 => exact News.mono N10 (by walk_at "my subset")
              case u1 => walk_at "my nm"
              case u3 => walk_at "my nm"
              case u4 => walk_at "my nm"
            clear F10 N10
            have K11 : ∀ e ∈ qs, _ := fun e he => (N11 e (List.mem_append_right _ he)).1
            have nl2 := list_not_q I K11 (N11 _ (.tail _ (.head _))).1
            have O := Own.of_hid I (News.mono N11 (fun _ h => List.mem_append_right _ h)) ok.ad
            refine c_push (g₀ := s.heap) (Rm.mono R' (by decide)) Y F11.keep O.ng O.at_ ok hr (by rw [S.st.2.1]; exact hxs) fun q' t7 h7 tk7 M ok' hr' => ?_
            rw [S.st.2.2] at hr' ⊢
            obtain ⟨F12, qs', I', N12, _⟩ := Mut.newsP M F11 N11 I ok.ad (pre_ap (riter_not_q I K11 (N11 _ (.head _)).1) nl2 b1 b2 b3 b4)
            clear F11 N11 K11 O nl2
            dsimp only
            repeat' ((fail_if_success (first | (with_reducible show Exists _) | (with_reducible show wpAny _ _ (exec (Stmt.While _ _ _ _) _) _ _ _) | (with_reducible show wpAny _ _ (exec (Stmt.For _ _ _ _ _) _) _ _ _) | (with_reducible show wpAny _ _ (eval (Expr.ListComp _ _ _ _) _) _ _ _))); first | (k_unfold; (try dsimp only)) | walk1 | (dsimp only; walk1))
            refine wpX_execs_nil ?_
            dsimp only
            refine wpX_execs_nil ?_
            have hs8 := S.hs
            exact ⟨rfl, h7, _, m6, q', qs', _, l2, vs2, c2, sp2, gr2, tc, td, n2, ⟨F12, by rw [M.x]; exact f1, f2, f3, f4, I', N12, ⟨M.kind.trans S.st.1, M.wd.trans S.st.2.1, M.most.trans S.st.2.2⟩, ok', hr', hB2, by omega, hgr2⟩⟩
          --RB push
        · refine wpX_execs_cons (wpX_If (wpX.of ?_))
          repeat' ((fail_if_success (first | (with_reducible show Exists _) | (with_reducible show wpAny _ _ (exec (Stmt.While _ _ _ _) _) _ _ _) | (with_reducible show wpAny _ _ (exec (Stmt.For _ _ _ _ _) _) _ _ _) | (with_reducible show wpAny _ _ (eval (Expr.ListComp _ _ _ _) _) _ _ _))); first | (k_unfold; (try dsimp only)) | walk1 | (dsimp only; walk1))
          · --BR pop
            have hB := S.hB
            have I := S.I
            have ok := S.ok
            have hr := S.hr
            have hrl : rs.length ≤ 6 := by have := S.hr.1; have := Qd.cnt_le S.ok; have := S.ok.most1; omega
            dsimp only
            refine wpX_execs_cons (wpX.of ?_)
            repeat' ((fail_if_success (first | (with_reducible show Exists _) | (with_reducible show wpAny _ _ (exec (Stmt.While _ _ _ _) _) _ _ _) | (with_reducible show wpAny _ _ (exec (Stmt.For _ _ _ _ _) _) _ _ _) | (with_reducible show wpAny _ _ (eval (Expr.ListComp _ _ _ _) _) _ _ _))); first | (k_unfold; (try dsimp only)) | walk1 | (dsimp only; walk1))
            refine wpX_execs_cons (wpX_If (wpX_isCompare (wpX_CallMeth ?_)))
            repeat' ((fail_if_success (first | (with_reducible show Exists _) | (with_reducible show wpAny _ _ (exec (Stmt.While _ _ _ _) _) _ _ _) | (with_reducible show wpAny _ _ (exec (Stmt.For _ _ _ _ _) _) _ _ _) | (with_reducible show wpAny _ _ (eval (Expr.ListComp _ _ _ _) _) _ _ _))); first | (k_unfold; (try dsimp only)) | walk1 | (dsimp only; walk1))
            dsimp only
            rename Fr _ _ _ _ => F10
            rename News _ _ _ _ => N10
            obtain ⟨m6, l2, vs2, c2, x2, F11, f1, f2, f3, f4, f5, hx2, hB2, N11⟩ : (Ex5 fun m6 l2 vs2 c2 x2 => All9 (Fr s.heap L _ m6) (m6 (Str.ofString "one") = some (.ref q.x)) (m6 (Str.ofString "rows") = some (.ref l2)) (m6 (Str.ofString "kind") = some (.str kind tkk)) (m6 (Str.ofString "most") = some (.int mo tm)) (m6 (Str.ofString "due") = some x2) (IsOpt x2 (duePop kind rs).1) (BytesAre vs2 (duePop kind rs).2) (News s.heap L _ ([(h9.objs.size, riter 24 (i + 1)), (l2, W.listOf (List.toArray vs2) c2), (L + 1 + 1, o4), (L + 1, o3), (pa, _), (pc, W.listOf (List.toArray cs) k1)] ++ qs))) := by
              refine' ⟨_, _, _, _, _, F10, ?p1, ?p2, ?p3, ?p4, ?p5, ?p6, ?p7, ?p8⟩
              case p2 => walk_at "my nm"
              case p5 => walk_at "my nm"
              case p6 => assumption
              case p7 => assumption
              case p8 => exact News.mono N10 (by walk_at "my subset")
              case p1 => walk_at "my nm"
              case p3 => walk_at "my nm"
              case p4 => walk_at "my nm"
            clear F10 N10
            refine wpX_callWith_K0 (X.keeps F11.keep) (by k_is) ?_
            have K11 : ∀ e ∈ qs, _ := fun e he => (N11 e (List.mem_append_right _ he)).1
            have nl2 := list_not_q I K11 (N11 _ (.tail _ (.head _))).1
            have O := Own.of_hid I (News.mono N11 (fun _ h => List.mem_append_right _ h)) ok.ad
            refine wpX.of (c_pop (g₀ := s.heap) (Rm.mono R' (by decide)) Y F11.keep O.ng O.at_ ok hr fun q' v7 h7 tk7 M ok' hr' hv' => ?_)
            rw [S.st.1] at hr' hv'
            obtain ⟨F12, qs', I', N12, _⟩ := Mut.newsP M F11 N11 I ok.ad (pre_ap (riter_not_q I K11 (N11 _ (.head _)).1) nl2 b1 b2 b3 b4)
            clear F11 N11 K11 O nl2
            dsimp only
            repeat' ((fail_if_success (first | (with_reducible show Exists _) | (with_reducible show wpAny _ _ (exec (Stmt.While _ _ _ _) _) _ _ _) | (with_reducible show wpAny _ _ (exec (Stmt.For _ _ _ _ _) _) _ _ _) | (with_reducible show wpAny _ _ (eval (Expr.ListComp _ _ _ _) _) _ _ _))); first | (k_unfold; (try dsimp only)) | walk1 | (dsimp only; walk1))
            refine wpX_execs_nil ?_
            dsimp only
            refine wpX_execs_nil ?_
            dsimp only
            refine wpX_execs_nil ?_
            have hs8 := S.hs
            exact ⟨rfl, h7, _, m6, q', qs', _, l2, vs2, c2, _, _, _, _, _, ⟨F12, by rw [M.x]; exact f1, f2, f3, f4, I', N12, ⟨M.kind.trans S.st.1, M.wd.trans S.st.2.1, M.most.trans S.st.2.2⟩, ok', hr', hB2, by omega, by assumption⟩⟩
            --RB pop
          · refine wpX_execs_cons (wpX_If (wpX.of ?_))
            repeat' ((fail_if_success (first | (with_reducible show Exists _) | (with_reducible show wpAny _ _ (exec (Stmt.While _ _ _ _) _) _ _ _) | (with_reducible show wpAny _ _ (exec (Stmt.For _ _ _ _ _) _) _ _ _) | (with_reducible show wpAny _ _ (eval (Expr.ListComp _ _ _ _) _) _ _ _))); first | (k_unfold; (try dsimp only)) | walk1 | (dsimp only; walk1))
            · --BR copy
              have hB := S.hB
              have I := S.I
              have ok := S.ok
              have hr := S.hr
              dsimp only
              refine wpX_execs_cons (wpX_Assign (wpX_CallMeth ?_))
              repeat' ((fail_if_success (first | (with_reducible show Exists _) | (with_reducible show wpAny _ _ (exec (Stmt.While _ _ _ _) _) _ _ _) | (with_reducible show wpAny _ _ (exec (Stmt.For _ _ _ _ _) _) _ _ _) | (with_reducible show wpAny _ _ (eval (Expr.ListComp _ _ _ _) _) _ _ _))); first | (k_unfold; (try dsimp only)) | walk1 | (dsimp only; walk1))
              dsimp only
              rename Fr _ _ _ _ => F10
              rename News _ _ _ _ => N10
              refine wpX_callWith_K0 (X.keeps F10.keep) (by k_is) ?_
              refine c_copy (Rm.mono R' (by decide)) (Y.keeps F10.keep) ⟨qs, I, fun p hp => (News.mono N10 (by walk_at "my sub") p hp).1⟩ ok hr fun q3 h3 tk3 k3 fr3 x1 x2 x3 hr3 H3 ok3 => ?_
              obtain ⟨qs3, I3, N3, nd3⟩ := News.made F10 N10 k3 fr3 H3
              have F3 := F10.keeps k3
              have a6 : ∀ p ∈ qs ++ qs3, p.1 ≠ pa := fun p hp => (List.mem_append.mp hp).elim (a5 p) (IsQ.apart I3 (nd3 (pa, _) (by walk_at "my mem")) p)
              have a7 : ∀ p ∈ qs3, p.1 ∉ q.as := fun p hp ha => by
                rw [← I.addrs] at ha
                obtain ⟨e, he, h⟩ := List.mem_map.mp ha
                exact nd3 e (News.mono_mem (by walk_at "my sub") he) (h ▸ I3.addrs ▸ List.mem_map_of_mem hp)
              have N4 : News s.heap L h3 ((h9.objs.size, riter 24 (i + 1)) :: (lr, W.listOf (List.toArray vs) cr) :: (L + 1 + 1, o4) :: (L + 1, o3) :: (pa, _) :: (pc, W.listOf (List.toArray cs) k1) :: (qs ++ qs3)) := News.mono N3 (by
                refine sub_cons (by walk_at "my memr") ?_
                refine sub_cons (by walk_at "my memr") ?_
                refine sub_cons (by walk_at "my memr") ?_
                refine sub_cons (by walk_at "my memr") ?_
                refine sub_cons (by walk_at "my memr") ?_
                refine sub_cons (by walk_at "my memr") ?_
                exact fun p hp => (List.mem_append.mp hp).elim (News.mono_mem (by walk_at "my sub")) (List.mem_append_left _))
              clear F10 N10 N3 k3 nd3 fr3 H3
              dsimp only
              refine wpX.of ?_
              repeat' ((fail_if_success (first | (with_reducible show Exists _) | (with_reducible show wpAny _ _ (exec (Stmt.While _ _ _ _) _) _ _ _) | (with_reducible show wpAny _ _ (exec (Stmt.For _ _ _ _ _) _) _ _ _) | (with_reducible show wpAny _ _ (eval (Expr.ListComp _ _ _ _) _) _ _ _))); first | (k_unfold; (try dsimp only)) | walk1 | (dsimp only; walk1))
              refine wpX_execs_cons (wpX_Expr (wpX_CallMeth ?_))
              repeat' ((fail_if_success (first | (with_reducible show Exists _) | (with_reducible show wpAny _ _ (exec (Stmt.While _ _ _ _) _) _ _ _) | (with_reducible show wpAny _ _ (exec (Stmt.For _ _ _ _ _) _) _ _ _) | (with_reducible show wpAny _ _ (eval (Expr.ListComp _ _ _ _) _) _ _ _))); first | (k_unfold; (try dsimp only)) | walk1 | (dsimp only; walk1))
              dsimp only
              refine wpX_callWith_K X (by k_is) ?_
              repeat' ((fail_if_success (first | (with_reducible show Exists _) | (with_reducible show wpAny _ _ (exec (Stmt.While _ _ _ _) _) _ _ _) | (with_reducible show wpAny _ _ (exec (Stmt.For _ _ _ _ _) _) _ _ _) | (with_reducible show wpAny _ _ (eval (Expr.ListComp _ _ _ _) _) _ _ _))); first | (k_unfold; (try dsimp only)) | walk1 | (dsimp only; walk1))
              rename Fr _ _ _ _ => F10
              rename News _ _ _ _ => N10
              obtain ⟨m6, F11, f1, f2, f3, f4, N11⟩ : ∃ m6, All6 (Fr s.heap L _ m6) (m6 (Str.ofString "twin") = some (.ref q3.x)) (m6 (Str.ofString "rows") = some (.ref lr)) (m6 (Str.ofString "kind") = some (.str kind tkk)) (m6 (Str.ofString "most") = some (.int mo tm)) (News s.heap L _ (([(h9.objs.size, riter 24 (i + 1)), (lr, W.listOf (List.toArray vs) cr), (L + 1 + 1, o4), (L + 1, o3), (pa, _), (pc, W.listOf (List.toArray cs) k1)] ++ qs3) ++ qs)) := by
                refine' ⟨_, F10, ?c1, ?c2, ?c3, ?c4, ?c5⟩
                case c5 => exact News.mono N10 (by walk_at "my subset")
                case c1 => walk_at "my nm"
                case c2 => walk_at "my nm"
                case c3 => walk_at "my nm"
                case c4 => walk_at "my nm"
              clear F10 N10
              have K11 : ∀ e ∈ qs, _ := fun e he => (N11 e (List.mem_append_right _ he)).1
              have O := Own.of_hid I (News.mono N11 (fun _ h => List.mem_append_right _ h)) ok.ad
              refine c_push (g₀ := s.heap) (Rm.mono R' (by decide)) Y F11.keep O.ng O.at_ ok hr (by rw [S.st.2.1]; assumption) fun q' t7 h7 tk7 M _ _ => ?_
              obtain ⟨F12, qs', _, N12, _⟩ := Mut.newsP M F11 N11 I ok.ad (fun p hp => (List.mem_append.mp hp).elim (pre_ap (riter_not_q I K11 (N11 _ (.head _)).1) b5 b1 b2 b3 b4 p) (a7 p))
              have N13 : News s.heap L h7 ((h9.objs.size, riter 24 (i + 1)) :: (lr, W.listOf (List.toArray vs) cr) :: (L + 1 + 1, o4) :: (L + 1, o3) :: (pa, _) :: (pc, W.listOf (List.toArray cs) k1) :: qs3) := News.mono N12 (by walk_at "my subset")
              have y0 : q3.x = q3.x := rfl
              have y1 : q3.kind = kind := x1.trans S.st.1
              have y2 : q3.wd = (wd : Int) := x2.trans S.st.2.1
              have y3 : q3.most = mo := x3.trans S.st.2.2
              have hs8 := S.hs
              clear F11 N11 N12 K11 O M a7 I ok hr S
              dsimp only
              refine wpAny_dropValue ?_
              dsimp only
              refine wpX.of ?_
              repeat' ((fail_if_success (first | (with_reducible show Exists _) | (with_reducible show wpAny _ _ (exec (Stmt.While _ _ _ _) _) _ _ _) | (with_reducible show wpAny _ _ (exec (Stmt.For _ _ _ _ _) _) _ _ _) | (with_reducible show wpAny _ _ (eval (Expr.ListComp _ _ _ _) _) _ _ _))); first | (k_unfold; (try dsimp only)) | walk1 | (dsimp only; walk1))
              rename Fr _ _ _ _ => F14
              rename News _ _ _ _ => N14
              dsimp only
              refine wpX_execs_nil ?_
              dsimp only
              refine wpX_execs_nil ?_
              exact ⟨rfl, _, _, _, q3, qs3, rs, lr, vs, cr, _, _, _, _, _, ⟨F14, if_pos rfl, (if_neg (by decide +kernel)).trans f2, (if_neg (by decide +kernel)).trans f3, (if_neg (by decide +kernel)).trans f4, I3, N14, ⟨y1, y2, y3⟩, ok3, hr3, hB, by omega, by assumption⟩⟩
              --RB copy
            · --BR turn
              have hB := S.hB
              have I := S.I
              have ok := S.ok
              have hr := S.hr
              have hrl : rs.length ≤ 6 := by have := S.hr.1; have := Qd.cnt_le S.ok; have := S.ok.most1; omega
              dsimp only
              refine wpX_execs_cons (wpX.of ?_)
              repeat' ((fail_if_success (first | (with_reducible show Exists _) | (with_reducible show wpAny _ _ (exec (Stmt.While _ _ _ _) _) _ _ _) | (with_reducible show wpAny _ _ (exec (Stmt.For _ _ _ _ _) _) _ _ _) | (with_reducible show wpAny _ _ (eval (Expr.ListComp _ _ _ _) _) _ _ _))); first | (k_unfold; (try dsimp only)) | walk1 | (dsimp only; walk1))
              rename Fr _ _ _ _ => F10
              rename News _ _ _ _ => N10
              rename_i vv tvv sp5 gr5 ta5 tb5 n5 h5 tk5 hgr5 hsp5 hv0 hv1 h6
              obtain ⟨kk, rfl⟩ := Int.eq_ofNat_of_zero_le hv0
              have hk4 : kk ≤ 3 := by omega
              refine wpX_execs_cons (wpT_mono (Q := fun f s' => (Ex5 fun h7 tk7 m6 q' qs' => All13 (f = .next) (s' = { s with heap := h7, toks := tk7 }) (Fr s.heap L h7 m6) (m6 (Str.ofString "many") = some (.int (kk : Int) tvv)) (m6 (Str.ofString "one") = some (.ref q'.x)) (m6 (Str.ofString "rows") = some (.ref lr)) (m6 (Str.ofString "kind") = some (.str kind tkk)) (m6 (Str.ofString "most") = some (.int mo tm)) (IsQ prog w q' qs') (q'.Ok) (Holds q' (turnN kind rs kk)) ((q'.kind = kind ∧ q'.wd = (wd : Int) ∧ q'.most = mo)) (News s.heap L h7 ((h9.objs.size, riter 24 (i + 1)) :: (lr, W.listOf (List.toArray vs) cr) :: (L + 1 + 1, o4) :: (L + 1, o3) :: (pa, penObj pc sp5 gr5 ta5 tb5 n5) :: (pc, W.listOf (List.toArray cs) k1) :: qs')))) ?_ (fun f s' hf => ?_) (fun _ _ h => h))
              · refine wpX_If (wpX_isCompare (wpX_CallName ?_))
                repeat' ((fail_if_success (first | (with_reducible show Exists _) | (with_reducible show wpAny _ _ (exec (Stmt.While _ _ _ _) _) _ _ _) | (with_reducible show wpAny _ _ (exec (Stmt.For _ _ _ _ _) _) _ _ _) | (with_reducible show wpAny _ _ (eval (Expr.ListComp _ _ _ _) _) _ _ _))); first | (k_unfold; (try dsimp only)) | walk1 | (dsimp only; walk1))
                dsimp only
                refine wpX_callWith_K X (by k_is) ?_
                repeat' ((fail_if_success (first | (with_reducible show Exists _) | (with_reducible show wpAny _ _ (exec (Stmt.While _ _ _ _) _) _ _ _) | (with_reducible show wpAny _ _ (exec (Stmt.For _ _ _ _ _) _) _ _ _) | (with_reducible show wpAny _ _ (eval (Expr.ListComp _ _ _ _) _) _ _ _))); first | (k_unfold; (try dsimp only)) | walk1 | (dsimp only; walk1))
                rename Fr _ _ _ _ => F11
                rename News _ _ _ _ => N10'
                have N11 : News s.heap L _ ([(h9.objs.size, riter 24 (i + 1)), (lr, W.listOf (List.toArray vs) cr), (L + 1 + 1, o4), (L + 1, o3), (pa, _), (pc, W.listOf (List.toArray cs) k1)] ++ qs) := N10'
                have K11 : ∀ e ∈ qs, _ := fun e he => (N11 e (List.mem_append_right _ he)).1
                have O := Own.of_hid I (News.mono N11 (fun _ h => List.mem_append_right _ h)) ok.ad
                refine c_turn_round (g₀ := s.heap) (Rm.mono R' (by decide)) Y F11.keep O.ng O.at_ ok hr hk4 fun q' r vz cz h7 tk7 M ok' hr' hrn hrz hz => ?_
                dsimp only at hrn
                obtain ⟨F12, qs', I', N12, _⟩ := Mut.newsP M F11 N11 I ok.ad (pre_ap (riter_not_q I K11 (N11 _ (.head _)).1) b5 b1 b2 b3 b4)
                have fr := fr_new F11 hrn
                have N13 : News s.heap L h7 ((r, W.listOf (List.toArray vz) cz) :: (h9.objs.size, riter 24 (i + 1)) :: (lr, W.listOf (List.toArray vs) cr) :: (L + 1 + 1, o4) :: (L + 1, o3) :: (pa, _) :: (pc, W.listOf (List.toArray cs) k1) :: qs') := fun p hp => by
                  rcases List.mem_cons.mp hp with rfl | hp
                  · exact ⟨hrz, fr.2.symm, fr.1⟩
                  · exact N12 p hp
                obtain ⟨m6, F13, f0, f1, f2, f3, f4⟩ : ∃ m6, All6 (Fr s.heap L h7 m6) (m6 (Str.ofString "many") = some (.int (kk : Int) tvv)) (m6 (Str.ofString "one") = some (.ref q'.x)) (m6 (Str.ofString "rows") = some (.ref lr)) (m6 (Str.ofString "kind") = some (.str kind tkk)) (m6 (Str.ofString "most") = some (.int mo tm)) := by
                  refine ⟨_, F12, ?_, ?_, ?_, ?_, ?_⟩
                  · walk_at "my nm"
                  · rw [M.x]; walk_at "my nm"
                  · walk_at "my nm"
                  · walk_at "my nm"
                  · walk_at "my nm"
                rw [S.st.1] at hr'
                have y1 : q'.kind = kind := M.kind.trans S.st.1
                have y2 : q'.wd = (wd : Int) := M.wd.trans S.st.2.1
                have y3 : q'.most = mo := M.most.trans S.st.2.2
                have hs8 := S.hs
                clear F11 F12 N10' N11 N12 K11 O M I ok hr hrz hrn fr hv0 hv1
                dsimp only
                repeat' ((fail_if_success (first | (with_reducible show Exists _) | (with_reducible show wpAny _ _ (exec (Stmt.While _ _ _ _) _) _ _ _) | (with_reducible show wpAny _ _ (exec (Stmt.For _ _ _ _ _) _) _ _ _) | (with_reducible show wpAny _ _ (eval (Expr.ListComp _ _ _ _) _) _ _ _))); first | (k_unfold; (try dsimp only)) | walk1 | (dsimp only; walk1))
                all_goals
                  rename Fr _ _ _ _ => F14
                  rename News _ _ _ _ => N14
                  exact wpX_execs_nil ⟨_, _, m6, q', qs', rfl, rfl, F14, f0, f1, f2, f3, f4, I', ok', hr', ⟨y1, y2, y3⟩, News.mono N14 (by walk_at "my subset")⟩
              · obtain ⟨h7, tk7, m6, q', qs', rfl, rfl, F11, f0, f1, f2, f3, f4, I', ok', hr', y', N11⟩ := hf
                have hs8 := S.hs
                clear S I ok hr
                dsimp only
                refine wpX_execs_cons ?_
                refine my_For (wpX.of (wpAny_mono (Q := fun xv s' => (Ex7 fun r h tk (n : Nat) t u v => All7 (xv = .ref r) (s' = { s with heap := h, toks := tk }) (IsRange h r 0 n 1 t u v) (Fr s.heap L h m6) (n ≤ 3) (turnN kind rs kk = turnN (Str.ofString "queue") rs n) (News s.heap L h ((h9.objs.size, riter 24 (i + 1)) :: (lr, W.listOf (List.toArray vs) cr) :: (L + 1 + 1, o4) :: (L + 1, o3) :: (pa, penObj pc sp5 gr5 ta5 tb5 n5) :: (pc, W.listOf (List.toArray cs) k1) :: qs')))) ?_ (fun xv s' hx' => ?_) (fun _ _ h => h)))
                ·
                  repeat' ((fail_if_success (first | (with_reducible show Exists _) | (with_reducible show wpAny _ _ (exec (Stmt.While _ _ _ _) _) _ _ _) | (with_reducible show wpAny _ _ (exec (Stmt.For _ _ _ _ _) _) _ _ _) | (with_reducible show wpAny _ _ (eval (Expr.ListComp _ _ _ _) _) _ _ _))); first | (k_unfold; (try dsimp only)) | walk1 | (dsimp only; walk1))
                  all_goals
                    rename Fr _ _ _ _ => F12
                    rename News _ _ _ _ => N12
                    rename IsRange _ _ _ _ _ _ _ _ => hR8
                  · have hkq : kind = Str.ofString "queue" := eq_of_beq (by assumption)
                    exact ⟨_, _, _, kk, _, _, _, rfl, rfl, hR8, F12, hk4, by rw [hkq], News.mono N12 (by walk_at "my subset")⟩
                  · have hrs : rs = [] := List.length_eq_zero_iff.mp (by omega)
                    exact ⟨_, _, _, 0, _, _, _, rfl, rfl, hR8, F12, Nat.zero_le _, by rw [hrs, turnN_empty, turnN_empty], News.mono N12 (by walk_at "my subset")⟩
                  · have hks : kind = Str.ofString "stack" := hkd.resolve_left (fun e => by
                      have hf : (kind == Str.ofString "queue") = false := by assumption
                      rw [e] at hf
                      simp at hf)
                    exact ⟨_, _, _, 0, _, _, _, rfl, rfl, hR8, F12, Nat.zero_le _, by rw [hks, turnN_stack]; rfl, News.mono N12 (by walk_at "my subset")⟩
                · obtain ⟨r, h8, tk8, n8, t8, u8, v8, rfl, rfl, hR8, F12, hn3, htn, N12⟩ := hx'
                  rw [htn] at hr'
                  clear N11 F11
                  have w1 : ∀ p ∈ [(h9.objs.size, riter 24 (i + 1)), (L + 1 + 1, o4), (L + 1, o3), (pa, penObj pc sp5 gr5 ta5 tb5 n5), (pc, W.listOf (List.toArray cs) k1)], p.1 ≠ h8.objs.size := fun p hp => Nat.ne_of_lt (Heap.lt_size (News.mono N12 (by walk_at "my subset") p hp).1)
                  have w2 : ∀ p ∈ qs', p.1 ≠ h8.objs.size := fun p hp => Nat.ne_of_lt (Heap.lt_size (News.mono N12 (by walk_at "my subset") p hp).1)
                  refine range_loopP hR8 (by omega) rfl (fun j s' => (Ex6 fun h tk m l2 vs2 c2 => All8 (s' = { s with heap := h, toks := tk }) (Fr s.heap L h m) (m (Str.ofString "one") = some (.ref q'.x)) (m (Str.ofString "rows") = some (.ref l2)) (m (Str.ofString "kind") = some (.str kind tkk)) (m (Str.ofString "most") = some (.int mo tm)) (BytesAre vs2 (turnN (Str.ofString "queue") rs j)) (News s.heap L h ((h8.objs.size, riter n8 j) :: (l2, W.listOf (List.toArray vs2) c2) :: (h9.objs.size, riter 24 (i + 1)) :: (L + 1 + 1, o4) :: (L + 1, o3) :: (pa, penObj pc sp5 gr5 ta5 tb5 n5) :: (pc, W.listOf (List.toArray cs) k1) :: qs'))))
                    (fun s' => (Ex6 fun h tk m l2 vs2 c2 => All8 (s' = { s with heap := h, toks := tk }) (Fr s.heap L h m) (m (Str.ofString "one") = some (.ref q'.x)) (m (Str.ofString "rows") = some (.ref l2)) (m (Str.ofString "kind") = some (.str kind tkk)) (m (Str.ofString "most") = some (.int mo tm)) (BytesAre vs2 (turnN (Str.ofString "queue") rs n8)) (News s.heap L h ((l2, W.listOf (List.toArray vs2) c2) :: (h9.objs.size, riter 24 (i + 1)) :: (L + 1 + 1, o4) :: (L + 1, o3) :: (pa, penObj pc sp5 gr5 ta5 tb5 n5) :: (pc, W.listOf (List.toArray cs) k1) :: qs')))) ?ti ?th ?tt ?td ?tr
                  case ti =>
                    exact ⟨h8.push (riter n8 0), _, m6, lr, vs, cr, rfl, F12.push _, f1, f2, f3, f4, hB, (News.mono N12 (by walk_at "my subset")).push F12 _⟩
                  case th =>
                    rintro j s' ⟨h, tk, m, l2, vs2, c2, rfl, F, z1, z2, z3, z4, hB2, N⟩
                    exact (N _ (.head _)).1
                  case td =>
                    rintro s₁ h' tk' ⟨h, tk, m, l2, vs2, c2, rfl, F, z1, z2, z3, z4, hB2, N⟩ hk
                    obtain ⟨F5, N5⟩ := iter_end F N (fun p hp => by
                      rcases List.mem_cons.mp hp with rfl | hp
                      · exact riter_ne_list (N _ (.head _)).1 (N _ (.tail _ (.head _))).1
                      · exact (List.mem_append.mp (show p ∈ [_, _, _, _, _] ++ qs' from hp)).elim (w1 p) (w2 p)) hk
                    exact ⟨_, _, m, l2, vs2, c2, rfl, F5, z1, z2, z3, z4, hB2, N5⟩
                  case tt =>
                    rintro j tj s₁ h' tk' hjn ⟨h, tk, m, l2, vs2, c2, rfl, F, z1, z2, z3, z4, hB2, N⟩ hI' hk
                    obtain ⟨F5, N5⟩ := iter_step F N (fun p hp => by
                      rcases List.mem_cons.mp hp with rfl | hp
                      · exact riter_ne_list (N _ (.head _)).1 (N _ (.tail _ (.head _))).1
                      · exact (List.mem_append.mp (show p ∈ [_, _, _, _, _] ++ qs' from hp)).elim (w1 p) (w2 p)) hk hI'
                    clear F N F12 N12 hI' hk
                    have hl9 : (turnN (Str.ofString "queue") rs j).length ≤ 6 := by rw [turnN_length]; exact hrl
                    have hl10 : (turnN (Str.ofString "queue") rs j).tail.length ≤ 6 := by rw [List.length_tail]; omega
                    have hl11 : (List.take 1 (turnN (Str.ofString "queue") rs j)).length ≤ 6 := by rw [List.length_take]; omega
                    dsimp only
                    repeat' ((fail_if_success (first | (with_reducible show Exists _) | (with_reducible show wpAny _ _ (exec (Stmt.While _ _ _ _) _) _ _ _) | (with_reducible show wpAny _ _ (exec (Stmt.For _ _ _ _ _) _) _ _ _) | (with_reducible show wpAny _ _ (eval (Expr.ListComp _ _ _ _) _) _ _ _))); first | (k_unfold; (try dsimp only)) | walk1 | (dsimp only; walk1))
                    refine wpX_execs_cons (wpX.of ?_)
                    repeat' ((fail_if_success (first | (with_reducible show Exists _) | (with_reducible show wpAny _ _ (exec (Stmt.While _ _ _ _) _) _ _ _) | (with_reducible show wpAny _ _ (exec (Stmt.For _ _ _ _ _) _) _ _ _) | (with_reducible show wpAny _ _ (eval (Expr.ListComp _ _ _ _) _) _ _ _))); first | (k_unfold; (try dsimp only)) | walk1 | (dsimp only; walk1))
                    rename Fr _ _ _ _ => F14
                    rename News _ _ _ _ => N14
                    dsimp only
                    refine wpX_execs_nil ?_
                    refine ⟨_, _, _, _, _, _, rfl, F14, ?_, if_pos rfl, ?_, ?_, by rw [turnN, turnRows_queue]; assumption, News.mono N14 (by walk_at "my subset")⟩
                    · walk_at "my nm"
                    · walk_at "my nm"
                    · walk_at "my nm"
                  case tr =>
                    rintro s' ⟨h, tk, m, l2, vs2, c2, rfl, F, z1, z2, z3, z4, hB2, N⟩
                    dsimp only
                    refine wpX_execs_nil ?_
                    dsimp only
                    refine wpX_execs_nil ?_
                    rw [← htn] at hr'
                    dsimp only
                    refine wpX_execs_nil ?_
                    exact ⟨rfl, _, _, _, q', qs', _, l2, vs2, c2, _, _, _, _, _, ⟨F, z1, z2, z3, z4, I', News.mono N (by walk_at "my subset"), y', ok', hr', htn ▸ hB2, by omega, by assumption⟩⟩
              --RB turn
      · --BR after
        obtain ⟨rfl, h7, tk7, m7, q7, qs7, rs7, lr7, vs7, cr7, sp7, gr7, tc7, td7, n7, S7⟩ := hf
        clear S F8 N8 a4 a5 b1 b2 b3 b4 b5 r1 r2 r3 r4
        have F9 := S7.F
        have N9 : News s.heap L h7 ((h9.objs.size, riter 24 (i + 1)) :: (lr7, W.listOf (List.toArray vs7) cr7) :: (L + 1 + 1, o4) :: (L + 1, o3) :: (pa, penObj pc sp7 gr7 tc7 td7 n7) :: (pc, W.listOf (List.toArray cs) k1) :: qs7) := S7.N
        have e1 := S7.one
        have e2 := S7.rows
        have e3 := S7.kd
        have e4 := S7.mst
        have hB := S7.hB
        have I := S7.I
        have ok := S7.ok
        have hr := S7.hr
        have y0 : q7.x = q7.x := rfl
        obtain ⟨y1, y2, y3⟩ := S7.st
        dsimp only
        refine wpX_execs_cons (wpX.of ?_)
        repeat' ((fail_if_success (first | (with_reducible show Exists _) | (with_reducible show wpAny _ _ (exec (Stmt.While _ _ _ _) _) _ _ _) | (with_reducible show wpAny _ _ (exec (Stmt.For _ _ _ _ _) _) _ _ _) | (with_reducible show wpAny _ _ (eval (Expr.ListComp _ _ _ _) _) _ _ _))); first | (k_unfold; (try dsimp only)) | walk1 | (dsimp only; walk1))
        rename Fr _ _ _ _ => F14
        rename News _ _ _ _ => N14
        dsimp only
        refine wpX_execs_nil ?_
        have hs8 := S7.hs
        exact ⟨_, _, m7, q7, qs7, rs7, lr7, vs7, cr7, sp7, gr7, tc7, td7, n7, ⟨F14, e1, e2, e3, e4, I, N14, ⟨y1, y2, y3⟩, ok, hr, hB, by omega, S7.hg⟩⟩
        --RB after
    case done =>
      rintro s₁ h' tk' ⟨h, tk, m, q, qs, rs, lr, vs, cr, sp, gr, ta, tb, n, S⟩ hk
      obtain ⟨F5, N5⟩ := iter_end S.F S.N (law_apart S d3 d4) hk
      have hs8 := S.hs
      exact ⟨h', tk', m, q, qs, rs, lr, vs, cr, sp, gr, ta, tb, n, ⟨F5, S.one, S.rows, S.kd, S.mst, S.I, N5, S.st, S.ok, S.hr, S.hB, by omega, S.hg⟩⟩
    case rest =>
      rintro s' ⟨h, tk, m, q, qs, rs, lr, vs, cr, sp, gr, ta, tb, n, S⟩
      clear F9 N9 hR hI0q k9
      --BR rest
      obtain ⟨a1, a2, a3, a4, a5, b1, b2, b3, b4, b5⟩ := S.ap d3 d4 hpcpa
      have F9 := S.F
      have N9 : News s.heap L h ((lr, W.listOf (List.toArray vs) cr) :: (L + 1 + 1, o4) :: (L + 1, o3) :: (pa, penObj pc sp gr ta tb n) :: (pc, W.listOf (List.toArray cs) k1) :: qs) := S.N
      have e1 := S.one
      have e2 := S.rows
      have e3 := S.kd
      have e4 := S.mst
      have hB := S.hB
      have I := S.I
      have ok := S.ok
      have hr := S.hr
      have y0 : q.x = q.x := rfl
      obtain ⟨y1, y2, y3⟩ := S.st
      (try dsimp only)
      refine wpX_execs_cons (wpX_If (wpX_isOr2 (wpX_isNot (wpX_isCall (wpX_CallName ?_)))))
      repeat' ((fail_if_success (first | (with_reducible show Exists _) | (with_reducible show wpAny _ _ (exec (Stmt.While _ _ _ _) _) _ _ _) | (with_reducible show wpAny _ _ (exec (Stmt.For _ _ _ _ _) _) _ _ _) | (with_reducible show wpAny _ _ (eval (Expr.ListComp _ _ _ _) _) _ _ _))); first | (k_unfold; (try dsimp only)) | walk1 | (dsimp only; walk1))
      (try dsimp only)
      refine wpX_callWith_K X (by k_is) ?_
      repeat' ((fail_if_success (first | (with_reducible show Exists _) | (with_reducible show wpAny _ _ (exec (Stmt.While _ _ _ _) _) _ _ _) | (with_reducible show wpAny _ _ (exec (Stmt.For _ _ _ _ _) _) _ _ _) | (with_reducible show wpAny _ _ (eval (Expr.ListComp _ _ _ _) _) _ _ _))); first | (k_unfold; (try dsimp only)) | walk1 | (dsimp only; walk1))
      refine c_pouredE (g₀ := s.heap) y0 y1 y2 y3 (Rm.mono R' (by decide)) Y F9.keep (pen_K3 N9 (by walk_at "my mem") (by walk_at "my mem") (by walk_at "my mem")) hcs hcl (by have := S.hs; omega) S.hg hpcpa a4 hB (QAt.of_news I N9 (by walk_at "my sub")) b3 b4 b5 ok hr fun sp2 gr2 tc td n2 h7 tk7 st at' hgr2 hsp2 => ?_
      have U : Upd pa (penObj pc sp gr ta tb n) (penObj pc sp2 gr2 tc td n2) ((lr, W.listOf (List.toArray vs) cr) :: (L + 1 + 1, o4) :: (L + 1, o3) :: (pa, penObj pc sp gr ta tb n) :: (pc, W.listOf (List.toArray cs) k1) :: qs) ((lr, W.listOf (List.toArray vs) cr) :: (L + 1 + 1, o4) :: (L + 1, o3) :: (pa, penObj pc sp2 gr2 tc td n2) :: (pc, W.listOf (List.toArray cs) k1) :: qs) := by
        refine .tail a4 (.tail ?_ (.tail ?_ (.head (all_cons a3 a5))))
        · exact a1
        · exact a2
      have F10 := pen_fr F9 N9 U st at'
      have N10 := pen_nw N9 U st at'
      have hs8 := S.hs
      clear F9 N9 U st at' S
      (try dsimp only)
      repeat' ((fail_if_success (first | (with_reducible show Exists _) | (with_reducible show wpAny _ _ (exec (Stmt.While _ _ _ _) _) _ _ _) | (with_reducible show wpAny _ _ (exec (Stmt.For _ _ _ _ _) _) _ _ _) | (with_reducible show wpAny _ _ (eval (Expr.ListComp _ _ _ _) _) _ _ _))); first | (k_unfold; (try dsimp only)) | walk1 | (dsimp only; walk1))
      refine wpX_isNot (wpX_isCall (wpX_CallName ?_))
      repeat' ((fail_if_success (first | (with_reducible show Exists _) | (with_reducible show wpAny _ _ (exec (Stmt.While _ _ _ _) _) _ _ _) | (with_reducible show wpAny _ _ (exec (Stmt.For _ _ _ _ _) _) _ _ _) | (with_reducible show wpAny _ _ (eval (Expr.ListComp _ _ _ _) _) _ _ _))); first | (k_unfold; (try dsimp only)) | walk1 | (dsimp only; walk1))
      (try dsimp only)
      refine wpX_callWith_K X (by k_is) ?_
      repeat' ((fail_if_success (first | (with_reducible show Exists _) | (with_reducible show wpAny _ _ (exec (Stmt.While _ _ _ _) _) _ _ _) | (with_reducible show wpAny _ _ (exec (Stmt.For _ _ _ _ _) _) _ _ _) | (with_reducible show wpAny _ _ (eval (Expr.ListComp _ _ _ _) _) _ _ _))); first | (k_unfold; (try dsimp only)) | walk1 | (dsimp only; walk1))
      rename Fr _ _ _ _ => F11
      rename News _ _ _ _ => N11
      have KB := below_law hfr F11 R' rfl
      refine wpX.of (c_refusedE y0 y2 KB (Nat.le_of_eq (hideAll_size _ _)) (Rm.mono R' (by decide)) (law_lay Y F11) (QAt.of_news I N11 (by walk_at "my sub")) ok hr fun h8 tk8 st up => ?_)
      obtain ⟨F12, N12⟩ := law_stay F11 N11 st up
      clear F11 N11 KB st up
      (try dsimp only)
      repeat' ((fail_if_success (first | (with_reducible show Exists _) | (with_reducible show wpAny _ _ (exec (Stmt.While _ _ _ _) _) _ _ _) | (with_reducible show wpAny _ _ (exec (Stmt.For _ _ _ _ _) _) _ _ _) | (with_reducible show wpAny _ _ (eval (Expr.ListComp _ _ _ _) _) _ _ _))); first | (k_unfold; (try dsimp only)) | walk1 | (dsimp only; walk1))
      refine wpX_execs_nil ?_
      (try dsimp only)
      --RB rest
      --BR comp
      refine wpX_execs_cons (wpX.of ?_)
      repeat' ((fail_if_success (first | (with_reducible show Exists _) | (with_reducible show wpAny _ _ (exec (Stmt.While _ _ _ _) _) _ _ _) | (with_reducible show wpAny _ _ (exec (Stmt.For _ _ _ _ _) _) _ _ _) | (with_reducible show wpAny _ _ (eval (Expr.ListComp _ _ _ _) _) _ _ _))); first | (k_unfold; (try dsimp only)) | walk1 | (dsimp only; walk1))
      refine wpX.any (my_ListComp (by intro _; rfl) (by with_unfolding_all rfl) rfl (by decide) (by decide) rfl ?_)
      repeat' ((fail_if_success (first | (with_reducible show Exists _) | (with_reducible show wpAny _ _ (exec (Stmt.While _ _ _ _) _) _ _ _) | (with_reducible show wpAny _ _ (exec (Stmt.For _ _ _ _ _) _) _ _ _) | (with_reducible show wpAny _ _ (eval (Expr.ListComp _ _ _ _) _) _ _ _))); first | (k_unfold; (try dsimp only)) | walk1 | (dsimp only; walk1))
      rename_i h9' tk9' tt1 tu1 tv1 hR9 F13 N13 k13
      have p1 := N13 (pa, _) (by walk_at "my mem")
      have p2 := N13 (pc, W.listOf (List.toArray cs) k1) (by walk_at "my mem")
      have p3 := N13 (L + 1, o3) (by walk_at "my mem")
      have p4 := N13 (L + 1 + 1, o4) (by walk_at "my mem")
      dsimp only at p1 p2 p3 p4
      have q3 : L + 1 ≠ pc := (list_ne_cell p2.1 p3.1 d3).symm
      have q4 : L + 1 + 1 ≠ pc := (list_ne_cell p2.1 p4.1 d4).symm
      refine compOb_range (n := 3) rfl hR9 (by omega) [pa, pc] (fun a ha => by
        rcases List.mem_cons.mp ha with rfl | ha
        · rw [p1.1]; rfl
        · rw [List.mem_singleton.mp ha, p2.1]; rfl) fun I9 D C h₃ hI0 hD0 hC0 k3 => ?_
      have nI : ∀ {a o}, h9'.get? a = some o → ∀ b, h9'.get? b = none → a ≠ b := fun e b e' q => by rw [← q, e] at e'; cases e'
      refine ⟨fun i ys h => (Ex6 fun sp' gr' t' u' n' zs => All6 (h.get? pa = some (penObj pc sp' gr' t' u' n')) (h.get? pc = some (W.listOf (List.toArray cs) k1)) (0 ≤ gr') (sp' ≤ sp2 + 4 * i) (BytesAre ys zs) (∀ z ∈ zs, z.size = wd)),
        ⟨sp2, gr2, tc, td, n2, [], k3 _ _ p1.1, k3 _ _ p2.1, hgr2, by omega, .nil, fun _ h => nomatch h⟩, ?_, ?_, ?_⟩
      · rintro i ys h h' ⟨sp', gr', t', u', n', zs, x1, x2, x3, x4, x5, x6⟩ hk
        exact ⟨sp', gr', t', u', n', zs, hk _ _ (nI p1.1 _ hC0) (nI p1.1 _ hD0) (nI p1.1 _ hI0) x1, hk _ _ (nI p2.1 _ hC0) (nI p2.1 _ hD0) (nI p2.1 _ hI0) x2, x3, x4, x5, x6⟩
      · rintro i ys ti g1 h tk m1 hi hy Hg1 Fc kk ⟨sp', gr', t', u', n', zs, x1, x2, x3, x4, x5, x6⟩
        have sub : ∀ b o, s.heap.get? b = some o → g1.get? b = some o := fun b o e => Hg1.get b o (F13.keep b o e) (fun hb => by
          rcases List.mem_cons.mp hb with rfl | hb
          · rw [p1.2.2] at e; cases e
          · rw [List.mem_singleton.mp hb, p2.2.2] at e; cases e)
        have Yg := Y.keeps sub
        have Xg := Yg.X
        have Tg := Yg.T
        have hcell1 : CellAt g1 (L + 1) (.ref pa) := ⟨o3, Hg1.get _ _ p3.1 (fun hb => by
          rcases List.mem_cons.mp hb with hb | hb
          · exact a2 hb
          · exact q3 (List.mem_singleton.mp hb)), d3⟩
        have hcell2 : CellAt g1 (L + 1 + 1) (.int (wd : Int) tw) := ⟨o4, Hg1.get _ _ p4.1 (fun hb => by
          rcases List.mem_cons.mp hb with hb | hb
          · exact a1 hb
          · exact q4 (List.mem_singleton.mp hb)), d4⟩
        have Ng : News g1 C h [(pa, penObj pc sp' gr' t' u' n'), (pc, W.listOf (List.toArray cs) k1)] := by
          intro p hp
          rcases List.mem_cons.mp hp with rfl | hp
          · exact ⟨x1, nI p1.1 _ hC0, Hg1.none _ (.head _)⟩
          · rcases List.mem_singleton.mp hp with rfl
            exact ⟨x2, nI p2.1 _ hC0, Hg1.none _ (.tail _ (.head _))⟩
        have hcs9 : IntsAre cs (List.take 60 xs) ∧ True := ⟨hcs, trivial⟩
        clear N13 F13 X T Y k13 kk hcs
        refine wpX.of ?_
        repeat' ((fail_if_success (first | (with_reducible show Exists _) | (with_reducible show wpAny _ _ (exec (Stmt.While _ _ _ _) _) _ _ _) | (with_reducible show wpAny _ _ (exec (Stmt.For _ _ _ _ _) _) _ _ _) | (with_reducible show wpAny _ _ (eval (Expr.ListComp _ _ _ _) _) _ _ _))); first | (k_unfold; (try dsimp only)) | walk1 | (dsimp only; walk1))
        refine c_octets (Rm.mono R' (by decide)) Yg Fc.keep (pen_K Ng (.head _) (.tail _ (.head _))) hcs9.1 hcl (by omega) x3 hpcpa hw1 fun x tx sp3 gr3 t3 u3 n3 h5 tk5 hsz st at5 y1 y2 => ?_
        dsimp only
        refine ⟨h5, tk5, rfl, fun a o e hn => st a o (fun q => hn (q ▸ .head _)) e, sp3, gr3, t3, u3, n3, zs ++ [x], at5, st _ _ hpcpa x2, y1, by omega, x5.append (.cons _ _ .nil), fun z hz => ?_⟩
        rcases List.mem_append.mp hz with hz | hz
        · exact x6 z hz
        · rw [List.mem_singleton.mp hz]; exact hsz
      · rintro ys cy h hk0 hy ⟨sp', gr', t', u', n', zs, x1, x2, x3, x4, x5, x6⟩ kk hD
        have st : ∀ b o, b ≠ pa → h9'.get? b = some o → h.get? b = some o := fun b o hb e => by
          by_cases hc : b = pc
          · subst hc; rw [p2.1] at e; cases e; exact x2
          · exact kk b o e (by simp [hb, hc])
        have U : Upd pa (penObj pc sp2 gr2 tc td n2) (penObj pc sp' gr' t' u' n') ((lr, W.listOf (List.toArray vs) cr) :: (L + 1 + 1, o4) :: (L + 1, o3) :: (pa, penObj pc sp2 gr2 tc td n2) :: (pc, W.listOf (List.toArray cs) k1) :: qs) ((lr, W.listOf (List.toArray vs) cr) :: (L + 1 + 1, o4) :: (L + 1, o3) :: (pa, penObj pc sp' gr' t' u' n') :: (pc, W.listOf (List.toArray cs) k1) :: qs) := by
          refine .tail a4 (.tail ?_ (.tail ?_ (.head (all_cons a3 a5))))
          · exact a1
          · exact a2
        have F14 := pen_fr F13 N13 U st x1
        have N14 := pen_nw N13 U st x1
        have fD := fr_new F13 hD0
        have N15 : News s.heap L h ((D, W.listOf (List.toArray ys) cy) :: (lr, W.listOf (List.toArray vs) cr) :: (L + 1 + 1, o4) :: (L + 1, o3) :: (pa, penObj pc sp' gr' t' u' n') :: (pc, W.listOf (List.toArray cs) k1) :: qs) := fun p hp => by
          rcases List.mem_cons.mp hp with rfl | hp
          · exact ⟨hD, fD.2.symm, fD.1⟩
          · exact N14 p hp
        clear F13 N13 N14 U st kk k13 hR9 hD fD
        (try dsimp only)
        repeat' ((fail_if_success (first | (with_reducible show Exists _) | (with_reducible show wpAny _ _ (exec (Stmt.While _ _ _ _) _) _ _ _) | (with_reducible show wpAny _ _ (exec (Stmt.For _ _ _ _ _) _) _ _ _) | (with_reducible show wpAny _ _ (eval (Expr.ListComp _ _ _ _) _) _ _ _))); first | (k_unfold; (try dsimp only)) | walk1 | (dsimp only; walk1))
        rename Fr _ _ _ _ => F16
        rename News _ _ _ _ => N16
        obtain ⟨m9, ld, F17, g1, g2, g3, g4, g5, g6, ltd, N17⟩ : (Ex2 fun m9 ld => All9 (Fr s.heap L _ m9) (m9 (Str.ofString "due") = some (.ref ld)) (m9 (Str.ofString "more") = some (.ref D)) (m9 (Str.ofString "one") = some (.ref q.x)) (m9 (Str.ofString "rows") = some (.ref lr)) (m9 (Str.ofString "kind") = some (.str kind tkk)) (m9 (Str.ofString "most") = some (.int mo tm)) (AllLt ld ((D, W.listOf (List.toArray ys) cy) :: (lr, W.listOf (List.toArray vs) cr) :: (L + 1 + 1, o4) :: (L + 1, o3) :: (pa, penObj pc sp' gr' t' u' n') :: (pc, W.listOf (List.toArray cs) k1) :: qs)) (News s.heap L _ ((ld, W.listOf (List.toArray []) 0) :: (D, W.listOf (List.toArray ys) cy) :: (lr, W.listOf (List.toArray vs) cr) :: (L + 1 + 1, o4) :: (L + 1, o3) :: (pa, penObj pc sp' gr' t' u' n') :: (pc, W.listOf (List.toArray cs) k1) :: qs))) := by
          refine' ⟨_, _, F16, ?v1, ?v2, ?v3, ?v4, ?v5, ?v6, ?v8, ?v7⟩
          case v1 => walk_at "my nm"
          case v2 => walk_at "my nm"
          case v3 => walk_at "my nm"
          case v4 => walk_at "my nm"
          case v5 => walk_at "my nm"
          case v6 => walk_at "my nm"
          case v7 => exact News.mono N16 (by walk_at "my subset")
          case v8 => simp only [AllLt, and_true]; assumption
        clear F16 N16
        have lta := allLt_all ltd
        have hzl : zs.length = 3 := by rw [← x5.length]; exact hy
        have hrl : rs.length ≤ 6 := by have := hr.1; have := Qd.cnt_le ok; have := ok.most1; omega
        (try dsimp only)
        refine wpX_execs_cons ?_
        refine my_For (wpX.of ?_)
        repeat' ((fail_if_success (first | (with_reducible show Exists _) | (with_reducible show wpAny _ _ (exec (Stmt.While _ _ _ _) _) _ _ _) | (with_reducible show wpAny _ _ (exec (Stmt.For _ _ _ _ _) _) _ _ _) | (with_reducible show wpAny _ _ (eval (Expr.ListComp _ _ _ _) _) _ _ _))); first | (k_unfold; (try dsimp only)) | walk1 | (dsimp only; walk1))
        rename_i hA
        have w1 : ∀ p ∈ [(ld, W.listOf (List.toArray []) 0), (D, W.listOf (List.toArray ys) cy), (L + 1 + 1, o4), (L + 1, o3), (pa, penObj pc sp' gr' t' u' n'), (pc, W.listOf (List.toArray cs) k1)], p.1 ≠ hA.objs.size := fun p hp => Nat.ne_of_lt (Heap.lt_size (News.mono N17 (by walk_at "my subset") p hp).1)
        have w2 : ∀ p ∈ qs, p.1 ≠ hA.objs.size := fun p hp => Nat.ne_of_lt (Heap.lt_size (News.mono N17 (by walk_at "my subset") p hp).1)
        refine list_loopP (News.get N17 (.tail _ (.head _))) rfl (fun j s' => (Ex9 fun h tk m l2 vs2 c2 vd cd oI => All13 (s' = { s with heap := h, toks := tk }) (Fr s.heap L h m) (m (Str.ofString "due") = some (.ref ld)) (m (Str.ofString "more") = some (.ref D)) (m (Str.ofString "one") = some (.ref q.x)) (m (Str.ofString "rows") = some (.ref l2)) (m (Str.ofString "kind") = some (.str kind tkk)) (m (Str.ofString "most") = some (.int mo tm)) (BytesAre vs2 (pushAll mo 2 (zs.take j) rs).2) (IntsAre vd (pushAll mo 2 (zs.take j) rs).1) (l2 ≠ ld) (h.IsListIter hA.objs.size D j) (News s.heap L h ((hA.objs.size, oI) :: (l2, W.listOf (List.toArray vs2) c2) :: (ld, W.listOf (List.toArray vd) cd) :: (D, W.listOf (List.toArray ys) cy) :: (L + 1 + 1, o4) :: (L + 1, o3) :: (pa, penObj pc sp' gr' t' u' n') :: (pc, W.listOf (List.toArray cs) k1) :: qs))))
          (fun s' => (Ex8 fun h tk m l2 vs2 c2 vd cd => All11 (s' = { s with heap := h, toks := tk }) (Fr s.heap L h m) (m (Str.ofString "due") = some (.ref ld)) (m (Str.ofString "more") = some (.ref D)) (m (Str.ofString "one") = some (.ref q.x)) (m (Str.ofString "rows") = some (.ref l2)) (m (Str.ofString "kind") = some (.str kind tkk)) (m (Str.ofString "most") = some (.int mo tm)) (BytesAre vs2 (pushAll mo 2 zs rs).2) (IntsAre vd (pushAll mo 2 zs rs).1) (News s.heap L h ((l2, W.listOf (List.toArray vs2) c2) :: (ld, W.listOf (List.toArray vd) cd) :: (D, W.listOf (List.toArray ys) cy) :: (L + 1 + 1, o4) :: (L + 1, o3) :: (pa, penObj pc sp' gr' t' u' n') :: (pc, W.listOf (List.toArray cs) k1) :: qs)))) ?li ?lh ?lt ?ld ?lr
        case li =>
          exact ⟨hA.push { cls := .type "list_iterator", data := .fields #[.ref D, .int 0 0] }, _, m9, lr, vs, cr, [], 0, _, rfl, F17.push _, g1, g2, g3, g4, g5, g6, hB, .nil, Nat.ne_of_lt (lta _ (.tail _ (.head _))), ⟨_, Heap.get?_push_size _ rfl, rfl, rfl⟩, (News.mono N17 (by walk_at "my subset")).push F17 _⟩
        case lh =>
          rintro j s' ⟨h, tk, m, l2, vs2, c2, vd, cd, oI, rfl, F, z1, z2, z3, z4, z5, z6, hB2, hI2, hne, hit, N⟩
          exact ⟨hit, News.isList N (.tail _ (.tail _ (.tail _ (.head _))))⟩
        case ld =>
          rintro s₁ h' tk' ⟨h, tk, m, l2, vs2, c2, vd, cd, oI, rfl, F, z1, z2, z3, z4, z5, z6, hB2, hI2, hne, hit, N⟩ hk
          obtain ⟨F5, N5⟩ := iter_end F N (fun p hp => by
            rcases List.mem_cons.mp hp with rfl | hp
            · exact liter_ne_list hit (N _ (.tail _ (.head _))).1
            rcases List.mem_cons.mp hp with rfl | hp
            · exact w1 (ld, W.listOf (List.toArray []) 0) (.head _)
            · exact (List.mem_append.mp (show p ∈ [_, _, _, _, _] ++ qs from hp)).elim (fun h => w1 p (.tail _ h)) (w2 p)) hk
          rw [hy, List.take_of_length_le (Nat.le_of_eq hzl)] at hB2 hI2
          exact ⟨_, _, m, l2, vs2, c2, vd, cd, rfl, F5, z1, z2, z3, z4, z5, z6, hB2, hI2, N5⟩
        case lt =>
          rintro j v s₁ h' tk' hv ⟨h, tk, m, l2, vs2, c2, vd, cd, oI, rfl, F, z1, z2, z3, z4, z5, z6, hB2, hI2, hne, hit, N⟩ hit' hk
          have hj := (List.getElem?_eq_some_iff.mp hv).1
          obtain ⟨b, tb, rfl, hb⟩ := x5.get j v hv
          obtain ⟨oI', eI', rI'⟩ := id hit'
          obtain ⟨F5, N5⟩ := iter_step F N (fun p hp => by
            rcases List.mem_cons.mp hp with rfl | hp
            · exact liter_ne_list hit (N _ (.tail _ (.head _))).1
            rcases List.mem_cons.mp hp with rfl | hp
            · exact w1 (ld, W.listOf (List.toArray []) 0) (.head _)
            · exact (List.mem_append.mp (show p ∈ [_, _, _, _, _] ++ qs from hp)).elim (fun h => w1 p (.tail _ h)) (w2 p)) hk eI'
          have hpl := pushAll_len (most := mo) (fl := 2) (zs.take j) rs
          rw [List.length_take] at hpl
          have hB9 : BytesAre vs2 (pushAll mo 2 (zs.take j) rs).2 ∧ True := ⟨hB2, trivial⟩
          clear F N hk F17 N17 hB2
          dsimp only
          repeat' ((fail_if_success (first | (with_reducible show Exists _) | (with_reducible show wpAny _ _ (exec (Stmt.While _ _ _ _) _) _ _ _) | (with_reducible show wpAny _ _ (exec (Stmt.For _ _ _ _ _) _) _ _ _) | (with_reducible show wpAny _ _ (eval (Expr.ListComp _ _ _ _) _) _ _ _))); first | (k_unfold; (try dsimp only)) | walk1 | (dsimp only; walk1))
          rename Fr _ _ _ _ => F6
          obtain ⟨m2, F7, r1, r2, r3, r4, r5, r6, r7⟩ : ∃ m2, All8 (Fr s.heap L _ m2) (m2 (Str.ofString "due") = some (.ref ld)) (m2 (Str.ofString "more") = some (.ref D)) (m2 (Str.ofString "one") = some (.ref q.x)) (m2 (Str.ofString "rows") = some (.ref l2)) (m2 (Str.ofString "kind") = some (.str kind tkk)) (m2 (Str.ofString "most") = some (.int mo tm)) (m2 (Str.ofString "octets") = some (.bytes b tb)) :=
            ⟨_, F6, (if_neg (by decide +kernel)).trans z1, (if_neg (by decide +kernel)).trans z2, (if_neg (by decide +kernel)).trans z3, (if_neg (by decide +kernel)).trans z4, (if_neg (by decide +kernel)).trans z5, (if_neg (by decide +kernel)).trans z6, if_pos rfl⟩
          clear F6 z1 z2 z3 z4 z5 z6
          refine wpX_execs_cons (wpX.of ?_)
          repeat' ((fail_if_success (first | (with_reducible show Exists _) | (with_reducible show wpAny _ _ (exec (Stmt.While _ _ _ _) _) _ _ _) | (with_reducible show wpAny _ _ (exec (Stmt.For _ _ _ _ _) _) _ _ _) | (with_reducible show wpAny _ _ (eval (Expr.ListComp _ _ _ _) _) _ _ _))); first | (k_unfold; (try dsimp only)) | walk1 | (dsimp only; walk1))
          rename Fr _ _ _ _ => F8
          rename News _ _ _ _ => N8
          refine c_due_push (Rm.mono R' (by decide)) (Y.keeps F8.keep) (News.get N8 (.tail _ (.head _))) hB9.1 (by omega) fun r' l' vs' c' t8 h8' tk8' k8 nr8 or8 nl8 ol8 hB8 => ?_
          dsimp only at k8 nr8 nl8
          have F9 := F8.keeps k8
          have N9 := News.add F8 (News.addE F8 N8 k8 nl8 (.tail _ (.head _)) ol8) nr8 or8
          have hl9 : l' ≠ ld := fun e => by
            rcases nl8 with h | h
            · exact hne (h.symm.trans e)
            · rw [e, (N8 (ld, _) (by walk_at "my mem")).1] at h; cases h
          have hr9 : r' ≠ ld := fun e => by
            rw [e, (N8 (ld, _) (by walk_at "my mem")).1] at nr8; cases nr8
          clear F8 N8 k8 nr8 or8 nl8 ol8
          (try dsimp only)
          repeat' ((fail_if_success (first | (with_reducible show Exists _) | (with_reducible show wpAny _ _ (exec (Stmt.While _ _ _ _) _) _ _ _) | (with_reducible show wpAny _ _ (exec (Stmt.For _ _ _ _ _) _) _ _ _) | (with_reducible show wpAny _ _ (eval (Expr.ListComp _ _ _ _) _) _ _ _))); first | (k_unfold; (try dsimp only)) | walk1 | (dsimp only; walk1))
          rename Fr _ _ _ _ => F10
          rename News _ _ _ _ => N10
          obtain ⟨m3, F11, r1', r2', r3', r4', r5', r6', r8', N11⟩ : ∃ m3, All9 (Fr s.heap L _ m3) (m3 (Str.ofString "due") = some (.ref ld)) (m3 (Str.ofString "more") = some (.ref D)) (m3 (Str.ofString "one") = some (.ref q.x)) (m3 (Str.ofString "rows") = some (.ref l')) (m3 (Str.ofString "kind") = some (.str kind tkk)) (m3 (Str.ofString "most") = some (.int mo tm)) (m3 (Str.ofString "answer") = some (.int (duePush mo (pushAll mo 2 (zs.take j) rs).2 b 2).1 t8)) (News s.heap L _ ((ld, W.listOf (List.toArray vd) cd) :: (hA.objs.size, oI') :: (l', W.listOf (List.toArray vs') c') :: (D, W.listOf (List.toArray ys) cy) :: (L + 1 + 1, o4) :: (L + 1, o3) :: (pa, penObj pc sp' gr' t' u' n') :: (pc, W.listOf (List.toArray cs) k1) :: qs)) := by
            refine ⟨_, F10, ?_, ?_, ?_, ?_, ?_, ?_, ?_, News.mono N10 (by walk_at "my subset")⟩
            all_goals walk_at "my nm"
          clear F10 N10 r1 r2 r3 r4 r5 r6 r7
          have hap : ∀ p ∈ (hA.objs.size, oI') :: (l', W.listOf (List.toArray vs') c') :: (D, W.listOf (List.toArray ys) cy) :: (L + 1 + 1, o4) :: (L + 1, o3) :: (pa, penObj pc sp' gr' t' u' n') :: (pc, W.listOf (List.toArray cs) k1) :: qs, p.1 ≠ ld := fun p hp => by
            rcases List.mem_cons.mp hp with rfl | hp
            · exact (w1 (ld, W.listOf (List.toArray []) 0) (.head _)).symm
            rcases List.mem_cons.mp hp with rfl | hp
            · exact hl9
            · exact Nat.ne_of_lt (lta p (News.mono_mem (by walk_at "my subset") hp))
          have hzd : (List.toArray vd).size ≤ sizeLine := by rw [List.size_toArray, hI2.length, hpl.2, sizeLine_eq]; omega
          refine wpX_execs_cons (wpX.of ?_)
          repeat' ((fail_if_success (first | (with_reducible show Exists _) | (with_reducible show wpAny _ _ (exec (Stmt.While _ _ _ _) _) _ _ _) | (with_reducible show wpAny _ _ (exec (Stmt.For _ _ _ _ _) _) _ _ _) | (with_reducible show wpAny _ _ (eval (Expr.ListComp _ _ _ _) _) _ _ _))); first | (k_unfold; (try dsimp only)) | walk1 | (dsimp only; walk1))
          rename Fr _ _ _ _ => F12
          rename News _ _ _ _ => N12
          refine wpX_execs_nil ?_
          refine ⟨_, _, m3, l', vs', c', vd ++ [.int _ t8], _, oI', rfl, F12, r1', r2', r3', r4', r5', r6', by rw [pushAll_take hb]; exact hB8, by rw [pushAll_take hb]; exact hI2.append (.cons _ _ .nil), hl9, ⟨oI', (N12 (hA.objs.size, oI') (.tail _ (.head _))).1, rI'⟩, News.mono (by simpa only [List.push_toArray] using N12) (by walk_at "my subset")⟩
        case lr =>
          rintro s' ⟨h, tk, m, l2, vs2, c2, vd, cd, rfl, F, z1, z2, z3, z4, z5, z6, hB2, hI2, N⟩
          clear F17 N17
          --BR ret
          have K11 : ∀ e ∈ qs, _ := fun e he => (News.mono N (by walk_at "my sub") e he).1
          have O := Own.of_hid I (News.mono N (by walk_at "my sub")) ok.ad
          have nD := list_not_q I K11 (N (D, _) (by walk_at "my mem")).1
          have nl2 := list_not_q I K11 (N (l2, _) (by walk_at "my mem")).1
          have nld := list_not_q I K11 (N (ld, _) (by walk_at "my mem")).1
          (try dsimp only)
          refine wpX_execs_cons (wpX_Return (wpX_And2 (wpX_Compare (wpX_CallName ?_))))
          repeat' ((fail_if_success (first | (with_reducible show Exists _) | (with_reducible show wpAny _ _ (exec (Stmt.While _ _ _ _) _) _ _ _) | (with_reducible show wpAny _ _ (exec (Stmt.For _ _ _ _ _) _) _ _ _) | (with_reducible show wpAny _ _ (eval (Expr.ListComp _ _ _ _) _) _ _ _))); first | (k_unfold; (try dsimp only)) | walk1 | (dsimp only; walk1))
          (try dsimp only)
          refine wpX_callWith_K X (by k_is) ?_
          repeat' ((fail_if_success (first | (with_reducible show Exists _) | (with_reducible show wpAny _ _ (exec (Stmt.While _ _ _ _) _) _ _ _) | (with_reducible show wpAny _ _ (exec (Stmt.For _ _ _ _ _) _) _ _ _) | (with_reducible show wpAny _ _ (eval (Expr.ListComp _ _ _ _) _) _ _ _))); first | (k_unfold; (try dsimp only)) | walk1 | (dsimp only; walk1))
          refine c_push_rows (g₀ := s.heap) (Rm.mono R' (by decide)) Y F.keep O.ng O.at_ ok hr (N (D, _) (by walk_at "my mem")).1 (N (D, _) (by walk_at "my mem")).2.2 nD x5 (fun b hb => by rw [y2, x6 b hb]; rfl) (by omega) fun q' r vr cr' h9 tk9 M ok' hr' hrn hrg hri => ?_
          dsimp only at hrn
          have fr := fr_new F hrn
          obtain ⟨F2, qs', I', N2, ap2⟩ := Mut.newsP (pre := [(l2, W.listOf (List.toArray vs2) c2), (ld, W.listOf (List.toArray vd) cd), (D, W.listOf (List.toArray ys) cy), (L + 1 + 1, o4), (L + 1, o3), (pa, penObj pc sp' gr' t' u' n'), (pc, W.listOf (List.toArray cs) k1)]) M F N I ok.ad (fun p hp => by
            rcases List.mem_cons.mp hp with rfl | hp
            · exact nl2
            · exact pre_ap nld nD b1 b2 b3 b4 p hp)
          have N3 : News s.heap L h9 ((r, W.listOf (List.toArray vr) cr') :: (l2, W.listOf (List.toArray vs2) c2) :: (ld, W.listOf (List.toArray vd) cd) :: (D, W.listOf (List.toArray ys) cy) :: (L + 1 + 1, o4) :: (L + 1, o3) :: (pa, penObj pc sp' gr' t' u' n') :: (pc, W.listOf (List.toArray cs) k1) :: qs') := fun p hp => by
            rcases List.mem_cons.mp hp with rfl | hp
            · exact ⟨hrg, fr.2.symm, fr.1⟩
            · exact N2 p hp
          rw [y3] at hr' hri
          have z3' : m (Str.ofString "one") = some (.ref q'.x) := by rw [M.x]; exact z3
          have v1 : q'.kind = kind := M.kind.trans y1
          have v2 : q'.wd = (wd : Int) := M.wd.trans y2
          have v3 : q'.most = mo := M.most.trans y3
          clear F N N2 K11 O nD nl2 nld M z3 I ok hr hrn hrg fr
          (try dsimp only)
          repeat' ((fail_if_success (first | (with_reducible show Exists _) | (with_reducible show wpAny _ _ (exec (Stmt.While _ _ _ _) _) _ _ _) | (with_reducible show wpAny _ _ (exec (Stmt.For _ _ _ _ _) _) _ _ _) | (with_reducible show wpAny _ _ (eval (Expr.ListComp _ _ _ _) _) _ _ _))); first | (k_unfold; (try dsimp only)) | walk1 | (dsimp only; walk1))
          refine wpX_And2 (wpX_Compare (wpX_CallName ?_))
          repeat' ((fail_if_success (first | (with_reducible show Exists _) | (with_reducible show wpAny _ _ (exec (Stmt.While _ _ _ _) _) _ _ _) | (with_reducible show wpAny _ _ (exec (Stmt.For _ _ _ _ _) _) _ _ _) | (with_reducible show wpAny _ _ (eval (Expr.ListComp _ _ _ _) _) _ _ _))); first | (k_unfold; (try dsimp only)) | walk1 | (dsimp only; walk1))
          (try dsimp only)
          refine wpX_callWith_K X (by k_is) ?_
          repeat' ((fail_if_success (first | (with_reducible show Exists _) | (with_reducible show wpAny _ _ (exec (Stmt.While _ _ _ _) _) _ _ _) | (with_reducible show wpAny _ _ (exec (Stmt.For _ _ _ _ _) _) _ _ _) | (with_reducible show wpAny _ _ (eval (Expr.ListComp _ _ _ _) _) _ _ _))); first | (k_unfold; (try dsimp only)) | walk1 | (dsimp only; walk1))
          rename Fr _ _ _ _ => F4
          rename News _ _ _ _ => N4
          have O := Own.of_hid I' (News.mono N4 (by walk_at "my sub")) ok'.ad
          refine wpX.of (c_drain (g₀ := s.heap) (Rm.mono R' (by decide)) Y F4.keep O.ng O.at_ ok' hr' fun q2 r2 vr2 cr2 h10 tk10 M ok2 hr2 hrn hrg hri2 => ?_)
          dsimp only at hrn
          have fr := fr_new F4 hrn
          obtain ⟨F5, qs2, I2, N5, _⟩ := Mut.newsP (pre := [(l2, W.listOf (List.toArray vs2) c2), (ld, W.listOf (List.toArray vd) cd), (D, W.listOf (List.toArray ys) cy), (L + 1 + 1, o4), (L + 1, o3), (pa, penObj pc sp' gr' t' u' n'), (pc, W.listOf (List.toArray cs) k1)]) M F4 (News.mono N4 (by walk_at "my subset")) I' ok'.ad ap2
          have N6 : News s.heap L h10 ((r2, W.listOf (List.toArray vr2) cr2) :: (l2, W.listOf (List.toArray vs2) c2) :: (ld, W.listOf (List.toArray vd) cd) :: (D, W.listOf (List.toArray ys) cy) :: (L + 1 + 1, o4) :: (L + 1, o3) :: (pa, penObj pc sp' gr' t' u' n') :: (pc, W.listOf (List.toArray cs) k1) :: qs2) := fun p hp => by
            rcases List.mem_cons.mp hp with rfl | hp
            · exact ⟨hrg, fr.2.symm, fr.1⟩
            · exact N5 p hp
          have z3'' : m (Str.ofString "one") = some (.ref q2.x) := by rw [M.x]; exact z3'
          have u0 : q2.x = q2.x := rfl
          have u1 : q2.kind = kind := M.kind.trans v1
          have u2 : q2.wd = (wd : Int) := M.wd.trans v2
          have u3 : q2.most = mo := M.most.trans v3
          have hpl := (pushAll_len (most := mo) (fl := 2) zs rs).1
          have hnil : BytesAre [] [] := .nil
          rw [v1] at hri2
          clear F4 N4 N5 O M z3' I' ok' hr' hrn hrg fr ap2
          (try dsimp only)
          repeat' ((fail_if_success (first | (with_reducible show Exists _) | (with_reducible show wpAny _ _ (exec (Stmt.While _ _ _ _) _) _ _ _) | (with_reducible show wpAny _ _ (exec (Stmt.For _ _ _ _ _) _) _ _ _) | (with_reducible show wpAny _ _ (eval (Expr.ListComp _ _ _ _) _) _ _ _))); first | (k_unfold; (try dsimp only)) | walk1 | (dsimp only; walk1))
          refine wpX.of ?_
          repeat' ((fail_if_success (first | (with_reducible show Exists _) | (with_reducible show wpAny _ _ (exec (Stmt.While _ _ _ _) _) _ _ _) | (with_reducible show wpAny _ _ (exec (Stmt.For _ _ _ _ _) _) _ _ _) | (with_reducible show wpAny _ _ (eval (Expr.ListComp _ _ _ _) _) _ _ _))); first | (k_unfold; (try dsimp only)) | walk1 | (dsimp only; walk1))
          rename Fr _ _ _ _ => F7
          (try dsimp only)
          exact hQ _ _ F7.keep
          --RB ret
      --RB comp
end

set_option maxHeartbeats 0 in
theorem entry : PySem.Challenge.rw_nu0356_01.Holds := hd (by
  intro w s₀ s₁ mg mb G Y fa o pm cd doc dV kV ho hd' hcd hD hmg hg args vals as hpre hlay hrd hwl hlo
  have X := kIn_of Y
  have T : TopRead hd.view_1 LO mg mb s₁.heap := by
    refine Ground.open G ?_
    intro T B D TE TW
    exact topRead_of T
  have Yl : Lay w mg mb s₁.heap := ⟨X, T⟩
  have hfa : fa = 511 := by
    have e := mg_of X T.g (n := Str.ofString "law") (v := .ref 511) (by k_is)
    have e2 : mg (Str.ofString "law") = some (.ref fa) := hmg
    rw [e] at e2
    cases e2; rfl
  subst hfa
  wrow_args hpre hlay hrd hwl hlo
  rename IntsAre _ _ => hI
  rename Heap.IsList _ _ _ => hL
  rename_i hc1 hc2
  show wpX true _ (AN (1 + claimMargin) 4 (some []) (some [])) _ _ _ _
  refine c_law rfl ⟨by decide +kernel, by decide +kernel, rfl⟩ Yl hL hI (by omega) fun h' tk k => ?_
  exact GoodW.toG ⟨.inl ⟨_, ofPy (.bool true), [], rfl, raisesW_false (by intro ct h; cases h), readsW_of_reads (.bool true), by first | rfl | exact postW_of (by wrow_shape) (by wtm_val) (by w_fin), fun _ => ⟨List.nodup_nil, fun _ h => nomatch h⟩⟩, k, rfl, hg⟩)

end Mine

theorem PySem.Challenge.cw_nu0356_01_holds : PySem.Challenge.rw_nu0356_01.Holds :=
  Mine.entry


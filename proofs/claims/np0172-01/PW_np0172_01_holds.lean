import PyProof.Rows.All
import Wide.All
import OpenK.AllK
import Wide.FinOn
import PySem.Challenge.RW_np0172_01
open PySem PySem.W PyProof.Rows PySem.Calls
set_option Elab.async false
set_option maxRecDepth 100000

/- SL -/
namespace Mine

/-- a codec built-in: the codes that hold a bytearray beside the guards -/
def isCodec : Code → Bool
  | .builtin id _ => Builtin.Bytes.decodersThatHold.contains id
  | _ => false

/-- as wpAny, over the contexts without a codec built-in on the stack -/
def wpS {α : Type} (M : Model) (A : Around) (t : Sem α) (Q : α → Shared → Prop) (E : Value → Shared → Prop) (s : Shared) : Prop :=
  ∀ Γ p, Γ.In A → isCodec Γ.code = false → (∀ c ∈ Γ.below, isCodec c.1 = false) → Sem.wp M Γ t (fun a _ s' => Q a s') (fun e _ s' => E e s') p s
def codeS (M : Model) (A : Around) (c : Code) (R : Result → Shared → Prop) (s : Shared) : Prop :=
  ∀ Γ p, Γ.code = c → Γ.Below A → (∀ c ∈ Γ.below, isCodec c.1 = false) → wpCode M Γ R p s

section
variable {α β : Type} {M : Model} {A : Around} {E : Value → Shared → Prop} {s : Shared}

theorem wpS_of_any {t : Sem α} {Q : α → Shared → Prop} (h : wpAny M A t Q E s) : wpS M A t Q E s := fun Γ p hΓ _ _ => h Γ p hΓ
theorem codeS_of_any {c : Code} {R : Result → Shared → Prop} (h : codeAny M A c R s) : codeS M A c R s := fun Γ p hc hΓ _ => h Γ p hc hΓ
theorem wpS_pure {a : α} {Q : α → Shared → Prop} (h : Q a s) : wpS M A (pure a) Q E s := fun _ _ _ _ _ => h
theorem wpS_mono {t : Sem α} {Q Q' : α → Shared → Prop} {E' : Value → Shared → Prop} (h : wpS M A t Q E s) (hQ : ∀ a s, Q a s → Q' a s) (hE : ∀ e s, E e s → E' e s) : wpS M A t Q' E' s :=
  fun Γ p h1 h2 h3 => Sem.wp_mono M Γ t (fun a _ s => hQ a s) (fun e _ s => hE e s) p s (h Γ p h1 h2 h3)
theorem codeS_mono {c : Code} {R R' : Result → Shared → Prop} (h : codeS M A c R s) (hR : ∀ r s, R r s → R' r s) : codeS M A c R' s :=
  fun Γ p hc h1 h2 => wpCode_mono hR (h Γ p hc h1 h2)
theorem wpS_bind {m : Sem α} {f : α → Sem β} {Q : β → Shared → Prop} (h : wpS M A m (fun a s' => wpS M A (f a) Q E s') E s) : wpS M A (m >>= f) Q E s := fun Γ p h1 h2 h3 => by
  rw [Sem.wp_bind']
  exact Sem.wp_mono M Γ m (fun a p' s' h' => h' Γ p' h1 h2 h3) (fun _ _ _ h' => h') p s (h Γ p h1 h2 h3)
/-- first a step without a bytearray, then the rest -/
theorem wpS_seq {m : Sem α} {f : α → Sem β} {Q : β → Shared → Prop} (h : wpAny M A m (fun a s' => wpS M A (f a) Q E s') E s) : wpS M A (m >>= f) Q E s := wpS_bind (wpS_of_any h)
theorem wpS_onRaise {m : Sem α} {k : Value → Sem Unit} {Q : α → Shared → Prop}
    (h : wpS M A m Q (fun e s' => wpS M A (k e) (fun _ s'' => E e s'') E s') s) : wpS M A (m.onRaise k) Q E s := fun Γ p h1 h2 h3 => by
  rw [Sem.wp_onRaise]
  exact Sem.wp_mono M Γ m (fun _ _ _ h' => h') (fun e p' s' h' => h' Γ p' h1 h2 h3) p s (h Γ p h1 h2 h3)
theorem wpS_tryCatch {m : Sem α} {k : Value → Sem α} {Q : α → Shared → Prop} (h : wpS M A m Q (fun e s' => wpS M A (k e) Q E s') s) : wpS M A (tryCatch m k) Q E s := fun Γ p h1 h2 h3 => by
  rw [Sem.wp_tryCatch']
  exact Sem.wp_mono M Γ m (fun _ _ _ h' => h') (fun e p' s' h' => h' Γ p' h1 h2 h3) p s (h Γ p h1 h2 h3)
theorem wpS_attempt {m : Sem α} {Q : Except Value α → Shared → Prop} (h : wpS M A m (fun a => Q (.ok a)) (fun e => Q (.error e)) s) :
    wpS M A m.attempt Q E s := fun Γ p h1 h2 h3 => by rw [Sem.wp_attempt]; exact h Γ p h1 h2 h3
theorem wpS_holding {vs : List Value} {m : Sem α} {Q : α → Shared → Prop} (h : wpS M A m Q E s) : wpS M A (holding vs m) Q E s :=
  fun Γ p h1 h2 h3 => by rw [Sem.wp_holding]; exact h Γ p h1 h2 h3
theorem wpS_of_eq {t u : Sem α} {Q : α → Shared → Prop} (e : t = u) (h : wpS M A u Q E s) : wpS M A t Q E s := e ▸ h

theorem wpS_run {c : Code} {h : Option Value} {Q : Flow → Shared → Prop}
    (hc : codeS M (A.mark h) c (fun r s' => match r with | .ok f => Q f s' | .error e => E e s') s) (hnb : h ≠ some byPass := by intro x; cases x) : wpS M A (run c h) Q E s :=
  fun Γ p h1 h2 h3 => by
    rw [Sem.wp_run]
    refine hc _ p rfl (h1.enter c h p hnb) fun x hx => ?_
    rcases List.mem_cons.mp hx with rfl | hx
    · exact h2
    · exact h3 x hx
theorem wpS_runValue {c : Code} {Q : Value → Shared → Prop}
    (hc : codeS M A c (fun r s' => match r with | .ok (.ret v) => Q v s' | .ok _ => False | .error e => E e s') s) : wpS M A (runValue c) Q E s := fun Γ p h1 h2 h3 => by
  rw [Sem.wp_runValue]
  refine hc _ p rfl (h1.enter c none p (by intro x; cases x)) fun x hx => ?_
  rcases List.mem_cons.mp hx with rfl | hx
  · exact h2
  · exact h3 x hx
theorem wpS_call {f : Value} {pos : List Value} {kw : List (Str × Value)} {Q : Value → Shared → Prop}
    (hc : codeS M A (.call f ⟨pos, kw⟩) (fun r s' => match r with | .ok (.ret v) => Q v s' | .ok _ => False | .error e => E e s') s) : wpS M A (call f pos kw) Q E s := wpS_runValue hc

theorem codeS_of_tree {c : Code} {R : Result → Shared → Prop} (hn : isCodec c = false)
    (h : wpS M (A.under c) (M.den c) (fun fin s' => match fin with | .done f => R (.ok f) s' | .again c' => c'.quiet = true ∧ codeS M A c' R s') (fun e s' => R (.error e) s') s) : codeS M A c R s := fun Γ p hc hΓ h3 => by
  rw [wpCode_iff_wp, hc]
  refine Sem.wp_mono M Γ _ (fun fin p' s' h' => ?_) (fun _ _ _ h' => h') p s (h Γ p (hc ▸ hΓ.in) (hc ▸ hn) h3)
  cases fin with
  | done f => exact h'
  | again c' => exact ⟨h'.1, h'.2 (Γ.goto c') p' rfl (hΓ.goto c') h3⟩
theorem codeS_loop {c : Code} {R : Result → Shared → Prop} (hn : isCodec c = false) (hq : c.quiet = true) (I : Nat → Shared → Prop)
    (turn : ∀ n s, I n s → wpS M (A.under c) (M.den c) (fun fin s' => match fin with | .done f => R (.ok f) s' | .again c' => c' = c ∧ ∃ m, m < n ∧ I m s') (fun e s' => R (.error e) s') s)
    (n : Nat) (h : I n s) : codeS M A c R s := by
  induction n using Nat.strongRecOn generalizing s with
  | ind n ih =>
    refine codeS_of_tree hn (wpS_mono (turn n s h) (fun fin s' hf => ?_) fun _ _ h' => h')
    cases fin with
    | done f => exact hf
    | again c' => obtain ⟨rfl, m, hm, hI⟩ := hf; exact ⟨hq, ih m hm hI⟩

theorem guardless {l : List (Code × Pos)} (h : guardsOf l = []) {c : Code × Pos} (hm : c ∈ l) : c.1.isGuard = false := by
  cases hx : c.1.isGuard with
  | false => rfl
  | true =>
    have : c.1 ∈ guardsOf l := List.mem_filter.mpr ⟨List.mem_map_of_mem hm, hx⟩
    rw [h] at this; cases this
theorem not_guard {id : String} {args : Args} (h : (Code.builtin id args).isGuard = false) {x : String} (hx : guardIds.contains x = true) : id ≠ x := by
  rintro rfl
  exact absurd (hx.symm.trans h) (by decide)
theorem any_none {α : Type} {l : List α} {f : α → Bool} (h : ∀ x ∈ l, f x = false) : l.any f = false := by
  rw [List.any_eq_false]
  intro c hc
  rw [h c hc]
  exact Bool.false_ne_true
/-- no code of the stack holds this bytearray -/
theorem wpS_exported {a : Addr} {Q : Bool → Shared → Prop} (hg : A.guards = some []) (h : Q false s) : wpS M A (Builtin.Bytes.exported (.ref a)) Q E s := fun Γ p h1 h2 h3 => by
  have hst : guardsOf ((Γ.code, p) :: Γ.below) = [] := by rw [guardsOf_cons]; exact h1.2.2.2.1 [] hg
  unfold Builtin.Bytes.exported
  show Q (((Γ.code, p) :: Γ.below).any _) s
  refine (congrArg (fun b => Q b s) (any_none fun c hc => ?_)).mpr h
  have hgd := guardless hst hc
  have hcd : isCodec c.1 = false := by
    rcases List.mem_cons.mp hc with rfl | hc
    · exact h2
    · exact h3 c hc
  clear hc hst h1 h2 h3
  rcases c with ⟨c, q⟩
  cases c with
  | builtin id args =>
    have n1 := not_guard hgd (x := "bytearray.__contains__") (by decide)
    have n2 := not_guard hgd (x := "bytearray.__mod__") (by decide)
    have n3 := not_guard hgd (x := "bytearray.__rmod__") (by decide)
    have n4 := not_guard hgd (x := "_struct.pack_into.held") (by decide)
    have n5 := not_guard hgd (x := "bytearray.find.held") (by decide)
    replace hcd : Builtin.Bytes.decodersThatHold.contains id = false := hcd
    rcases args with ⟨pos, kw⟩
    delta Builtin.Bytes.exported.match_1
    dsimp only
    simp only [dif_neg n1, dif_neg n2, dif_neg n3, dif_neg n4, dif_neg n5]
    cases pos with
    | nil => rfl
    | cons v vs => exact (congrArg _ hcd).trans (Bool.and_false _)
  | _ => rfl
end
end Mine

/- B1 -/
namespace Mine
open PySem.Builtin
theorem no_int_bytes : typeLookup (.type "int") "__bytes__" = pure none := by rw [typeLookup_type, builtinLookup_eq_fast]; kernel_rfl
theorem look_int_index : typeLookup (.type "int") "__index__" = pure (some (.builtin "int.__index__")) := by rw [typeLookup_type, builtinLookup_eq_fast]; kernel_rfl
theorem if_no {α : Type} {M : Model} {A : Around} {E : Value → Shared → Prop} {s : Shared} {c : Prop} [Decidable c] {a b : Sem α} {Q : α → Shared → Prop} (hc : ¬ c) (h : wpAny M A b Q E s) : wpAny M A (if c then a else b) Q E s := by rw [if_neg hc]; exact h
theorem if_yes {α : Type} {M : Model} {A : Around} {E : Value → Shared → Prop} {s : Shared} {c : Prop} [Decidable c] {a b : Sem α} {Q : α → Shared → Prop} (hc : c) (h : wpAny M A a Q E s) : wpAny M A (if c then a else b) Q E s := by rw [if_pos hc]; exact h
section
variable {prog : Program} {w : World} {A : Around} {E : Value → Shared → Prop} {s : Shared}
/-- bytes(n): n zeros -/
theorem new_bytes_int {n : Int} {u : Tok} {Q : Value → Shared → Prop} (h0 : 0 ≤ n) (h1 : n ≤ 16777216) (hQ : ∀ t k, Q (.bytes (Array.replicate n.toNat 0) t) { s with toks := k }) :
    codeAny (model prog w) A (.call (.builtin "bytes.__new__") ⟨[.type "bytes", .int n u], []⟩) (wants Q E) s := by
  refine codeAny_of_tree ?_
  show wpAny _ A.in1 (do checkBuiltinCall "bytes.__new__" ⟨[.type "bytes", .int n u], []⟩; again (.builtin "bytes.__new__" ⟨[.type "bytes", .int n u], []⟩)) _ _ s
  refine wpAny_bind (wpAny_of_eq (F.bm_newCall _) (wpAny_pure ⟨plainId_quiet F.bm_plain _, codeAny_builtin F.bm_entry ?_⟩))
  rw [Around.under_plainId F.bm_plain _]
  have hT : s.TypeIs (.int n u) "int" := typeIs_int _ _ _
  unfold Builtin.«bytes.__new__»
  refine wpAny_bind (wpAny_of_eq (a := true) rfl ?_)
  refine bm_if_false rfl ?_
  refine wpAny_bind (wpAny_of_eq F.bm_sub ?_)
  refine bm_if_false rfl ?_
  refine wpAny_bind (wpAny_of_eq (F.bm_bind _) ?_)
  refine wpAny_bind (wpAny_of_eq (a := ()) rfl ?_)
  refine wpAny_bind (wpAny_of_eq (a := ()) rfl ?_)
  refine bm_if_false rfl ?_
  refine wpAny_bind (wpAny_specialOf hT no_int_bytes ?_)
  refine wpAny_bind (wpAny_of_eq (a := false) rfl ?_)
  refine bm_if_false rfl ?_
  refine wpAny_bind (wpAny_specialOf hT look_int_index ?_)
  refine bm_if_false rfl ?_
  refine wpAny_bind (wpAny_attempt (wpAny_of_eq (rfl : asIndex (.int n u) = pure n) ?_))
  refine bm_if_false (by simp only [Bytes.fitsIndex, Bool.not_eq_false', Bool.and_eq_true, decide_eq_true_eq]; omega) ?_
  refine if_no (by omega) ?_
  refine if_no (by omega) ?_
  refine bm_if_false (KBy.tooLong_not (by omega)) ?_
  refine wpAny_bind (wpAny_rule ?_)
  refine wpAny_bind (wpAny_mkBytes ?_ (by rw [sizeLine_eq, Array.size_replicate]; omega))
  first
    | exact wpAny_pure (hQ _ _)
    | exact wpAny_bind (wpAny_pure (wpAny_pure (hQ _ _)))
theorem call_bytes_int {n : Int} {u : Tok} {Q : Value → Shared → Prop} (h0 : 0 ≤ n) (h1 : n ≤ 16777216) (hQ : ∀ t k, Q (.bytes (Array.replicate n.toNat 0) t) { s with toks := k }) :
    wpAny (model prog w) A (call (.type "bytes") [.int n u]) Q E s := by
  refine callType_codes (Q₁ := fun obj s₁ => s₁.TypeIs obj "bytes" ∧ Q obj s₁) F.bm_called (F.bm_typeCall _) F.entry_object_init
    (new_bytes_int h0 h1 fun t k => ⟨PySem.W.typeIs_bytes _ _ _, hQ t k⟩) fun obj s₁ h₁ => ?_
  exact ⟨h₁.1, F.args_object_init_2 obj _, object_init_meets F.bm_called.init.lookup F.bm_called.made (by decide) prog w A.in1 _ s₁ ⟨h₁.1, rfl, h₁.2⟩⟩
end
end Mine

/- B2 -/
namespace Mine
open PySem.Builtin

/-- a bytearray of these octets, exported nowhere -/
abbrev baObj (b : Array UInt8) : Obj := { cls := .type "bytearray", data := .bytearray b }

theorem ba_plainAttrs : PlainAttrs "bytearray" :=
  ⟨⟨"bytearray.__getattribute__", by rw [typeLookup_type, builtinLookup_eq_fast]; kernel_rfl, by decide +kernel⟩, by rw [typeLookup_type, builtinLookup_eq_fast]; kernel_rfl⟩
theorem ba_owner : Manifest.owners.lookup (String.ofList ['y', 'a', 'r', 'r', 'a', 'e', 't', 'y', 'b'].reverse) = some Manifest.sig_bytearray := by kernel_rfl
theorem ba_slot_len : Slot "bytearray" "__len__" "bytearray.__len__" :=
  .of (owner := "bytearray") (n := "__len__") (by rw [typeLookup_type, builtinLookup_eq_fast]; kernel_rfl) (by decide +kernel) (by decide +kernel) (by decide +kernel)
    (by first | exact .inl (by decide +kernel) | exact .inr (by decide +kernel)) (by rw [isSubtype_type]; kernel_rfl)
theorem ba_slot_init : Slot "bytearray" "__init__" "bytearray.__init__" :=
  .of (owner := "bytearray") (n := "__init__") (by rw [typeLookup_type, builtinLookup_eq_fast]; kernel_rfl) (by decide +kernel) (by decide +kernel) (by decide +kernel)
    (by first | exact .inl (by decide +kernel) | exact .inr (by decide +kernel)) (by rw [isSubtype_type]; kernel_rfl)
theorem ba_slot_append : Slot "bytearray" "append" "bytearray.append" :=
  .of (owner := "bytearray") (n := "append") (by rw [typeLookup_type, builtinLookup_eq_fast]; kernel_rfl) (by decide +kernel) (by decide +kernel) (by decide +kernel)
    (by first | exact .inl (by decide +kernel) | exact .inr (by decide +kernel)) (by rw [isSubtype_type]; kernel_rfl)
theorem ba_slot_extend : Slot "bytearray" "extend" "bytearray.extend" :=
  .of (owner := "bytearray") (n := "extend") (by rw [typeLookup_type, builtinLookup_eq_fast]; kernel_rfl) (by decide +kernel) (by decide +kernel) (by decide +kernel)
    (by first | exact .inl (by decide +kernel) | exact .inr (by decide +kernel)) (by rw [isSubtype_type]; kernel_rfl)
theorem ba_type_append : typeOf (.builtin "bytearray.append") = pure (.type "method_descriptor") := by show builtinType _ = _; rw [builtinType_eq_fast]; kernel_rfl
theorem ba_type_extend : typeOf (.builtin "bytearray.extend") = pure (.type "method_descriptor") := by show builtinType _ = _; rw [builtinType_eq_fast]; kernel_rfl
theorem ba_entry_len : entryFor table "bytearray.__len__" = some Builtin.«bytearray.__len__» := by first | exact entryFor_of_tree (by kernel_rfl) | exact entryFor_of_fast (by kernel_rfl)
theorem ba_entry_init : entryFor table "bytearray.__init__" = some Builtin.«bytearray.__init__» := by first | exact entryFor_of_tree (by kernel_rfl) | exact entryFor_of_fast (by kernel_rfl)
theorem ba_entry_append : entryFor table "bytearray.append" = some Builtin.«bytearray.append» := by first | exact entryFor_of_tree (by kernel_rfl) | exact entryFor_of_fast (by kernel_rfl)
theorem ba_entry_extend : entryFor table "bytearray.extend" = some Builtin.«bytearray.extend» := by first | exact entryFor_of_tree (by kernel_rfl) | exact entryFor_of_fast (by kernel_rfl)
theorem ba_args_len (a : Value) : argsOk "bytearray.__len__" ⟨[a], []⟩ := by
  unfold argsOk; rw [signature?_of (id := "bytearray.__len__") (n := ['_', '_', 'n', 'e', 'l', '_', '_']) (o := ['y', 'a', 'r', 'r', 'a', 'e', 't', 'y', 'b']) (by kernel_rfl) ba_owner]; kernel_rfl
theorem ba_args_init (a : Value) : argsOk "bytearray.__init__" ⟨[a], []⟩ := by
  unfold argsOk; rw [signature?_of (id := "bytearray.__init__") (n := ['_', '_', 't', 'i', 'n', 'i', '_', '_']) (o := ['y', 'a', 'r', 'r', 'a', 'e', 't', 'y', 'b']) (by kernel_rfl) ba_owner]; kernel_rfl
theorem ba_args_append (a b : Value) : argsOk "bytearray.append" ⟨[a, b], []⟩ := by
  unfold argsOk; rw [signature?_of (id := "bytearray.append") (n := ['d', 'n', 'e', 'p', 'p', 'a']) (o := ['y', 'a', 'r', 'r', 'a', 'e', 't', 'y', 'b']) (by kernel_rfl) ba_owner]; kernel_rfl
theorem ba_args_extend (a b : Value) : argsOk "bytearray.extend" ⟨[a, b], []⟩ := by
  unfold argsOk; rw [signature?_of (id := "bytearray.extend") (n := ['d', 'n', 'e', 't', 'x', 'e']) (o := ['y', 'a', 'r', 'r', 'a', 'e', 't', 'y', 'b']) (by kernel_rfl) ba_owner]; kernel_rfl
theorem ba_mro : mroOf (.type "bytearray") = pure [.type "bytearray", .type "object"] := by rw [mroOf_type]; kernel_rfl
theorem ba_look_new : typeLookup (.type "bytearray") "__new__" = pure (some (.builtin "bytearray.__new__")) := by rw [typeLookup_type, builtinLookup_eq_fast]; kernel_rfl
theorem ba_called : TypeCalled "bytearray" "bytearray.__new__" "bytearray.__init__" :=
  ⟨by decide +kernel, by decide +kernel, ⟨_, _, ba_mro⟩, madeBy_type ba_mro ba_look_new (by decide +kernel), by decide +kernel, by rw [isSubtype_type]; kernel_rfl, ba_slot_init⟩
theorem ba_typeCall : checkTypeCall "bytearray" ⟨[], []⟩ = pure () := by kernel_rfl
theorem ba_newCall : checkBuiltinCall "bytearray.__new__" ⟨[.type "bytearray"], []⟩ = pure () := by kernel_rfl
theorem ba_plain_new : plainId "bytearray.__new__" = true := by decide +kernel
theorem ba_entry_new : entryFor table "bytearray.__new__" = some Builtin.«list.__new__» :=
  entryFor_alias (id' := "list.__new__") (by kernel_rfl) rfl (by decide +kernel) (by kernel_rfl)
theorem ba_sub_self : isSubtype (.type "bytearray") (.type "bytearray") = pure true := by rw [isSubtype_type]; kernel_rfl
theorem ba_look_buffer : typeLookup (.type "bytearray") "__buffer__" = pure (some (.builtin "bytearray.__buffer__")) := by rw [typeLookup_type, builtinLookup_eq_fast]; kernel_rfl
theorem ba_look_release : typeLookup (.type "bytearray") "__release_buffer__" = pure (some (.builtin "bytearray.__release_buffer__")) := by rw [typeLookup_type, builtinLookup_eq_fast]; kernel_rfl
theorem ba_no_bytes : typeLookup (.type "bytearray") "__bytes__" = pure none := by rw [typeLookup_type, builtinLookup_eq_fast]; kernel_rfl
theorem ba_no_index : typeLookup (.type "bytearray") "__index__" = pure none := by rw [typeLookup_type, builtinLookup_eq_fast]; kernel_rfl
end Mine

/- B3 -/
namespace Mine
open PySem.Builtin
theorem ba_typeIs {s : Shared} {a : Addr} {b : Array UInt8} (h : s.heap.get? a = some (baObj b)) : s.TypeIs (.ref a) "bytearray" := ⟨_, h, rfl⟩
section
variable {prog : Program} {w : World} {A : Around} {E : Value → Shared → Prop} {s : Shared} {a : Addr} {b : Array UInt8}
theorem ba_payload {M : Model} {Q : Array UInt8 → Shared → Prop} (h : s.heap.get? a = some (baObj b)) (hQ : Q b s) : wpAny M A (Bytes.payload (.ref a)) Q E s := by
  unfold Bytes.payload Bytes.payload?
  exact wpAny_bind (wpAny_bind (wpAny_load h (wpAny_pure (wpAny_pure hQ))))

/-- len of a bytearray -/
theorem ba_len {Q : Value → Shared → Prop} (h : s.heap.get? a = some (baObj b)) (hz : b.size ≤ 16777216) (hQ : ∀ t k, Q (.int b.size t) { s with toks := k }) : wpAny (model prog w) A (call (.builtin "len") [.ref a]) Q E s := by
  refine PyProof.Rows.call_len_slot (ba_typeIs h) ba_slot_len (n := (b.size : Int)) (fun Q' hq => ?_) (by omega) (by omega) (hQ _ _)
  refine wpAny_call_entry ba_slot_len (ba_typeIs h) ba_entry_len ?_ (ba_args_len _)
  show wpAny _ _ (Bytes.payload (.ref a) >>= fun r => retInt r.size) _ _ s
  exact wpAny_bind (ba_payload h (wpAny_bind (wpAny_mkInt (wpAny_pure ⟨_, rfl, hq⟩))))

theorem ba_slotIsOwn {M : Model} {Q : Bool → Shared → Prop} {id n : String} (h : s.heap.get? a = some (baObj b)) (hl : typeLookup (.type "bytearray") (n : Str) = pure (some (.builtin id)))
    (he : (!id.endsWith ("." ++ n)) = false) (ho : id.dropRight (n.length + 1) = "bytearray") (hQ : Q true s) : wpAny M A (Bytes.slotIsOwn (.ref a) n) Q E s := by
  unfold Bytes.slotIsOwn
  refine wpAny_bind (wpAny_specialOf (ba_typeIs h) hl ?_)
  refine bm_if_false he ?_
  rw [ho]
  exact wpAny_isInstance (ba_typeIs h) ba_sub_self hQ
theorem ba_ownRelease {M : Model} {Q : Bool → Shared → Prop} (h : s.heap.get? a = some (baObj b)) (hQ : Q false s) : wpAny M A (Bytes.ownRelease (.ref a)) Q E s := by
  unfold Bytes.ownRelease
  exact wpAny_bind (ba_slotIsOwn h ba_look_release (by decide +kernel) (by decide +kernel) (wpAny_pure hQ))
theorem ba_buffer {M : Model} {Q : Option (Array UInt8) → Shared → Prop} {id : String} {full : Bool} (h : s.heap.get? a = some (baObj b)) (hQ : Q (some b) s) : wpAny M A (Bytes.buffer? id (.ref a) full) Q E s := by
  unfold Bytes.buffer?
  refine wpAny_bind (wpAny_specialOf (ba_typeIs h) ba_look_buffer ?_)
  (try dsimp only)
  refine wpAny_bind (ba_slotIsOwn h ba_look_buffer (by decide +kernel) (by decide +kernel) ?_)
  refine bm_if_false rfl ?_
  refine wpAny_bind (wpAny_specialOf (ba_typeIs h) ba_look_buffer ?_)
  (try dsimp only)
  refine wpAny_bind (ba_ownRelease h ?_)
  refine bm_if_false rfl ?_
  exact wpAny_bind (ba_payload h (wpAny_pure hQ))

theorem new_bytes_ba {Q : Value → Shared → Prop} (h : s.heap.get? a = some (baObj b)) (hz : b.size ≤ 16777216) (hQ : ∀ t k, Q (.bytes b t) { s with toks := k }) :
    codeAny (model prog w) A (.call (.builtin "bytes.__new__") ⟨[.type "bytes", .ref a], []⟩) (wants Q E) s := by
  refine codeAny_of_tree ?_
  show wpAny _ A.in1 (do checkBuiltinCall "bytes.__new__" ⟨[.type "bytes", .ref a], []⟩; again (.builtin "bytes.__new__" ⟨[.type "bytes", .ref a], []⟩)) _ _ s
  refine wpAny_bind (wpAny_of_eq (F.bm_newCall _) (wpAny_pure ⟨plainId_quiet F.bm_plain _, codeAny_builtin F.bm_entry ?_⟩))
  rw [Around.under_plainId F.bm_plain _]
  have hT := ba_typeIs h
  unfold Builtin.«bytes.__new__»
  refine wpAny_bind (wpAny_of_eq (a := true) rfl ?_)
  refine bm_if_false rfl ?_
  refine wpAny_bind (wpAny_of_eq F.bm_sub ?_)
  refine bm_if_false rfl ?_
  refine wpAny_bind (wpAny_of_eq (F.bm_bind _) ?_)
  refine wpAny_bind (wpAny_of_eq (a := ()) rfl ?_)
  refine wpAny_bind (wpAny_of_eq (a := ()) rfl ?_)
  refine bm_if_false rfl ?_
  refine wpAny_bind (wpAny_specialOf hT ba_no_bytes ?_)
  refine wpAny_bind (wpAny_bind ?_)
  show wpAny _ _ (load a >>= _) _ _ _
  refine wpAny_bind (wpAny_load h ?_)
  refine wpAny_pure (wpAny_pure ?_)
  refine bm_if_false rfl ?_
  refine wpAny_bind (wpAny_specialOf hT ba_no_index ?_)
  refine bm_if_true rfl ?_
  first
    | show wpAny _ _ (Builtin.Bytes.buffer? "bytes.__new__" (.ref a) true >>= _) _ _ _
    | (refine wpAny_bind ?_; show wpAny _ _ (Builtin.Bytes.buffer? "bytes.__new__" (.ref a) true >>= _) _ _ _)
  refine wpAny_bind (ba_buffer h ?_)
  refine wpAny_bind (wpAny_rule ?_)
  refine wpAny_bind (wpAny_mkBytes ?_ (by rw [sizeLine_eq]; exact hz))
  show wpAny _ _ (if (Value.type "bytes" == Value.type "bytes") = true then _ else _) _ _ _
  refine bm_if_true (by decide) ?_
  first
    | exact wpAny_pure (hQ _ _)
    | exact wpAny_pure (wpAny_pure (hQ _ _))
    | exact wpAny_bind (wpAny_pure (wpAny_pure (hQ _ _)))
/-- bytes of a bytearray -/
theorem call_bytes_ba {Q : Value → Shared → Prop} (h : s.heap.get? a = some (baObj b)) (hz : b.size ≤ 16777216) (hQ : ∀ t k, Q (.bytes b t) { s with toks := k }) :
    wpAny (model prog w) A (call (.type "bytes") [.ref a]) Q E s := by
  refine callType_codes (Q₁ := fun obj s₁ => s₁.TypeIs obj "bytes" ∧ Q obj s₁) F.bm_called (F.bm_typeCall _) F.entry_object_init
    (new_bytes_ba h hz fun t k => ⟨PySem.W.typeIs_bytes _ _ _, hQ t k⟩) fun obj s₁ h₁ => ?_
  exact ⟨h₁.1, F.args_object_init_2 obj _, object_init_meets F.bm_called.init.lookup F.bm_called.made (by decide) prog w A.in1 _ s₁ ⟨h₁.1, rfl, h₁.2⟩⟩
end
end Mine

/- B4 -/
namespace Mine
open PySem.Builtin
section
variable {prog : Program} {w : World} {A : Around} {E : Value → Shared → Prop} {s : Shared} {a : Addr} {b : Array UInt8}

theorem codeS_call_builtin {R : Result → Shared → Prop} {id : String} {args : Args} {B : Builtin} (hn : isCodec (.builtin id args) = false) (hq : plainId id = true) (hb : entryFor table id = some B)
    (h : wpAny (model prog w) A.in1 (checkBuiltinCall id args) (fun _ s₁ => wpS (model prog w) A.in1 (B args)
      (fun fin s' => match fin with | .done f => R (.ok f) s' | .again c' => c'.quiet = true ∧ codeS (model prog w) A c' R s') (fun e s' => R (.error e) s') s₁)
      (fun e s' => R (.error e) s') s) : codeS (model prog w) A (.call (.builtin id) args) R s := by
  refine codeS_of_tree rfl ?_
  show wpS _ A.in1 (do checkBuiltinCall id args; again (.builtin id args)) _ _ s
  refine wpS_seq (wpAny_mono h (fun _ s₁ h₁ => wpS_pure (And.intro (plainId_quiet hq args) (codeS_of_tree hn ?_))) fun _ _ h' => h')
  rw [Around.under_plainId hq args]
  show wpS _ _ (match entryFor table id with | some b => b args | none => unsupported ((withoutEnding? id "#data").getD id)) _ _ s₁
  rw [hb]; exact h₁
theorem wpS_call_entry {T : String} {name : Str} {id : String} {B : Builtin} {self : Value} {rest : List Value} {Q : Value → Shared → Prop} (h : Slot T name id) (hT : s.TypeIs self T)
    (hb : entryFor table id = some B) (hn : ∀ args, isCodec (.builtin id args) = false)
    (hc : wpS (model prog w) A.in1 (B ⟨self :: rest, []⟩) (fun fin s' => ∃ v, fin = .done (.ret v) ∧ Q v s') E s)
    (ha : argsOk id ⟨self :: rest, []⟩) : wpS (model prog w) A (call (.builtin id) (self :: rest)) Q E s := by
  refine wpS_call (codeS_call_builtin (hn _) h.plain hb (h.check _ _ _ _ _ _ _ _ hT ha (wpS_mono hc (fun fin s' h' => ?_) fun _ _ h' => h')))
  obtain ⟨v, rfl, hv⟩ := h'; exact hv

theorem ba_checkResize {M : Model} {Q : Unit → Shared → Prop} (hg : A.guards = some []) (h : s.heap.get? a = some (baObj b)) (hQ : Q () s) : wpS M A (Bytes.checkResize (.ref a)) Q E s := by
  unfold Bytes.checkResize
  refine wpS_bind ?_
  show wpS M A (Bytes.exported (.ref a) >>= _) _ _ s
  refine wpS_bind (wpS_exported hg ?_)
  show wpS M A (Bytes.exportsOf (.ref a) >>= _) _ _ s
  unfold Bytes.exportsOf
  refine wpS_of_any (wpAny_bind (wpAny_bind (wpAny_load h (wpAny_pure (wpAny_pure ?_)))))
  exact wpS_of_any (wpAny_pure hQ)
theorem ba_write {M : Model} {Q : Unit → Shared → Prop} {f : Array UInt8 → Array UInt8} (h : s.heap.get? a = some (baObj b)) (hz : (f b).size ≤ 16777216)
    (hQ : Q () { s with heap := s.heap.update a (Obj.mapBytearray f) }) : wpAny M A (Bytes.write (.ref a) f) Q E s := by
  show wpAny M A (updateBytearray a f) Q E s
  unfold updateBytearray
  refine wpAny_bind (wpAny_load h ?_)
  show wpAny _ _ (update a (Obj.mapBytearray f) >>= fun _ => lookBehind a) _ _ _
  refine wpAny_bind (wpAny_update h ?_)
  have h2 : (s.heap.update a (Obj.mapBytearray f)).get? a = some (baObj (f b)) := Heap.get?_update_self (Obj.mapBytearray f) h rfl
  refine wpAny_lookBehind h2 ?_ hQ
  show (if (f b).size > sizeLine then some "bytearray:memory" else none) = none
  rw [if_neg]
  rw [sizeLine_eq]
  omega

theorem ba_append {n : Int} {u : Tok} {Q : Value → Shared → Prop} (hg : A.guards = some []) (h : s.heap.get? a = some (baObj b)) (h0 : 0 ≤ n) (h1 : n < 256) (hz : b.size < 16777216)
    (hQ : Q .none { s with heap := s.heap.update a (Obj.mapBytearray (·.push n.toNat.toUInt8)) }) : wpS (model prog w) A (call (.builtin "bytearray.append") [.ref a, .int n u]) Q E s := by
  refine wpS_call_entry ba_slot_append (ba_typeIs h) ba_entry_append (fun _ => (by decide +kernel : Bytes.decodersThatHold.contains "bytearray.append" = false)) ?_ (ba_args_append _ _)
  show wpS _ _ (Bytes.byteValue (.int n u) >>= fun c => _) _ _ s
  unfold Bytes.byteValue
  refine wpS_seq (wpAny_bind (wpAny_of_eq (rfl : asIndex (.int n u) = pure n) ?_))
  refine bm_if_false (by simp only [Bool.or_eq_false_iff, decide_eq_false_iff_not]; omega) ?_
  refine wpAny_pure ?_
  refine wpS_bind (ba_checkResize (A := A.in1) hg h ?_)
  refine wpS_seq (ba_write h (by rw [Array.size_push]; omega) ?_)
  exact wpS_pure ⟨_, rfl, hQ⟩

theorem takeQuiet_bytes {M : Model} {id : String} {c : Array UInt8} {u : Tok} {Q : Option (Array UInt8 × Option Value) → Shared → Prop} (hQ : Q (some (c, none)) s) : wpAny M A (Bytes.takeBufferQuiet? id (.bytes c u) 0) Q E s := by
  unfold Bytes.takeBufferQuiet?
  refine wpAny_bind (wpAny_attempt ?_)
  unfold Bytes.takeBuffer?
  refine wpAny_bind (wpAny_specialOf (typeIs_bytes s c u) KBy.look_buffer ?_)
  dsimp only
  refine wpAny_bind (wpAny_of_eq KBy.own_buffer ?_)
  refine bm_if_false rfl ?_
  refine wpAny_bind (wpAny_specialOf (typeIs_bytes s c u) KBy.look_buffer ?_)
  (try dsimp only)
  refine wpAny_bind (wpAny_of_eq (show Bytes.buffer? id (.bytes c u) (0 == Bytes.fullReadOnly) = pure (some c) from KBy.buffer_eq) ?_)
  exact wpAny_pure (wpAny_pure hQ)

theorem ba_extend {c : Array UInt8} {u : Tok} {Q : Value → Shared → Prop} (hg : A.guards = some []) (h : s.heap.get? a = some (baObj b)) (hz : b.size + c.size ≤ 16777216)
    (hQ : Q .none { s with heap := s.heap.update a (Obj.mapBytearray (· ++ c)) }) : wpS (model prog w) A (call (.builtin "bytearray.extend") [.ref a, .bytes c u]) Q E s := by
  refine wpS_call_entry ba_slot_extend (ba_typeIs h) ba_entry_extend (fun _ => (by decide +kernel : Bytes.decodersThatHold.contains "bytearray.extend" = false)) ?_ (ba_args_extend _ _)
  show wpS _ _ (specialOf (.bytes c u) "__buffer__" >>= fun r => _) _ _ s
  refine wpS_seq (wpAny_specialOf (typeIs_bytes s c u) KBy.look_buffer ?_)
  show wpS _ _ (rule _ >>= fun _ => _) _ _ _
  refine wpS_seq (wpAny_rule ?_)
  refine wpS_seq (ba_payload h ?_)
  dsimp only
  refine wpS_seq (takeQuiet_bytes ?_)
  dsimp only
  refine wpS_of_eq (if_pos rfl) ?_
  show wpS _ _ (if (!c.isEmpty) = true then _ else _) _ _ _
  by_cases hc : (!c.isEmpty) = true
  · refine wpS_of_eq (if_pos hc) ?_
    refine wpS_bind (ba_checkResize (A := A.in1) hg h ?_)
    refine wpS_seq (ba_write h (by rw [Array.size_append]; omega) ?_)
    exact wpS_pure ⟨_, rfl, hQ⟩
  · refine wpS_of_eq (if_neg hc) ?_
    refine wpS_seq (ba_write h (by rw [Array.size_append]; omega) ?_)
    exact wpS_pure ⟨_, rfl, hQ⟩
end
end Mine

/- B5 -/
namespace Mine
open PySem.Builtin
section
variable {prog : Program} {w : World} {A : Around} {E : Value → Shared → Prop} {s : Shared} {a : Addr} {b : Array UInt8}
theorem ifS_false {α : Type} {M : Model} {c : Bool} {x y : Sem α} {Q : α → Shared → Prop} (hc : c = false) (h : wpS M A y Q E s) : wpS M A (if c = true then x else y) Q E s := by
  subst hc
  exact h
theorem ifS_true {α : Type} {M : Model} {c : Bool} {x y : Sem α} {Q : α → Shared → Prop} (hc : c = true) (h : wpS M A x Q E s) : wpS M A (if c = true then x else y) Q E s := by
  subst hc
  exact h
theorem codeS_builtin {R : Result → Shared → Prop} {id : String} {args : Args} {B : Builtin} (hn : isCodec (.builtin id args) = false) (hb : entryFor table id = some B)
    (h : wpS (model prog w) (A.under (.builtin id args)) (B args)
      (fun fin s' => match fin with | .done f => R (.ok f) s' | .again c' => c'.quiet = true ∧ codeS (model prog w) A c' R s') (fun e s' => R (.error e) s') s) :
    codeS (model prog w) A (.builtin id args) R s := by
  refine codeS_of_tree hn ?_
  show wpS _ _ (match entryFor table id with | some b => b args | none => unsupported ((withoutEnding? id "#data").getD id)) _ _ s
  rw [hb]; exact h
theorem ba_code_new {Q : Value → Shared → Prop} (hQ : Q (.ref s.heap.objs.size) { s with heap := s.heap.push (baObj #[]) }) :
    wpAny (model prog w) A (call (.builtin "bytearray.__new__") [.type "bytearray"]) Q E s := by
  refine wpAny_call (codeAny_of_tree ?_)
  show wpAny _ A.in1 (do checkBuiltinCall "bytearray.__new__" ⟨[.type "bytearray"], []⟩; again (.builtin "bytearray.__new__" ⟨[.type "bytearray"], []⟩)) _ _ s
  refine wpAny_bind (wpAny_of_eq ba_newCall (wpAny_pure ⟨plainId_quiet ba_plain_new _, codeAny_builtin_stack ba_entry_new rfl fun p st => ?_⟩))
  rw [Around.under_plainId ba_plain_new _]
  have hsub := ba_sub_self
  have hown : ("bytearray.__new__".splitOn ".__new__").headD "" = "bytearray" := by rw [split_bytearray]; rfl
  obtain ⟨hp, g, d, tk, os⟩ := s
  simp only [hown]
  wp_walk
  exact hQ

theorem ba_init {Q : Value → Shared → Prop} (hg : A.guards = some []) (h : s.heap.get? a = some (baObj b)) (hQ : Q .none { s with heap := s.heap.update a (Obj.mapBytearray fun _ => #[]) }) :
    wpS (model prog w) A (call (.builtin "bytearray.__init__") [.ref a]) Q E s := by
  refine wpS_call_entry ba_slot_init (ba_typeIs h) ba_entry_init (fun _ => (by decide +kernel : Bytes.decodersThatHold.contains "bytearray.__init__" = false)) ?_ (ba_args_init _)
  unfold Builtin.«bytearray.__init__»
  refine wpS_seq (ba_ownRelease h ?_)
  refine wpS_of_eq (if_neg Bool.false_ne_true) ?_
  refine wpS_seq (wpAny_of_eq (a := [none, none, none]) (by kernel_rfl) ?_)
  (try dsimp only)
  refine wpS_seq (wpAny_of_eq (a := ()) rfl ?_)
  refine wpS_seq (wpAny_of_eq (a := ()) rfl ?_)
  refine wpS_bind ?_
  show wpS _ A.in1 (Bytes.exported (.ref a) >>= _) _ _ s
  refine wpS_bind (wpS_exported hg ?_)
  show wpS _ A.in1 (Bytes.exportsOf (.ref a) >>= _) _ _ s
  unfold Bytes.exportsOf
  refine wpS_of_any (wpAny_bind (wpAny_bind (wpAny_load h (wpAny_pure (wpAny_pure ?_)))))
  refine wpS_of_eq (if_neg (by simp)) ?_
  refine wpS_seq (ba_write h (Nat.zero_le _) ?_)
  exact wpS_pure ⟨_, rfl, hQ⟩

theorem callSpecialS_slot {M : Model} {self : Value} {T : String} {name : Str} {id : String} {args : List Value} {kw : List (Str × Value)}
    {Q : Option Value → Shared → Prop} (hT : s.TypeIs self T) (h : Slot T name id)
    (hc : wpS M A (call (.builtin id) (self :: args) kw) (fun v => Q (some v)) E s) : wpS M A (callSpecial? self name args kw) Q E s := by
  simp only [callSpecial?]
  refine wpS_seq (wpAny_specialOf hT h.lookup ?_)
  simp only [h.bind]
  exact wpS_holding (wpS_bind (wpS_pure (wpS_bind (wpS_mono hc (fun v s' h' => wpS_pure h') fun _ _ h' => h'))))
/-- bytearray() -/
theorem call_ba_new {Q : Value → Shared → Prop} (hg : A.guards = some [])
    (hQ : ∀ h', (∀ x o, s.heap.get? x = some o → h'.get? x = some o) → h'.get? s.heap.objs.size = some (baObj #[]) → Q (.ref s.heap.objs.size) { s with heap := h' }) :
    wpS (model prog w) A (call (.type "bytearray") []) Q E s := by
  refine wpS_call (codeS_of_tree rfl ?_)
  show wpS _ _ (callAny (.type "bytearray") _) _ _ _
  refine wpS_pure ⟨Code.quiet_builtin _ (by decide +kernel), codeS_builtin (by decide +kernel) F.entry_type_call ?_⟩
  rw [Around.under_plain (weight_type_call_type "bytearray" [] []) rfl]
  unfold Builtin.«type.__call__»
  refine ifS_false ba_called.notType ?_
  dsimp only
  refine ifS_false ba_called.canCreate ?_
  refine wpS_seq (wpAny_of_eq ba_typeCall ?_)
  refine wpS_seq (wpAny_of_eq ba_mro ?_)
  refine ifS_false rfl ?_
  refine wpS_seq (wpAny_of_eq ba_called.made ?_)
  (try dsimp only)
  refine wpS_seq (wpAny_pure ?_)
  refine wpS_seq (wpAny_holding (ba_code_new ?_))
  have h1 : (s.heap.push (baObj #[])).get? s.heap.objs.size = some (baObj #[]) := Heap.get?_push_size _ rfl
  have hT : ({ s with heap := s.heap.push (baObj #[]) } : Shared).TypeIs (.ref s.heap.objs.size) "bytearray" := ⟨_, h1, rfl⟩
  refine wpS_seq (wpAny_isInstance hT ba_sub_self ?_)
  refine ifS_false rfl ?_
  refine wpS_bind (wpS_holding (callSpecialS_slot hT ba_slot_init (ba_init (A := A.in1) (b := #[]) hg h1 ?_)))
  dsimp only
  refine ifS_false rfl ?_
  refine wpS_pure ?_
  refine hQ _ (fun x o hx => ?_) ?_
  · exact (Heap.get?_update_ne _ _ _ _ (Nat.ne_of_lt (Heap.lt_size hx))).trans (Heap.get?_push_of_some _ hx)
  · exact Heap.get?_update_self (Obj.mapBytearray fun _ => #[]) h1 rfl
end
end Mine

/- B6 -/
namespace Mine
open PySem.Builtin
theorem bj_slot : Slot "bytes" "join" "bytes.join" :=
  .of (owner := "bytes") (n := "join") (by rw [typeLookup_type, builtinLookup_eq_fast]; kernel_rfl) (by decide +kernel) (by decide +kernel) (by decide +kernel)
    (by first | exact .inl (by decide +kernel) | exact .inr (by decide +kernel)) (by rw [isSubtype_type]; kernel_rfl)
theorem bj_type : typeOf (.builtin "bytes.join") = pure (.type "method_descriptor") := by show builtinType _ = _; rw [builtinType_eq_fast]; kernel_rfl
theorem bj_entry : entryFor table "bytes.join" = some Builtin.«bytes.join» := by first | exact entryFor_of_tree (by kernel_rfl) | exact entryFor_of_fast (by kernel_rfl)
theorem bj_args (a b : Value) : argsOk "bytes.join" ⟨[a, b], []⟩ := by
  unfold argsOk; rw [signature?_of (id := "bytes.join") (n := ['n', 'i', 'o', 'j']) (o := ['s', 'e', 't', 'y', 'b']) (by kernel_rfl) FB.owner_bytes]; kernel_rfl

/-- every item is a bytes of at most k octets -/
def BytesUpTo (k : Nat) (vs : List Value) : Prop := ∀ v ∈ vs, ∃ c t, v = .bytes c t ∧ c.size ≤ k

section
variable {prog : Program} {w : World} {A : Around} {E : Value → Shared → Prop} {s : Shared} {l : Addr}
theorem bj_method {pl : Sem Bool} {c : Array UInt8} {t : Tok} {M : Model} {Q : Value × List Value → Shared → Prop} (h : Q (.builtin "bytes.join", [.bytes c t]) s) : wpAny M A (getMethod (.bytes c t) "join" pl) Q E s :=
  getMethod_builtin (typeIs_bytes s c t) FB.plainAttrs_bytes bj_slot bj_type (fun _ e => nomatch e) h

theorem bj_count (k : Nat) : ∀ (l : List (Array UInt8)) (n : Nat), (∀ p ∈ l, p.size ≤ k) → l.foldl (fun acc x => acc + x.size) n ≤ n + k * l.length
  | [], n, _ => by simp
  | p :: r, n, h => by
    have h1 := h p (.head _)
    have h2 := bj_count k r (n + p.size) fun q hq => h q (.tail _ hq)
    rw [List.foldl_cons, List.length_cons, Nat.mul_succ]
    omega
theorem bj_size (k : Nat) : ∀ (l : List (Array UInt8 × Nat)) (out : Array UInt8), (∀ p ∈ l, p.1.size ≤ k) → (l.foldl (fun out (p, i) => (if i > 0 then out ++ #[] else out) ++ p) out).size ≤ out.size + k * l.length
  | [], out, _ => by simp
  | (p, i) :: r, out, h => by
    have h1 : p.size ≤ k := h (p, i) (.head _)
    rw [List.foldl_cons, List.length_cons, Nat.mul_succ]
    have h2 := bj_size k r ((if i > 0 then out ++ #[] else out) ++ p) fun q hq => h q (.tail _ hq)
    have h3 : ((if i > 0 then out ++ #[] else out) ++ p).size = out.size + p.size := by
      split <;> simp
    rw [h3] at h2
    exact Nat.le_trans h2 (by omega)
theorem bj_joined (k : Nat) (l : List (Array UInt8)) (h : ∀ p ∈ l, p.size ≤ k) : (Bytes.joined #[] l).size ≤ k * l.length := by
  unfold Bytes.joined
  have := bj_size k l.zipIdx #[] fun p hp => h p.1 (by
    have := List.mem_zipIdx hp
    rw [this.2.2]
    exact List.getElem_mem _)
  simpa using this
theorem bj_letGo {M : Model} {Q : Unit → Shared → Prop} (keep : List Value) : ∀ (l : List (Value × Option Value)), (∀ y ∈ l, ∃ c t, y = (.bytes c t, none)) → Q () s → wpAny M A (Bytes.joinLetGo l keep) Q E s
  | [], _, hQ => wpAny_pure hQ
  | y :: r, h, hQ => by
    obtain ⟨c, t, rfl⟩ := h y (.head _)
    unfold Bytes.joinLetGo
    exact wpAny_bind (wpAny_letGo (bj_letGo keep r (fun z hz => h z (.tail _ hz)) hQ))

theorem bytes_join {k : Nat} {xs : Array Value} {t : Tok} {Q : Value → Shared → Prop} (hl : s.heap.IsList l xs) (hb : BytesUpTo k xs.toList) (hk : k * xs.size ≤ 16777216)
    (hQ : ∀ c t' tk, c.size ≤ k * xs.size → Q (.bytes c t') { s with toks := tk }) : wpAny (model prog w) A (call (.builtin "bytes.join") [.bytes #[] t, .ref l]) Q E s := by
  refine wpAny_call_entry bj_slot (typeIs_bytes s #[] t) bj_entry ?_ (bj_args _ _)
  obtain ⟨o, ho, hc, n, hd⟩ := id hl
  unfold Builtin.«bytes.join» Bytes.joinM
  refine wpAny_bind (wpAny_pure ?_)
  dsimp only
  refine bm_if_true rfl ?_
  unfold Bytes.joinItems
  refine wpAny_bind (wpAny_bind (wpAny_typeOf hl.typeIs ?_))
  refine bm_if_true (by decide) ?_
  refine wpAny_pure ?_
  refine wpAny_bind (wpAny_seqItems ho hd ?_)
  dsimp only
  refine bm_if_true rfl ?_
  have hys : ∃ ys : Array Value, ys = xs := ⟨xs, rfl⟩
  obtain ⟨l0⟩ := xs
  rcases l0 with _ | ⟨x, _ | ⟨y, r⟩⟩
  case cons.nil =>
    obtain ⟨c, u, rfl, hcz⟩ := hb x (.head _)
    refine wpAny_bind (wpAny_typeOf (typeIs_bytes s c u) ?_)
    refine bm_if_true (by decide) ?_
    refine wpAny_bind (wpAny_rule (wpAny_pure ⟨_, rfl, hQ c u _ ?_⟩))
    simpa using hcz
  all_goals
    show wpAny _ _ (forIn _ _ _ >>= _) _ _ _
    obtain ⟨ys, hys⟩ := hys
    rw [← hys]
    rw [← hys] at hl hb hk hQ hd
    clear hys
    refine wpAny_bind ?_
    rw [Std.Legacy.Range.forIn_eq_forIn_range']
    refine wpAny_mono (wpAny_forIn_list (E := E) _
      (fun rest (st : Array (Array UInt8) × List (Value × Option Value)) s' => ∃ i, rest = List.range' i (ys.size - i) ∧ i ≤ ys.size ∧ st.1.size = i ∧ (∀ p ∈ st.1.toList, p.size ≤ k) ∧ (∀ y ∈ st.2, ∃ c t, y = (.bytes c t, none)) ∧ s' = s)
      (fun st s' => st.1.size = ys.size ∧ (∀ p ∈ st.1.toList, p.size ≤ k) ∧ (∀ y ∈ st.2, ∃ c t, y = (.bytes c t, none)) ∧ s' = s) ?_ ?_ _ _ ⟨0, ?_, Nat.zero_le _, rfl, (fun p hp => nomatch hp), (fun y hy => nomatch hy), rfl⟩) ?_ fun _ _ e => e
    · rintro i rest ⟨parts, taken⟩ s' ⟨j, hr, hj, hps, hp, ht, rfl⟩
      have hj2 : j < ys.size := by
        rcases Nat.lt_or_ge j ys.size with h | h
        · exact h
        · rw [Nat.sub_eq_zero_of_le h] at hr; cases hr
      obtain ⟨m, hm⟩ : ∃ m, ys.size - j = m + 1 := ⟨ys.size - j - 1, by omega⟩
      rw [hm, List.range'_succ] at hr
      obtain ⟨rfl, hr⟩ := List.cons.inj hr
      refine wpAny_bind (wpAny_seqItems ho hd ?_)
      have hany : (Bytes.Kind.bytes == Bytes.Kind.bytearray || taken.any fun x => x.fst.onHeap) = false := by
        rw [Bool.or_eq_false_iff]
        refine ⟨rfl, List.any_eq_false.mpr fun y hy => ?_⟩
        obtain ⟨c, u, rfl⟩ := ht y hy
        simp [Value.onHeap]
      refine bm_if_false hany ?_
      obtain ⟨c, u, hcu, hcz⟩ := hb (ys[i]'hj2) (by simp)
      have hget : ys.getD i Value.none = .bytes c u := by rw [← hcu]; simp [Array.getD, hj2]
      rw [hget]
      refine wpAny_bind (wpAny_holding (takeQuiet_bytes ?_))
      refine wpAny_bind (wpAny_seqItems ho hd ?_)
      refine bm_if_false (by simp) ?_
      refine wpAny_pure ⟨i + 1, ?_, hj2, ?_, ?_, ?_, rfl⟩
      · rw [hr]
        congr 1
        omega
      · show (parts.push c).size = i + 1
        rw [Array.size_push]
        exact congrArg (· + 1) hps
      · intro p hq
        have hq' : p ∈ parts ∨ p = c := by simpa using hq
        rcases hq' with h | h
        · exact hp p (by simpa using h)
        · rw [h]
          exact hcz
      · intro y hy
        rcases List.mem_append.mp hy with h | h
        · exact ht y h
        · exact ⟨c, u, List.mem_singleton.mp h⟩
    · rintro ⟨parts, taken⟩ s' ⟨i, hr, hi, hps, hp, ht, rfl⟩
      have : ys.size - i = 0 := by
        cases h : ys.size - i with
        | zero => rfl
        | succ m => rw [h, List.range'_succ] at hr; cases hr
      exact ⟨hps.trans (by omega), hp, ht, rfl⟩
    · simp
    · rintro ⟨parts, taken⟩ s' ⟨hps, hp, ht, rfl⟩
      simp only at hps hp ht
      refine wpAny_bind (wpAny_of_eq (a := (#[] : Array UInt8)) rfl ?_)
      have hz : Bytes.tooLong (parts.foldl (fun x1 x2 => x1 + x2.size) ((#[] : Array UInt8).size * (parts.size - 1))) = false := by
        refine KBy.tooLong_not ?_
        rw [← Array.foldl_toList]
        refine Nat.le_trans (bj_count k _ _ hp) ?_
        rw [Array.length_toList, hps]
        simpa using hk
      refine bm_if_false hz ?_
      have hj := bj_joined k parts.toList hp
      rw [Array.length_toList, hps] at hj
      refine wpAny_bind (wpAny_mkBytes ?_ (by rw [sizeLine_eq]; exact Nat.le_trans hj hk))
      refine wpAny_bind (wpAny_holding (wpAny_point ?_))
      refine wpAny_bind (bj_letGo _ _ ht ?_)
      exact wpAny_pure ⟨_, rfl, hQ _ _ _ hj⟩
end
end Mine

/- B7 -/
namespace Mine
section
variable {prog : Program} {w : World} {A : Around} {E : Value → Shared → Prop} {s : Shared}
theorem beq_bytes (x y : Array UInt8) : (x.toList == y.toList) = decide (x = y) := by
  rw [Bool.eq_iff_iff, beq_iff_eq, decide_eq_true_eq]
  exact Array.toList_inj
theorem eqBool_bytes {x y : Array UInt8} {t u : Tok} {Q : Bool → Shared → Prop} (h : Q (decide (x = y)) s) : wpAny (model prog w) A (eqBool (.bytes x t) (.bytes y u)) Q E s := by
  unfold eqBool
  show wpAny _ _ (if (Value.bytes x t == Value.bytes y u) = true then _ else _) Q E s
  by_cases hab : (Value.bytes x t == Value.bytes y u) = true
  · rw [if_pos hab]
    have e : x = y := by have := eq_of_beq hab; injection this
    subst e
    exact wpAny_bind (wpAny_rule (wpAny_pure (by simpa using h)))
  · rw [if_neg hab]
    exact wpAny_bind (eq_bytes (wpAny_truthy_bool (by rw [beq_bytes]; exact h)))
def isBytes (x : Array UInt8) : Value → Bool
  | .bytes c _ => decide (c = x)
  | _ => false
theorem tuple_contains_bytes {t : Addr} {items : Array Value} {x : Array UInt8} {u : Tok} {P : PySem.Fin → Shared → Prop} (ht : IsTup s.heap t items) (hi : ∀ v ∈ items.toList, ∃ c u, v = .bytes c u)
    (h : P (.done (.ret (.bool (items.toList.any (isBytes x))))) s) : wpAny (model prog w) A (Builtin.«tuple.__contains__» ⟨[.ref t, .bytes x u], []⟩) P E s := by
  show wpAny _ _ (Builtin.Tuple.tupleItemsOf (.ref t) >>= _) _ _ s
  refine wpAny_bind (tupleItemsOf_ ht ?_)
  refine wpAny_bind (forIn_array_ _ (fun rest b s' => b.1 = none ∧ s' = s ∧ (∀ v ∈ rest, ∃ c u, v = .bytes c u) ∧ P (.done (.ret (.bool (rest.any (isBytes x))))) s) _ ?_ ?_ items _ ⟨rfl, rfl, hi, h⟩)
  · rintro y rest b s' ⟨hb, rfl, hm, hP⟩
    obtain ⟨c, u', rfl⟩ := hm y (.head _)
    refine wpAny_bind (eqBool_bytes ?_)
    rw [List.any_cons] at hP
    have e : isBytes x (.bytes c u') = decide (c = x) := rfl
    rw [e] at hP
    cases hnx : decide (c = x) with
    | true =>
      rw [hnx] at hP
      exact wpAny_bind (wpAny_pure (wpAny_pure (wpAny_pure (by simpa using hP))))
    | false =>
      rw [hnx] at hP
      exact wpAny_pure ⟨rfl, rfl, fun v hv => hm v (.tail _ hv), by simpa using hP⟩
  · rintro ⟨b1, b2⟩ s' ⟨hb, rfl, hm, hP⟩
    simp only at hb
    subst hb
    exact wpAny_pure (by simpa using hP)
theorem in_tuple_bytes {t : Addr} {items : Array Value} {x : Array UInt8} {u : Tok} {Q : Value → Shared → Prop} (ht : IsTup s.heap t items) (hi : ∀ v ∈ items.toList, ∃ c u, v = .bytes c u)
    (h : Q (.bool (items.toList.any (isBytes x))) s) : wpAny (model prog w) A (compareOp .In (.bytes x u) (.ref t)) Q E s := by
  show wpAny _ _ (do return .bool (← contains (.ref t) (.bytes x u))) Q E s
  refine wpAny_bind ?_
  unfold contains
  refine wpAny_holding ?_
  refine wpAny_bind (wpAny_specialOf ht.typeIs slot_tuple_contains.lookup ?_)
  rw [if_neg (by decide)]
  exact wpAny_bind (wpAny_callSpecialUnlessNone?_slot (name := Str.ofString "__contains__") ht.typeIs slot_tuple_contains
    (wpAny_call_entry slot_tuple_contains ht.typeIs entry_tuple_contains (tuple_contains_bytes ht hi ⟨_, rfl, wpAny_truthy_bool (wpAny_pure h)⟩) (args_tuple_contains _ _)))
end
end Mine

/- Head -/
namespace Mine

/-- the walk that the head asks for, over the contexts without a codec built-in -/
abbrev WalkS (q : Program) (loose : List Str) (XP : (Str → Option Value) → Heap → Prop) (YP : World → Heap → Prop) (r : RowW) (d : DefRec) (kwd : List (Str × Expr)) : Prop :=
  ∀ (w : World) (s₀ s₁ : Shared) (mg mb : Str → Option Value), Ground q loose r.records XP w s₀ mg mb s₁.heap → YP w s₁.heap → ∀ (a : Addr) (o : Obj) (pm cd doc dV kV : Value), s₁.heap.get? a = some o →
    o.data = .func { docDef d.name d.params d.body d.scope pm cd doc with defaults := dV, kwdefaults := kV } → s₁.heap.CodeRec cd d.name → Dflts mg s₁.heap d.params kwd dV kV → mg d.name = some (.ref a) → s₁.gens = #[] →
    ∀ (args : List WData) (vals : List Value) (as : List Addr), r.claim.pre args = true → WData.layableAll args = true → ReadsAllW r.records (classAt s₀.heap) s₁.heap vals args as → WellAll w.params s₁.heap vals args → (∀ a ∈ as, (a == sysModules) = false) →
      GoodW r.claim (classAt s₀.heap) (ExcName.means s₀.heap) args s₁ (.ok (.ret (.bool true))) s₁ ∧
      wpS (model r.prog w) callerA (PySem.call (.ref a) vals) (fun v s' => GoodWG r.claim (classAt s₀.heap) (ExcName.means s₀.heap) args s₁ (.ok (.ret v)) s')
        (fun e s' => GoodWG r.claim (classAt s₀.heap) (ExcName.means s₀.heap) args s₁ (.error e) s') s₁

def stackCodec (l : List (Code × Pos)) : Bool := l.any fun c => isCodec c.1

/-- one step of the machine: a thread that looks at its stack -/
theorem sched_stack {prog : Program} {w : World} {s : Shared} {k : List (Code × Pos) → Sem Fin} {p : Pos} {n : Nat} {o : Outcome} {s' : Shared} (hz : s.asleep)
    (h : schedN (denote table) prog w n (.single s ⟨.stack k, .builtin "claim.caller" {}, p, []⟩) = .halted o s') : ∃ n', schedN (denote table) prog w n' (.single s ⟨k [(.builtin "claim.caller" {}, p)], .builtin "claim.caller" {}, p, []⟩) = .halted o s' := by
  cases n with
  | zero => cases h
  | succ n =>
    have hstep : step (denote table) prog w s ⟨.stack k, .builtin "claim.caller" {}, p, []⟩ = .go s ⟨k [(.builtin "claim.caller" {}, p)], .builtin "claim.caller" {}, p, []⟩ := by
      obtain ⟨heap, gens, drawn, toks, os⟩ := s
      rfl
    rcases sstep_single (den := denote table) prog w s ⟨.stack k, .builtin "claim.caller" {}, p, []⟩ (by rfl) hz with e | e
    · refine ⟨n, ?_⟩
      simp only [schedN, e, hstep, Step.lift] at h
      exact h
    · rw [hstep] at e; cases e

theorem stub_of {c : ClaimW} {stub stub' : List Value → Thread} {defs keeps : List Str} {writes : Bool}
    (hs : ∀ (w : World) (s : Shared) (vs : List Value) (n : Nat) (o : Outcome) (s' : Shared), s.asleep → schedN (denote table) c.prog w n (.single s (stub' vs)) = .halted o s' → ∃ n', schedN (denote table) c.prog w n' (.single s (stub vs)) = .halted o s')
    (h : c.HoldsOpenBy stub' defs keeps writes) : c.HoldsOpenBy stub defs keeps writes := by
  obtain ⟨h1, h2, h3⟩ := h
  refine ⟨h1, h2, fun w => ⟨(h3 w).1, fun s hr => ?_⟩⟩
  obtain ⟨s₀, f1, f2, s₁, T, f3, f4, f5, call⟩ := (h3 w).2 s hr
  refine ⟨s₀, f1, f2, s₁, T, f3, f4, f5, fun args a1 a2 ord a3 => ?_⟩
  obtain ⟨vs, s₂, hl, n, o, s', hrun, rest⟩ := call args a1 a2 ord a3
  have z : s.asleep := AfterImport.life hr
  have z₀ : s₀.asleep := Shared.asleep_of_life (fence_lifeW f1) z
  have z₁ : s₁.asleep := Shared.asleep_of_life T.2.1 z₀
  have z₂ : s₂.asleep := Shared.asleep_of_life (layAllW_rest _ _ _ hl).2.2.2 z₁
  obtain ⟨n', hn⟩ := hs w s₂ vs n o s' z₂ hrun
  exact ⟨vs, s₂, hl, n', o, s', hn, rest⟩

namespace PySem.W
theorem holds_open {r : OpenRow} {q : Program} {loose : List Str} {Xt : Shared → Bool} {XP : (Str → Option Value) → Heap → Prop} {α : Type} {Yf : Shared → α} {Ya : World → α} {YP : World → Heap → Prop} {d : DefRec} {kwd : List (Str × Expr)} {N : Nat}
    (left : LeftO r.prog q loose Xt Yf Ya N) (hY : ∀ w s, Yf s = Ya w → YP w s.heap) (hYk : ∀ w h h', YP w h → (∀ b o, h.get? b = some o → h'.get? b = some o) → YP w h')
    (hX : ∀ s, Xt s = true → XP (s.heap.nsMap mainGlobals) s.heap) (hXk : ∀ mg h h', XP mg h → (∀ b o, h.get? b = some o → h'.get? b = some o) → XP mg h')
    (hdef : defOf q r.name = some (d, kwd)) (hp : r.prog.theDef r.name = some (d.params, d.body, d.scope)) (hk : kwWritten? d.params.kwonlyargs d.params.kw_defaults = some kwd) (hRf : ∀ s, Xt s = true → RecFacts r.records s.heap) (hwr : (!r.writes || r.records.isEmpty) = true)
    (k1 : r.wellSaid = true) (ok : (chainsOk q && opensWell r.prog && (frees r.toRowW && r.within.isEmpty)) = true) (hb : r.prog.bare) (hw : r.toRowW.promised)
    (call : WalkS q loose XP YP r.toRowW d kwd) : r.Holds := by
  let run' : Value → List Value → Sem Value := fun f vs => stack >>= fun st => if stackCodec st = true then pure (.bool true) else _root_.PySem.call f vs
  let tree : List Value → Sem Fin := fun vs => do match ← nsGet mainNs r.name with
      | some f => do ret (← _root_.PySem.call f vs)
      | none => unsupported "claim.caller:no-such-global"
  let tree' : List Value → Sem Fin := fun vs => .stack fun st => if stackCodec st = true then ret (.bool true) else tree vs
  refine ⟨k1, hw, stub_of (stub' := fun vs => ⟨tree' vs, .builtin "claim.caller" {}, default, []⟩) (fun w s vs n o s' hz h => ?_)
    (open_anyG (r := r.toRowW) (run := run') (tree := tree') left hY hYk hX hXk hRf hwr ok hb hw ?_ (fun w s hg G n hn => ?_) fun w s₀ s₁ mg mb G Y args vs as hpre hlay L low => ?_)⟩
  · exact sched_stack hz h
  · intro vs w s mg f Q E hg hf h Γ p hΓ
    have h := h Γ p hΓ
    show Sem.wp _ Γ (if stackCodec ((Γ.code, p) :: Γ.below) = true then ret (.bool true) else tree vs) _ _ p s
    replace h : Sem.wp (model r.prog w) Γ (if stackCodec ((Γ.code, p) :: Γ.below) = true then pure (.bool true) else _root_.PySem.call f vs) (fun v _ s' => Q (.done (.ret v)) s') (fun e _ s' => E e s') p s := h
    by_cases hc : stackCodec ((Γ.code, p) :: Γ.below) = true
    · rw [if_pos hc] at h ⊢
      exact h
    · rw [if_neg hc] at h ⊢
      show Sem.wp _ Γ (nsGet mainGlobals r.name >>= _) _ _ p s
      rw [Sem.wp_bind', Sem.wp_nsGet _ Γ _ p s hg, hf]
      show Sem.wp _ Γ (_root_.PySem.call f vs >>= _) _ _ p s
      rw [Sem.wp_bind']
      exact h
  · obtain rfl : n = r.name := by split at hn <;> simp_all
    exact pinned_of_view hg G hdef hp hk
  · obtain ⟨a, o, pm, cd, doc, dV, kV, h1, h2, h3, h4, h5⟩ := G.fn hdef
    have W := call w s₀ s₁ mg mb G Y a o pm cd doc dV kV h2 h3 h4 h5 (defOf_name hdef ▸ h1) L.gens args vs as hpre hlay L.reads L.well (L.low low)
    refine ⟨.ref a, h1, fun Γ p hΓ => ?_⟩
    show Sem.wp (model r.prog w) Γ (if stackCodec ((Γ.code, p) :: Γ.below) = true then pure (.bool true) else _root_.PySem.call (.ref a) vs) _ _ p s₁
    by_cases hc : stackCodec ((Γ.code, p) :: Γ.below) = true
    · rw [if_pos hc]
      exact W.1.toG
    · rw [if_neg hc]
      have hn : ∀ c ∈ (Γ.code, p) :: Γ.below, isCodec c.1 = false := fun c hm => by
        cases hx : isCodec c.1 with
        | false => rfl
        | true => exact absurd (List.any_eq_true.mpr ⟨c, hm, hx⟩) hc
      exact W.2 Γ p hΓ (hn _ (.head _)) fun c hm => hn c (.tail _ hm)
end PySem.W
end Mine

/- Top -/
namespace Mine
set_option maxRecDepth 100000 in
set_option maxHeartbeats 8000000 in
open_top hd for PySem.Challenge.rw_np0172_01
end Mine

/- C0 -/
namespace Mine

noncomputable abbrev KK (w : World) : Frag := Mine.hd.heap_39 w.params
noncomputable abbrev PP : _root_.PySem.Program := PySem.Challenge.rw_np0172_01.row.prog

/-- a call of the def at f with these arguments comes back with a value of which R holds; nothing else is kept of what it made -/
noncomputable def Returns (w : World) (f : Addr) (args : List Value) (R : Value → Prop) : Prop :=
  ∀ (dp un : Nat) (gd : Option (List Code)) (cn : Str) (cs : Scope) (a : Addr) (ccd : Value) (cl : List (Str × Addr)) (outer : List Env) (A₀ : Around) (base h₀ : Heap) (L : Addr) (m : Str → Option Value)
    (p : _root_.PySem.Program) (loose : List Str) (mean : ExcName → Option Value) (mg mb : Str → Option Value) (news : List (Addr × Obj)) (s : Shared) (Q E : Value → Shared → Prop),
    Below A₀ base outer h₀ → Fr h₀ L s.heap m → (KK w).In h₀ → News h₀ L s.heap news → Top p loose mean mg mb h₀ → cs.kind = .function →
    dp + 5 < recursionLimit → un + 50 < cLine →
    (∀ v h' tk', R v → Fr h₀ L h' m → News h₀ L h' news → Q v { s with heap := h', toks := tk' }) →
    wpAny (model PP w) (ktrTop dp un gd cn cs L a ccd cl outer) (call (.ref f) args) Q E s

def StopsAt (c : Int → Bool) (i k : Int) : Prop := i ≤ k ∧ (∀ j, i ≤ j → j < k → c j = true) ∧ c k = false

/-- a place goes on a run of zeros that begins at i -/
def zc (ks : List Int) (i j : Int) : Bool := decide (j < i + 192) && decide (j < (ks.length : Int)) && (ks.getD j.toNat 0 == 0)
/-- a place goes on the octets that begin at i and are told as they stand -/
def lc (ks : List Int) (i j : Int) : Bool := decide (j < i + 64) && decide (j < (ks.length : Int)) && (ks.getD j.toNat 0 != 0 || (decide (j + 1 < (ks.length : Int)) && ks.getD (j + 1).toNat 0 != 0))

/-- a mark at which the walk stops -/
def Stop (P : Prop) : Prop := P
theorem stop_here {P : Prop} (h : Stop P) : P := h
theorem Stop.go {P : Prop} (h : P) : Stop P := h

theorem fr_eq {h₀ h : Heap} {L : Addr} {m m' : Str → Option Value} (F : Fr h₀ L h m) (e : m = m') : Fr h₀ L h m' := e ▸ F
theorem upd_upd (x : Str) (a b : Option Value) (m : Str → Option Value) : (fun y => if y = x then a else if y = x then b else m y) = fun y => if y = x then a else m y := by
  funext y
  by_cases h : y = x <;> simp only [h, if_true, if_false]
theorem look1 (a : Str) (v : Value) : (fun x => List.lookup x [(a, v)]) = fun y => if y = a then some v else none := by
  funext y
  by_cases h : y = a
  · subst h; simp
  · simp [List.lookup_cons, beq_eq_false_iff_ne.mpr h, h]
theorem look2 (a b : Str) (v u : Value) : (fun x => List.lookup x [(b, u), (a, v)]) = fun y => if y = b then some u else if y = a then some v else none := by
  funext y
  by_cases h : y = b
  · subst h; simp
  · rw [if_neg h, List.lookup_cons, beq_eq_false_iff_ne.mpr h]
    exact congrFun (look1 a v) y
end Mine

/- C1 -/
namespace Mine

theorem lc_true {ks : List Int} {i k : Int} (h1 : k < i + 64) (h2 : k < (ks.length : Int)) (h3 : ks.getD k.toNat 0 ≠ 0 ∨ (k + 1 < (ks.length : Int) ∧ ks.getD (k + 1).toNat 0 ≠ 0)) : lc ks i k = true := by
  unfold lc
  simp only [Bool.and_eq_true, Bool.or_eq_true, decide_eq_true_eq, bne_iff_ne]
  exact ⟨⟨h1, h2⟩, h3⟩
theorem lc_false {ks : List Int} {i k : Int} (h : k < i + 64 → k < (ks.length : Int) → (ks.getD k.toNat 0 ≠ 0 ∨ (k + 1 < (ks.length : Int) ∧ ks.getD (k + 1).toNat 0 ≠ 0)) → False) : lc ks i k = false := by
  cases hx : lc ks i k with
  | false => rfl
  | true =>
    unfold lc at hx
    simp only [Bool.and_eq_true, Bool.or_eq_true, decide_eq_true_eq, bne_iff_ne] at hx
    exact (h hx.1.1 hx.1.2 hx.2).elim
theorem zc_true {ks : List Int} {i k : Int} (h1 : k < i + 192) (h2 : k < (ks.length : Int)) (h3 : ks.getD k.toNat 0 = 0) : zc ks i k = true := by
  unfold zc
  simp only [Bool.and_eq_true, decide_eq_true_eq, beq_iff_eq]
  exact ⟨⟨h1, h2⟩, h3⟩
theorem zc_false {ks : List Int} {i k : Int} (h : k < i + 192 → k < (ks.length : Int) → ks.getD k.toNat 0 = 0 → False) : zc ks i k = false := by
  cases hx : zc ks i k with
  | false => rfl
  | true =>
    unfold zc at hx
    simp only [Bool.and_eq_true, decide_eq_true_eq, beq_iff_eq] at hx
    exact (h hx.1.1 hx.1.2 hx.2).elim

set_option maxHeartbeats 4000000 in
theorem zeros_ret (w : World) {b : Array UInt8} {ks : List Int} {t u : Tok} {i : Int} (hk : KBw.bInts b = ks) (hz : ks.length ≤ 100000) (h0 : 0 ≤ i) (h1 : i < ks.length) :
    Returns w 53 [.bytes b t, .int i u] (fun v => ∃ k t', StopsAt (zc ks i) i k ∧ v = .int (k - i) t') := by
  unfold Returns KK PP
  k_fill
  intro dp un gd cn cs a ccd cl outer A₀ base h₀ L m p loose mean mg mb news s Q E B F X N T hK hd hu hret
  refine wpAny_call ?_
  k_dflt cell_enter
  rename_i g L' h' FG F' N' B' X' T'
  replace F' := fr_eq (show Fr g L' h' (fun x => List.lookup x [(Str.ofString "at", .int i u), (Str.ofString "octets", .bytes b t)]) from F') (look2 _ _ _ _)
  k_with_none
  k_with "exec While BoolOp cons nil" => refine stop_here ?_
  k_steps
  refine Stop.go ?_
  rename_i h2 F2 N2
  refine While_inv2 (fun n m nx => ∃ k t1 t2, i ≤ k ∧ n = ((if i + 192 < (ks.length : Int) then i + 192 else (ks.length : Int)) - k).toNat ∧ (∀ j, i ≤ j → j < k → zc ks i j = true) ∧ nx = news ∧
    m = fun y => if y = Str.ofString "behind" then some (.int k t1) else if y = Str.ofString "end" then some (.int (if i + 192 < (ks.length : Int) then i + 192 else (ks.length : Int)) t2) else if y = Str.ofString "at" then some (.int i u) else if y = Str.ofString "octets" then some (.bytes b t) else none) F2 N2 ⟨_, _, _, Int.le_refl _, rfl, fun j hj1 hj2 => absurd hj1 (by omega), rfl, rfl⟩ ?_
  clear F2 N2
  rintro n m₁ news₁ h₁ tk₁ F₁ N₁ ⟨k, t1, t2, hk1, hn, hpass, rfl, rfl⟩
  k_fold
  k_steps
  · rename_i F3 N3
    refine ⟨_, _, _, _, _, rfl, fr_eq F3 (upd_upd _ _ _ _), N3, ?_, k + 1, _, _, by omega, rfl, fun j hj1 hj2 => ?_, rfl, rfl⟩
    · omega
    · by_cases hj : j < k
      · exact hpass j hj1 hj
      · obtain rfl : j = k := by omega
        exact zc_true (by omega) (by omega) (by assumption)
  · refine hret _ _ _ ⟨k, _, ⟨hk1, hpass, zc_false fun x1 x2 x3 => ?_⟩, rfl⟩ (by assumption) (by assumption)
    contradiction
  · refine hret _ _ _ ⟨k, _, ⟨hk1, hpass, zc_false fun x1 x2 x3 => ?_⟩, rfl⟩ (by assumption) (by assumption)
    omega

set_option maxHeartbeats 4000000 in
theorem literals_ret (w : World) {b : Array UInt8} {ks : List Int} {t u : Tok} {i : Int} (hk : KBw.bInts b = ks) (hz : ks.length ≤ 100000) (h0 : 0 ≤ i) (h1 : i < ks.length) :
    Returns w 60 [.bytes b t, .int i u] (fun v => ∃ k t', StopsAt (lc ks i) (i + 1) k ∧ v = .int (k - i) t') := by
  unfold Returns KK PP
  k_fill
  intro dp un gd cn cs a ccd cl outer A₀ base h₀ L m p loose mean mg mb news s Q E B F X N T hK hd hu hret
  refine wpAny_call ?_
  k_dflt cell_enter
  rename_i g L' h' FG F' N' B' X' T'
  replace F' := fr_eq (show Fr g L' h' (fun x => List.lookup x [(Str.ofString "at", .int i u), (Str.ofString "octets", .bytes b t)]) from F') (look2 _ _ _ _)
  k_with_none
  k_with "exec While BoolOp cons nil" => refine stop_here ?_
  k_steps
  refine Stop.go ?_
  rename_i h2 F2 N2
  refine While_inv2 (fun n m nx => ∃ k t1 t2, i + 1 ≤ k ∧ n = ((if i + 64 < (ks.length : Int) then i + 64 else (ks.length : Int)) - k).toNat ∧ (∀ j, i + 1 ≤ j → j < k → lc ks i j = true) ∧ nx = news ∧
    m = fun y => if y = Str.ofString "behind" then some (.int k t1) else if y = Str.ofString "end" then some (.int (if i + 64 < (ks.length : Int) then i + 64 else (ks.length : Int)) t2) else if y = Str.ofString "at" then some (.int i u) else if y = Str.ofString "octets" then some (.bytes b t) else none) F2 N2 ⟨_, _, _, Int.le_refl _, rfl, fun j hj1 hj2 => absurd hj1 (by omega), rfl, rfl⟩ ?_
  clear F2 N2
  rintro n m₁ news₁ h₁ tk₁ F₁ N₁ ⟨k, t1, t2, hk1, hn, hpass, rfl, rfl⟩
  k_fold
  k_steps
  · rename_i F3 N3
    refine ⟨_, _, _, _, _, rfl, fr_eq F3 (upd_upd _ _ _ _), N3, ?_, k + 1, _, _, by omega, rfl, fun j hj1 hj2 => ?_, rfl, rfl⟩
    · omega
    · by_cases hj : j < k
      · exact hpass j hj1 hj
      · obtain rfl : j = k := by omega
        exact lc_true (by omega) (by omega) (.inl (by assumption))
  · rename_i F3 N3
    refine ⟨_, _, _, _, _, rfl, fr_eq F3 (upd_upd _ _ _ _), N3, ?_, k + 1, _, _, by omega, rfl, fun j hj1 hj2 => ?_, rfl, rfl⟩
    · omega
    · by_cases hj : j < k
      · exact hpass j hj1 hj
      · obtain rfl : j = k := by omega
        exact lc_true (by omega) (by omega) (.inr ⟨by omega, by assumption⟩)
  · refine hret _ _ _ ⟨k, _, ⟨hk1, hpass, lc_false fun x1 x2 x3 => ?_⟩, rfl⟩ (by assumption) (by assumption)
    rcases x3 with x3 | ⟨x3, x4⟩
    · contradiction
    · contradiction
  · refine hret _ _ _ ⟨k, _, ⟨hk1, hpass, lc_false fun x1 x2 x3 => ?_⟩, rfl⟩ (by assumption) (by assumption)
    rcases x3 with x3 | ⟨x3, x4⟩
    · contradiction
    · contradiction
  · refine hret _ _ _ ⟨k, _, ⟨hk1, hpass, lc_false fun x1 x2 x3 => ?_⟩, rfl⟩ (by assumption) (by assumption)
    omega
end Mine

/- P1 -/
namespace Mine
/-- at this place stands a zero that ends what is told as it stands -/
def endC (ks : List Int) (k : Int) : Bool := (ks.getD k.toNat 0 == 0) && (decide ((ks.length : Int) ≤ k + 1) || (ks.getD (k + 1).toNat 0 == 0))

theorem bInts_getD {b : Array UInt8} {ks : List Int} (hk : KBw.bInts b = ks) (j : Nat) : ks.getD j 0 = ((b.toList.getD j 0).toNat : Int) := by
  subst hk
  exact (KBw.getD_ints b.toList j).symm
theorem u8_zero {c : UInt8} : ((c.toNat : Int) = 0) ↔ c = 0 := by
  constructor
  · intro h
    have h' : c.toNat = 0 := by omega
    exact UInt8.toNat_inj.mp (by simpa using h')
  · rintro rfl; rfl
theorem clip_nat {n : Nat} {i : Int} (h0 : 0 ≤ i) : clipAt n i = min i.toNat n := by
  have e : i = (i.toNat : Int) := by omega
  rw [e]
  exact clipAt_nat n i.toNat
theorem picked_end {b : Array UInt8} {ks : List Int} {k : Int} {t1 t2 : Tok} (hk : KBw.bInts b = ks) (h0 : 0 ≤ k) (h1 : k < ks.length) (hz : ks.getD k.toNat 0 = 0) :
    [Value.bytes #[] t1, Value.bytes (Array.replicate (Int.toNat 1) 0) t2].any (isBytes (KBy.picked b (some (k + 1)) (some (k + 2)))) = endC ks k := by
  have hlen : ks.length = b.size := by rw [← hk, KBw.ints_length]
  rw [KBc.picked_eq]
  simp only [Option.elim]
  rw [clip_nat (by omega), clip_nat (by omega)]
  unfold endC
  rw [hz]
  simp only [beq_self_eq_true, Bool.true_and]
  by_cases h : (ks.length : Int) ≤ k + 1
  · have e1 : min (k + 1).toNat b.size = b.size := by omega
    rw [e1, List.drop_of_length_le (by simp)]
    simp [isBytes, h]
  · have e1 : min (k + 1).toNat b.size = (k + 1).toNat := by omega
    have e2 : min (k + 2).toNat b.size = (k + 1).toNat + 1 := by omega
    rw [e1, e2]
    have hl : (k + 1).toNat < b.toList.length := by simp; omega
    rw [Nat.add_sub_cancel_left, List.drop_eq_getElem_cons hl, List.take_succ_cons, List.take_zero]
    rw [bInts_getD hk, List.getD_eq_getElem?_getD, List.getElem?_eq_getElem hl]
    simp only [decide_eq_false h, Bool.false_or, List.any_cons, List.any_nil, Bool.or_false, Option.getD_some]
    have e3 : isBytes [b.toList[(k + 1).toNat]].toArray (Value.bytes #[] t1) = false := by simp [isBytes]
    rw [e3, Bool.false_or]
    have e4 : isBytes [b.toList[(k + 1).toNat]].toArray (Value.bytes (Array.replicate (Int.toNat 1) 0) t2) = decide (b.toList[(k + 1).toNat] = 0) := by
      show decide (Array.replicate (Int.toNat 1) 0 = [b.toList[(k + 1).toNat]].toArray) = _
      rw [decide_eq_decide]
      constructor
      · intro h
        have := congrArg Array.toList h
        simp at this
        simpa using this.symm
      · intro h
        rw [h]
        rfl
    rw [e4, Bool.eq_iff_iff, decide_eq_true_eq, beq_iff_eq]
    exact u8_zero.symm
end Mine

/- P2 -/
namespace Mine

theorem StopsAt.unique {c : Int → Bool} {i k k' : Int} (h : StopsAt c i k) (h' : StopsAt c i k') : k = k' := by
  rcases Int.lt_trichotomy k k' with x | x | x
  · have := h'.2.1 k h.1 x; rw [h.2.2] at this; cases this
  · exact x
  · have := h.2.1 k' h'.1 x; rw [h'.2.2] at this; cases this

def stop (c : Int → Bool) : Nat → Int → Int
  | 0, k => k
  | n + 1, k => if c k = true then stop c n (k + 1) else k
theorem stop_spec {c : Int → Bool} : ∀ (n : Nat) (k : Int), (∃ j, k ≤ j ∧ j ≤ k + n ∧ c j = false) → StopsAt c k (stop c n k)
  | 0, k, ⟨j, h1, h2, h3⟩ => by
    have : j = k := by omega
    subst this
    exact ⟨Int.le_refl _, fun i x y => absurd (Int.lt_of_le_of_lt x y) (Int.lt_irrefl _), h3⟩
  | n + 1, k, ⟨j, h1, h2, h3⟩ => by
    unfold stop
    by_cases hc : c k = true
    · rw [if_pos hc]
      have hj : j ≠ k := fun e => by rw [e, hc] at h3; cases h3
      have ih := stop_spec n (k + 1) ⟨j, by omega, by omega, h3⟩
      refine ⟨by have := ih.1; omega, fun i x y => ?_, ih.2.2⟩
      by_cases hi : i = k
      · rw [hi]; exact hc
      · exact ih.2.1 i (by omega) y
    · rw [if_neg hc]
      exact ⟨Int.le_refl _, fun i x y => absurd x (by omega), by simpa using hc⟩

def zEnd (ks : List Int) (i : Int) : Int := stop (zc ks i) ks.length i
def lEnd (ks : List Int) (i : Int) : Int := stop (lc ks i) ks.length (i + 1)
theorem zEnd_spec (ks : List Int) {i : Int} (h0 : 0 ≤ i) : StopsAt (zc ks i) i (zEnd ks i) :=
  stop_spec _ _ ⟨i + ks.length, by omega, Int.le_refl _, zc_false fun _ h _ => by omega⟩
theorem lEnd_spec (ks : List Int) {i : Int} (h0 : 0 ≤ i) : StopsAt (lc ks i) (i + 1) (lEnd ks i) :=
  stop_spec _ _ ⟨i + 1 + ks.length, by omega, Int.le_refl _, lc_false fun _ h _ => by omega⟩

theorem zc_parts {ks : List Int} {i j : Int} (h : zc ks i j = true) : j < i + 192 ∧ j < (ks.length : Int) ∧ ks.getD j.toNat 0 = 0 := by
  unfold zc at h
  simp only [Bool.and_eq_true, decide_eq_true_eq, beq_iff_eq] at h
  exact ⟨h.1.1, h.1.2, h.2⟩
theorem lc_parts {ks : List Int} {i j : Int} (h : lc ks i j = true) : j < i + 64 ∧ j < (ks.length : Int) ∧ (ks.getD j.toNat 0 ≠ 0 ∨ (j + 1 < (ks.length : Int) ∧ ks.getD (j + 1).toNat 0 ≠ 0)) := by
  unfold lc at h
  simp only [Bool.and_eq_true, Bool.or_eq_true, decide_eq_true_eq, bne_iff_ne] at h
  exact ⟨h.1.1, h.1.2, h.2⟩

theorem zEnd_bounds {ks : List Int} {i : Int} (h0 : 0 ≤ i) (h1 : i < ks.length) (hz : ks.getD i.toNat 0 = 0) : i + 1 ≤ zEnd ks i ∧ zEnd ks i ≤ i + 192 ∧ zEnd ks i ≤ ks.length := by
  have h := zEnd_spec ks h0
  have hi : i ≠ zEnd ks i := fun e => by
    have := h.2.2
    rw [← e, zc_true (by omega) h1 hz] at this
    cases this
  have h2 := zc_parts (h.2.1 (zEnd ks i - 1) (by have := h.1; omega) (by omega))
  have := h.1
  exact ⟨by omega, by omega, by omega⟩
theorem lEnd_bounds {ks : List Int} {i : Int} (h0 : 0 ≤ i) (h1 : i < ks.length) : i + 1 ≤ lEnd ks i ∧ lEnd ks i ≤ i + 64 ∧ lEnd ks i ≤ ks.length := by
  have h := lEnd_spec ks h0
  refine ⟨h.1, ?_⟩
  by_cases e : lEnd ks i = i + 1
  · omega
  · have h2 := lc_parts (h.2.1 (lEnd ks i - 1) (by have := h.1; omega) (by omega))
    omega

def manyAt (ks : List Int) (i : Int) : Int := if ks.getD i.toNat 0 = 0 then zEnd ks i - i else lEnd ks i - i
def tell (ks : List Int) (i : Int) : List Int := if ks.getD i.toNat 0 = 0 then [63 + manyAt ks i] else (manyAt ks i - 1) :: (ks.drop i.toNat).take (manyAt ks i).toNat
def packF (ks : List Int) : Nat → Int → List Int
  | 0, _ => []
  | n + 1, i => if i < ks.length then tell ks i ++ packF ks n (i + manyAt ks i) else []
def packL (ks : List Int) : List Int := packF ks ks.length 0

theorem many_bounds {ks : List Int} {i : Int} (h0 : 0 ≤ i) (h1 : i < ks.length) : 1 ≤ manyAt ks i ∧ i + manyAt ks i ≤ ks.length ∧ manyAt ks i ≤ 192 := by
  unfold manyAt
  split
  · have := zEnd_bounds h0 h1 (by assumption); omega
  · have := lEnd_bounds h0 h1; omega
theorem tell_length {ks : List Int} {i : Int} (h0 : 0 ≤ i) (h1 : i < ks.length) : (tell ks i).length ≤ 2 * (manyAt ks i).toNat ∧ 1 ≤ (tell ks i).length := by
  have := many_bounds h0 h1
  unfold tell
  split
  · simp; omega
  · simp only [List.length_cons, List.length_take, List.length_drop]
    omega
theorem packF_fuel {ks : List Int} : ∀ (n m : Nat) (i : Int), 0 ≤ i → ((ks.length : Int) - i).toNat ≤ n → ((ks.length : Int) - i).toNat ≤ m → packF ks n i = packF ks m i
  | 0, 0, _, _, _, _ => rfl
  | 0, m + 1, i, _, h1, _ => by
    unfold packF
    rw [if_neg (by omega)]
  | n + 1, 0, i, _, _, h2 => by
    unfold packF
    rw [if_neg (by omega)]
  | n + 1, m + 1, i, h0, h1, h2 => by
    unfold packF
    by_cases h : i < (ks.length : Int)
    · have hb := many_bounds h0 h
      rw [if_pos h, if_pos h, packF_fuel n m (i + manyAt ks i) (by omega) (by omega) (by omega)]
    · rw [if_neg h, if_neg h]
/-- what is still to be told from place i on -/
def packR (ks : List Int) (i : Int) : List Int := packF ks ((ks.length : Int) - i).toNat i
theorem packR_zero (ks : List Int) : packR ks 0 = packL ks := by unfold packR packL; simp
theorem packR_step {ks : List Int} {i : Int} (h0 : 0 ≤ i) (h1 : i < ks.length) : packR ks i = tell ks i ++ packR ks (i + manyAt ks i) := by
  have hb := many_bounds h0 h1
  obtain ⟨n, hn⟩ : ∃ n, ((ks.length : Int) - i).toNat = n + 1 := ⟨((ks.length : Int) - i).toNat - 1, by omega⟩
  unfold packR
  rw [hn]
  show (if i < (ks.length : Int) then tell ks i ++ packF ks n (i + manyAt ks i) else []) = _
  rw [if_pos h1, packF_fuel n _ _ (by omega) (by omega) (Nat.le_refl _)]
theorem packR_end {ks : List Int} {i : Int} (h1 : (ks.length : Int) ≤ i) : packR ks i = [] := by
  unfold packR
  have : ((ks.length : Int) - i).toNat = 0 := by omega
  rw [this]
  rfl
theorem packR_length {ks : List Int} : ∀ (n : Nat) (i : Int), 0 ≤ i → ((ks.length : Int) - i).toNat ≤ n → (packR ks i).length ≤ 2 * ((ks.length : Int) - i).toNat
  | 0, i, h0, h => by rw [packR_end (by omega)]; simp
  | n + 1, i, h0, h => by
    by_cases h1 : i < (ks.length : Int)
    · have hb := many_bounds h0 h1
      have ht := tell_length h0 h1
      have ih := packR_length (ks := ks) n (i + manyAt ks i) (by omega) (by omega)
      rw [packR_step h0 h1, List.length_append]
      omega
    · rw [packR_end (by omega)]; simp
end Mine

/- P3 -/
namespace Mine
theorem foldl_filter (p : Int → Bool) : ∀ (L acc : List Int), L.foldl (fun l k => if p k = true then l ++ [k] else l) acc = acc ++ L.filter p
  | [], acc => by simp
  | k :: r, acc => by
    rw [List.foldl_cons, foldl_filter p r, List.filter_cons]
    by_cases h : p k = true
    · rw [if_pos h, if_pos h, List.append_assoc]; rfl
    · rw [if_neg h, if_neg h]
theorem rangeKs_cons (a : Int) (n : Nat) : rangeKs a (n + 1) = a :: rangeKs (a + 1) n := by
  unfold rangeKs
  rw [List.range_succ_eq_map]
  simp only [List.map_cons, List.map_map]
  congr 1
  · simp
  · apply List.map_congr_left
    intro j hj
    show a + ((j + 1 : Nat) : Int) = a + 1 + (j : Int)
    omega
theorem take1_range (p : Int → Bool) : ∀ (n : Nat) (a : Int),
    (∃ k, ((rangeKs a n).filter p).take 1 = [k] ∧ a ≤ k ∧ k < a + n ∧ p k = true ∧ ∀ j, a ≤ j → j < k → p j = false) ∨
    (((rangeKs a n).filter p).take 1 = [] ∧ ∀ j, a ≤ j → j < a + n → p j = false)
  | 0, a => .inr ⟨by simp [rangeKs], fun j h1 h2 => by omega⟩
  | n + 1, a => by
    rw [rangeKs_cons, List.filter_cons]
    by_cases h : p a = true
    · rw [if_pos h]
      exact .inl ⟨a, by simp, Int.le_refl _, by omega, h, fun j h1 h2 => by omega⟩
    · rw [if_neg h]
      have hf : p a = false := by simpa using h
      rcases take1_range p n (a + 1) with ⟨k, h1, h2, h3, h4, h5⟩ | ⟨h1, h2⟩
      · refine .inl ⟨k, h1, by omega, by omega, h4, fun j x y => ?_⟩
        by_cases e : j = a
        · rw [e]; exact hf
        · exact h5 j (by omega) y
      · refine .inr ⟨h1, fun j x y => ?_⟩
        by_cases e : j = a
        · rw [e]; exact hf
        · exact h2 j (by omega) (by omega)

theorem min_zero {ks : List Int} {i M : Int} (h0 : 0 ≤ i) (h1 : i < ks.length)
    (hm : M ∈ List.take 1 (List.foldl (fun l k => if (ks.getD k.toNat 0 != 0) = true then l ++ [k] else l) [] (rangeKs i ((ks.length : Int) - i).toNat)) ++ [(ks.length : Int), i + 192])
    (hle : ∀ a, a ∈ List.take 1 (List.foldl (fun l k => if (ks.getD k.toNat 0 != 0) = true then l ++ [k] else l) [] (rangeKs i ((ks.length : Int) - i).toNat)) ++ [(ks.length : Int), i + 192] → M ≤ a) : M = zEnd ks i := by
  rw [foldl_filter (fun k => ks.getD k.toNat 0 != 0), List.nil_append] at hm hle
  have hlen := hle (ks.length : Int) (by simp)
  have h192 := hle (i + 192) (by simp)
  refine StopsAt.unique ?_ (zEnd_spec ks h0)
  rcases take1_range (fun k => ks.getD k.toNat 0 != 0) ((ks.length : Int) - i).toNat i with ⟨k, e, k1, k2, k3, k4⟩ | ⟨e, k4⟩
  · rw [e] at hm hle
    have hk := hle k (by simp)
    have hM : M = k ∨ M = ks.length ∨ M = i + 192 := by simpa using hm
    refine ⟨by omega, fun j x y => zc_true (by omega) (by omega) ?_, zc_false fun x1 x2 x3 => ?_⟩
    · have := k4 j x (by omega)
      simpa using this
    · rcases hM with rfl | rfl | rfl
      · have : ks.getD M.toNat 0 ≠ 0 := by simpa using k3
        exact this x3
      · omega
      · omega
  · rw [e] at hm hle
    have hM : M = ks.length ∨ M = i + 192 := by simpa using hm
    refine ⟨by omega, fun j x y => zc_true (by omega) (by omega) ?_, zc_false fun x1 x2 x3 => by omega⟩
    have := k4 j x (by omega)
    simpa using this

theorem lc_endC {ks : List Int} {i j : Int} (h0 : 0 ≤ j) (h1 : j < i + 64) (h2 : j < (ks.length : Int)) : lc ks i j = !endC ks j := by
  unfold lc endC
  rw [decide_eq_true h1, decide_eq_true h2]
  generalize ks.getD j.toNat 0 = x
  generalize ks.getD (j + 1).toNat 0 = y
  have hd : decide (j + 1 < (ks.length : Int)) = !decide ((ks.length : Int) ≤ j + 1) := by
    by_cases hl : (ks.length : Int) ≤ j + 1
    · rw [decide_eq_true hl, decide_eq_false (by omega)]; rfl
    · rw [decide_eq_false hl, decide_eq_true (by omega)]; rfl
  rw [hd]
  simp only [bne, Bool.true_and]
  cases (x == 0) <;> cases (y == 0) <;> cases decide ((ks.length : Int) ≤ j + 1) <;> rfl
theorem min_lit {ks : List Int} {i M : Int} (h0 : 0 ≤ i) (h1 : i < ks.length)
    (hm : M ∈ List.take 1 (List.foldl (fun l k => if decide (i < k) = true then l ++ [k] else l) [] (List.foldl (fun l k => if endC ks k = true then l ++ [k] else l) [] (rangeKs 0 ks.length))) ++ [(ks.length : Int), i + 64])
    (hle : ∀ a, a ∈ List.take 1 (List.foldl (fun l k => if decide (i < k) = true then l ++ [k] else l) [] (List.foldl (fun l k => if endC ks k = true then l ++ [k] else l) [] (rangeKs 0 ks.length))) ++ [(ks.length : Int), i + 64] → M ≤ a) : M = lEnd ks i := by
  rw [foldl_filter (endC ks), List.nil_append, foldl_filter (fun k => decide (i < k)), List.nil_append, List.filter_filter] at hm hle
  have hlen := hle (ks.length : Int) (by simp)
  have h64 := hle (i + 64) (by simp)
  refine StopsAt.unique ?_ (lEnd_spec ks h0)
  rcases take1_range (fun k => decide (i < k) && endC ks k) ks.length 0 with ⟨k, e, k1, k2, k3, k4⟩ | ⟨e, k4⟩
  · rw [e] at hm hle
    have hk := hle k (by simp)
    have hM : M = k ∨ M = ks.length ∨ M = i + 64 := by simpa using hm
    simp only [Bool.and_eq_true, decide_eq_true_eq] at k3
    refine ⟨by omega, fun j x y => ?_, ?_⟩
    · rw [lc_endC (by omega) (by omega) (by omega)]
      have := k4 j (by omega) (by omega)
      have hij : decide (i < j) = true := decide_eq_true (by omega)
      rw [hij, Bool.true_and] at this
      rw [this]; rfl
    · by_cases x1 : M < i + 64
      · by_cases x2 : M < (ks.length : Int)
        · rw [lc_endC (by omega) x1 x2]
          have : M = k := by omega
          rw [this, k3.2]; rfl
        · exact lc_false fun _ y _ => x2 y
      · exact lc_false fun y _ _ => x1 y
  · rw [e] at hm hle
    have hM : M = ks.length ∨ M = i + 64 := by simpa using hm
    refine ⟨by omega, fun j x y => ?_, lc_false fun x1 x2 x3 => by omega⟩
    rw [lc_endC (by omega) (by omega) (by omega)]
    have := k4 j (by omega) (by omega)
    have hij : decide (i < j) = true := decide_eq_true (by omega)
    rw [hij, Bool.true_and] at this
    rw [this]; rfl
end Mine

/- P4 -/
namespace Mine
/-- so many octets out of what is told -/
def unpF : Nat → List Int → Nat → Option (List Int)
  | _, _, 0 => some []
  | 0, _, _ + 1 => none
  | _ + 1, [], _ + 1 => none
  | n + 1, f :: r, k + 1 =>
    if f < 64 then
      (if ((k + 1 : Nat) : Int) < f + 1 ∨ (r.length : Int) < f + 1 then none else (unpF n (r.drop (f + 1).toNat) (k + 1 - (f + 1).toNat)).map (r.take (f + 1).toNat ++ ·))
    else (if ((k + 1 : Nat) : Int) < f - 63 then none else (unpF n r (k + 1 - (f - 63).toNat)).map (List.replicate (f - 63).toNat 0 ++ ·))
def unp (rs : List Int) (k : Nat) : Option (List Int) := unpF k rs k
def Octets (ks : List Int) : Prop := ∀ k ∈ ks, 0 ≤ k ∧ k < 256

theorem unpF_fuel : ∀ (n m : Nat) (rs : List Int) (k : Nat), Octets rs → k ≤ n → k ≤ m → unpF n rs k = unpF m rs k
  | _, _, _, 0, _, _, _ => by simp [unpF]
  | 0, _, _, k + 1, _, h, _ => by omega
  | _, 0, _, k + 1, _, _, h => by omega
  | n + 1, m + 1, [], k + 1, _, _, _ => by simp [unpF]
  | n + 1, m + 1, f :: r, k + 1, ho, h1, h2 => by
    have hf := ho f (.head _)
    have hr : Octets r := fun x hx => ho x (.tail _ hx)
    unfold unpF
    by_cases c1 : f < 64
    · rw [if_pos c1, if_pos c1]
      by_cases c2 : ((k + 1 : Nat) : Int) < f + 1 ∨ (r.length : Int) < f + 1
      · rw [if_pos c2, if_pos c2]
      · rw [if_neg c2, if_neg c2, unpF_fuel n m _ _ (fun x hx => hr x (List.mem_of_mem_drop hx)) (by omega) (by omega)]
    · rw [if_neg c1, if_neg c1]
      by_cases c2 : ((k + 1 : Nat) : Int) < f - 63
      · rw [if_pos c2, if_pos c2]
      · rw [if_neg c2, if_neg c2, unpF_fuel n m _ _ hr (by omega) (by omega)]
theorem unp_zero (rs : List Int) : unp rs 0 = some [] := by simp [unp, unpF]
theorem unp_nil (k : Nat) : unp [] (k + 1) = none := by simp [unp, unpF]
theorem unp_lit {f : Int} {r : List Int} {k : Nat} (ho : Octets (f :: r)) (c1 : f < 64) :
    unp (f :: r) (k + 1) = if ((k + 1 : Nat) : Int) < f + 1 ∨ (r.length : Int) < f + 1 then none else (unp (r.drop (f + 1).toNat) (k + 1 - (f + 1).toNat)).map (r.take (f + 1).toNat ++ ·) := by
  have hf := ho f (.head _)
  show unpF (k + 1) (f :: r) (k + 1) = _
  unfold unpF
  rw [if_pos c1]
  by_cases c2 : ((k + 1 : Nat) : Int) < f + 1 ∨ (r.length : Int) < f + 1
  · rw [if_pos c2, if_pos c2]
  · rw [if_neg c2, if_neg c2]
    unfold unp
    rw [unpF_fuel k (k + 1 - (f + 1).toNat) _ _ (fun x hx => ho x (.tail _ (List.mem_of_mem_drop hx))) (by omega) (Nat.le_refl _)]
theorem unp_zer {f : Int} {r : List Int} {k : Nat} (ho : Octets (f :: r)) (c1 : ¬ f < 64) :
    unp (f :: r) (k + 1) = if ((k + 1 : Nat) : Int) < f - 63 then none else (unp r (k + 1 - (f - 63).toNat)).map (List.replicate (f - 63).toNat 0 ++ ·) := by
  have hf := ho f (.head _)
  show unpF (k + 1) (f :: r) (k + 1) = _
  unfold unpF
  rw [if_neg c1]
  by_cases c2 : ((k + 1 : Nat) : Int) < f - 63
  · rw [if_pos c2, if_pos c2]
  · rw [if_neg c2, if_neg c2]
    unfold unp
    rw [unpF_fuel k (k + 1 - (f - 63).toNat) _ _ (fun x hx => ho x (.tail _ hx)) (by omega) (Nat.le_refl _)]

/-- the value that tells this answer -/
def ToldV : Option (List Int) → Value → Prop
  | some l, v => ∃ fb t, v = .bytes fb t ∧ KBw.bInts fb = l
  | none, v => v = .none
end Mine

/- P5 -/
namespace Mine
theorem clipN {n k : Nat} (h : k ≤ n) : clipAt n (k : Int) = k := by
  rw [clip_nat (Int.natCast_nonneg _), Int.toNat_natCast]
  exact Nat.min_eq_left h
theorem map_app (a b : List Int) (o : Option (List Int)) : o.map (a ++ b ++ ·) = (o.map (b ++ ·)).map (a ++ ·) := by
  cases o with
  | none => rfl
  | some l => simp only [Option.map_some, List.append_assoc]
theorem oct_drop {ks : List Int} (ho : Octets ks) (n : Nat) : Octets (ks.drop n) := fun k h => ho k (List.mem_of_mem_drop h)
/-- the size is a natural number -/
theorem size_nat {l : Nat} {size : Int} (h : (l : Int) < size) : ∃ k : Nat, size = ((l + (k + 1) : Nat) : Int) := by
  obtain ⟨z, rfl⟩ := Int.eq_ofNat_of_zero_le (Int.le_of_lt (Int.lt_of_le_of_lt (Int.natCast_nonneg _) h))
  obtain ⟨k, rfl⟩ := Nat.exists_eq_add_of_lt (Int.ofNat_lt.mp h)
  exact ⟨k, rfl⟩
section
variable {ks fs : List Int} {l j k F : Nat} {f : Int}
theorem litN (ho : Octets ks) (hj : ks.drop j = f :: ks.drop (j + 1)) (hc : f < 64) (hF : f + 1 = (F : Int)) (ha : F ≤ k + 1) (hb : j + 1 + F ≤ ks.length) :
    (unp (ks.drop (j + 1 + F)) (l + (k + 1) - (l + F))).map (fs ++ (ks.drop (j + 1)).take F ++ ·) = (unp (ks.drop j) (l + (k + 1) - l)).map (fs ++ ·) := by
  rw [Nat.add_sub_add_left, Nat.add_sub_cancel_left, hj, unp_lit (hj ▸ oct_drop ho j) hc, hF, Int.toNat_natCast, if_neg, map_app, List.drop_drop]
  rw [List.length_drop]
  clear ho hj hc hF
  omega
theorem zerN (ho : Octets ks) (hj : ks.drop j = f :: ks.drop (j + 1)) (hc : ¬ f < 64) (hF : f - 63 = (F : Int)) (ha : F ≤ k + 1) :
    (unp (ks.drop (j + 1)) (l + (k + 1) - (l + F))).map (fs ++ List.replicate F 0 ++ ·) = (unp (ks.drop j) (l + (k + 1) - l)).map (fs ++ ·) := by
  rw [Nat.add_sub_add_left, Nat.add_sub_cancel_left, hj, unp_zer (hj ▸ oct_drop ho j) hc, hF, Int.toNat_natCast, if_neg (Int.not_lt.mpr (Int.ofNat_le.mpr ha)), map_app]
theorem litN_none (ho : Octets ks) (hj : ks.drop j = f :: ks.drop (j + 1)) (hc : f < 64) (hF : f + 1 = (F : Int)) (hb : k + 1 < F ∨ ks.length - (j + 1) < F) :
    unp (ks.drop j) (l + (k + 1) - l) = none := by
  rw [Nat.add_sub_cancel_left, hj, unp_lit (hj ▸ oct_drop ho j) hc, hF, if_pos]
  rw [List.length_drop]
  clear ho hj hc hF
  omega
theorem zerN_none (ho : Octets ks) (hj : ks.drop j = f :: ks.drop (j + 1)) (hc : ¬ f < 64) (hF : f - 63 = (F : Int)) (hb : k + 1 < F) :
    unp (ks.drop j) (l + (k + 1) - l) = none := by
  rw [Nat.add_sub_cancel_left, hj, unp_zer (hj ▸ oct_drop ho j) hc, hF, if_pos (Int.ofNat_lt.mpr hb)]
end
theorem lit_take {n F : Nat} {x : Int} (hn : 0 < n) (hF : x + 1 = (F : Int)) : clipAt n (x + 2) - clipAt n 1 = min F (n - 1) := by
  obtain ⟨m, rfl⟩ := Nat.exists_eq_succ_of_ne_zero (Nat.ne_of_gt hn)
  have e : x + 2 = ((F + 1 : Nat) : Int) := by omega
  rw [e, clip_nat (Int.natCast_nonneg _), show clipAt (m + 1) 1 = 1 from clipN (k := 1) hn, Int.toNat_natCast, Nat.add_min_add_right]
  rfl
theorem lit_many {n F : Nat} {x : Int} (hn : 0 < n) (hF : x + 1 = (F : Int)) : min (clipAt n (x + 2) - clipAt n 1) (n - clipAt n 1) = min F (n - 1) := by
  rw [lit_take hn hF, show clipAt n 1 = 1 from clipN (k := 1) hn]
  exact Nat.min_eq_left (Nat.min_le_right _ _)
theorem head_at {rs : List Int} (hl : 0 < rs.length) : rs.drop 0 = rs.getD (Int.toNat 0) 0 :: rs.drop (0 + 1) := by
  cases rs with
  | nil => cases hl
  | cons f r => rfl
theorem head_lo {rs : List Int} (ho : Octets rs) (hl : 0 < rs.length) : 0 ≤ rs.getD (Int.toNat 0) 0 := by
  cases rs with
  | nil => cases hl
  | cons f r => exact (ho f (.head _)).1
theorem told_none {rs : List Int} {fl : Nat} {size : Int} (ho : Octets rs) (hl : 0 < rs.length) (hc : rs.getD (Int.toNat 0) 0 < 64) (hs : (fl : Int) < size)
    (hb : ((min (clipAt rs.length (rs.getD (Int.toNat 0) 0 + 2) - clipAt rs.length 1) (rs.length - clipAt rs.length 1) : Nat) : Int) ≠ rs.getD (Int.toNat 0) 0 + 1 ∨
      size < (fl : Int) + ((min (clipAt rs.length (rs.getD (Int.toNat 0) 0 + 2) - clipAt rs.length 1) (rs.length - clipAt rs.length 1) : Nat) : Int)) : unp rs (size.toNat - fl) = none := by
  have hj := head_at hl
  have hx := head_lo ho hl
  generalize rs.getD (Int.toNat 0) 0 = x at *
  obtain ⟨F, hF⟩ := Int.eq_ofNat_of_zero_le (Int.le_trans hx (Int.le_of_lt (Int.lt_succ x)))
  obtain ⟨k, rfl⟩ := size_nat hs
  rw [lit_many hl hF, hF] at hb
  refine litN_none (j := 0) (F := F) ho hj hc hF ?_
  clear ho hj hc hF hs hx
  omega
theorem told_none_z {rs : List Int} {fl : Nat} {size : Int} (ho : Octets rs) (hl : 0 < rs.length) (hc : ¬ rs.getD (Int.toNat 0) 0 < 64) (hs : (fl : Int) < size)
    (hb : size < (fl : Int) + ((rs.getD (Int.toNat 0) 0 - 63).toNat : Int)) : unp rs (size.toNat - fl) = none := by
  have hj := head_at hl
  generalize rs.getD (Int.toNat 0) 0 = x at *
  obtain ⟨F, hF⟩ := Int.eq_ofNat_of_zero_le (show 0 ≤ x - 63 by omega)
  obtain ⟨k, rfl⟩ := size_nat hs
  rw [hF, Int.toNat_natCast] at hb
  refine zerN_none (j := 0) (F := F) ho hj hc hF ?_
  clear ho hj hc hF hs hl
  omega
theorem told_none_e {rs : List Int} {fl : Nat} {size : Int} (hl : ¬ 0 < rs.length) (hs : (fl : Int) < size) : unp rs (size.toNat - fl) = none := by
  obtain ⟨k, rfl⟩ := size_nat hs
  cases rs with
  | nil => rw [Int.toNat_natCast, Nat.add_sub_cancel_left, unp_nil]
  | cons f r => exact absurd (Nat.succ_pos _) hl
theorem told_lit {rs fs : List Int} {size : Int} (ho : Octets rs) (hl : 0 < rs.length) (hc : rs.getD (Int.toNat 0) 0 < 64) (hs : (fs.length : Int) < size)
    (h1 : ((min (clipAt rs.length (rs.getD (Int.toNat 0) 0 + 2) - clipAt rs.length 1) (rs.length - clipAt rs.length 1) : Nat) : Int) = rs.getD (Int.toNat 0) 0 + 1)
    (h2 : ¬ size < (fs.length : Int) + ((min (clipAt rs.length (rs.getD (Int.toNat 0) 0 + 2) - clipAt rs.length 1) (rs.length - clipAt rs.length 1) : Nat) : Int))
    {fs' rs' : List Int} (e1 : fs' = fs ++ List.take (clipAt rs.length (rs.getD (Int.toNat 0) 0 + 2) - clipAt rs.length 1) (List.drop (clipAt rs.length 1) rs))
    (e2 : rs' = List.take (rs.length - clipAt rs.length (1 + ((min (clipAt rs.length (rs.getD (Int.toNat 0) 0 + 2) - clipAt rs.length 1) (rs.length - clipAt rs.length 1) : Nat) : Int)))
      (List.drop (clipAt rs.length (1 + ((min (clipAt rs.length (rs.getD (Int.toNat 0) 0 + 2) - clipAt rs.length 1) (rs.length - clipAt rs.length 1) : Nat) : Int))) rs)) :
    fs'.length ≤ size.toNat ∧ rs'.length ≤ rs.length ∧ size.toNat - fs'.length < size.toNat - fs.length ∧
      (unp rs' (size.toNat - fs'.length)).map (fs' ++ ·) = (unp rs (size.toNat - fs.length)).map (fs ++ ·) := by
  have hj := head_at hl
  have hx := head_lo ho hl
  generalize rs.getD (Int.toNat 0) 0 = x at *
  obtain ⟨F, hF⟩ := Int.eq_ofNat_of_zero_le (Int.le_trans hx (Int.le_of_lt (Int.lt_succ x)))
  obtain ⟨k, rfl⟩ := size_nat hs
  rw [lit_many hl hF] at h1 h2 e2
  rw [lit_take hl hF, show clipAt rs.length 1 = 1 from clipN (k := 1) hl] at e1
  rw [hF] at h1
  rw [Int.ofNat.inj h1] at e1 e2 h2
  have hb : 0 + 1 + F ≤ rs.length := by clear h2 hs hF hx hc hj e1 e2; omega
  have hp : 0 < F := by clear h1 h2 hs hc hj e1 e2 hb hl; omega
  have ha : F ≤ k + 1 := by clear h1 hs hF hx hc hj e1 e2 hb hl hp; omega
  rw [show clipAt rs.length (1 + (F : Int)) = 0 + 1 + F from (congrArg (clipAt rs.length) (show 1 + (F : Int) = ((0 + 1 + F : Nat) : Int) from rfl)).trans (clipN hb), List.take_of_length_le (Nat.le_of_eq List.length_drop)] at e2
  have l1 : fs'.length = fs.length + F := by rw [e1, List.length_append, List.length_take, List.length_drop, Nat.min_eq_left]; clear h1 h2 hs hF hx hc hj e1 e2 hl hp ha; omega
  have q := litN (l := fs.length) (fs := fs) ho hj hc hF ha hb
  rw [l1, Int.toNat_natCast, e2]
  refine ⟨Nat.add_le_add_left ha _, by rw [List.length_drop]; exact Nat.sub_le _ _, ?_, by rw [e1]; exact q⟩
  clear q l1 h1 h2 hs hF hx hc hj e1 e2 hl hb
  omega
theorem told_zer {rs fs : List Int} {size : Int} (ho : Octets rs) (hl : 0 < rs.length) (hc : ¬ rs.getD (Int.toNat 0) 0 < 64) (hs : (fs.length : Int) < size)
    (h2 : ¬ size < (fs.length : Int) + ((rs.getD (Int.toNat 0) 0 - 63).toNat : Int))
    {fs' rs' : List Int} (e1 : fs' = fs ++ List.replicate (rs.getD (Int.toNat 0) 0 - 63).toNat 0)
    (e2 : rs' = List.take (rs.length - clipAt rs.length (1 + 0)) (List.drop (clipAt rs.length (1 + 0)) rs)) :
    fs'.length ≤ size.toNat ∧ rs'.length ≤ rs.length ∧ size.toNat - fs'.length < size.toNat - fs.length ∧
      (unp rs' (size.toNat - fs'.length)).map (fs' ++ ·) = (unp rs (size.toNat - fs.length)).map (fs ++ ·) := by
  have hj := head_at hl
  generalize rs.getD (Int.toNat 0) 0 = x at *
  obtain ⟨F, hF⟩ := Int.eq_ofNat_of_zero_le (show 0 ≤ x - 63 by omega)
  obtain ⟨k, rfl⟩ := size_nat hs
  rw [hF, Int.toNat_natCast] at h2 e1
  rw [show clipAt rs.length (1 + 0) = 0 + 1 from clipN (k := 1) hl, List.take_of_length_le (Nat.le_of_eq List.length_drop)] at e2
  have hp : 0 < F := by clear h2 hs hj e1 e2 hl; omega
  have ha : F ≤ k + 1 := by clear hs hF hc hj e1 e2 hl hp; omega
  have l1 : fs'.length = fs.length + F := by rw [e1, List.length_append, List.length_replicate]
  have q := zerN (l := fs.length) (fs := fs) ho hj hc hF ha
  rw [l1, Int.toNat_natCast, e2]
  refine ⟨Nat.add_le_add_left ha _, by rw [List.length_drop]; exact Nat.sub_le _ _, ?_, by rw [e1]; exact q⟩
  clear q l1 h2 hs hF hc hj e1 e2 hl
  omega
end Mine

/- C2 -/
namespace Mine
theorem ne_all' {news : List (Addr × Obj)} {e d : Addr} (h : ∀ p ∈ news, p.1 < e) (hd : e ≤ d) : ∀ p ∈ news, p.1 ≠ d := fun p hp q => absurd (h p hp) (by rw [q]; exact Nat.not_lt.mpr hd)
local macro_rules | `(tactic| k_all) => `(tactic| exact ne_all' (by assumption) (by first | exact Nat.le_refl _ | exact Nat.le_succ _ | exact Nat.le_succ_of_le (Nat.le_succ _)))
local macro_rules | `(tactic| walk_at "call type:bytes") => `(tactic| (k_here; (with_reducible show wpAny _ _ (call (Value.type "bytes") [Value.int _ _]) _ _ _); (refine call_bytes_int (by kba_bound) (by kba_bound) ?_); intro _ _))
local macro_rules | `(tactic| walk_at "binaryOp Mult bytes int") => `(tactic| (k_here; (refine bytes_mul_any (List.cons_ne_nil _ _) (by kba_bound) (by kba_bound) (by simp only [List.length_cons, List.length_nil]; decide) ?_); intro _ _))
theorem mul_size (b : List UInt8) (n : Nat) : ((List.replicate n b).flatten).toArray.size = n * b.length := by simp
set_option maxHeartbeats 4000000 in
theorem part_ret (w : World) {u : Tok} {i : Int} (h0 : 0 ≤ i) :
    Returns w 79 [.int i u] (fun v => ∃ b t', v = .bytes b t' ∧ b.size ≤ 200) := by
  unfold Returns KK PP
  k_fill
  intro dp un gd cn cs a ccd cl outer A₀ base h₀ L m p loose mean mg mb news s Q E B F X N T hK hd hu hret
  refine wpAny_call ?_
  k_dflt (refine' code_defC ?k1 ?k2 ?k3 ?k4 ?k5 ?kA ?kF ?kK ?k6 ?k7 ?k8 ?k9 ?kB ?kD ?_ ?c2 ?c3 ?c4; (case kA => exact rfl); (case kF => exact rfl); (case kK => assumption); (case k1 => k_asm); (case k2 => k_asm); (case k3 => k_asm); (case k4 => k_asm); (case k5 => k_asm); (case k6 => k_is); (case k7 => k_is); (case k8 => ktr_room); (case k9 => exact BindsTo.of_eq rfl); (case kB => exact rfl); (case kD => decide +kernel); (case c2 => exact rfl); (case c3 => exact rfl); (case c4 => exact rfl); k_whole; intro _ _ _ _ _ _ _ N' Y' _ _ _ _; k_cells Y'; (try simp only [List.cons_append, List.nil_append] at N'); (try dsimp only); (try k_fold))
  k_with_none
  k_steps
  · refine hret _ _ _ ⟨_, _, rfl, ?_⟩ (by assumption) (cb_drop (by assumption) fun p hp => by repeat (first | exact hp | apply List.Mem.tail))
    have h1 := fmod_hi (i.fdiv 4) (n := 200) (by decide)
    rw [Array.size_replicate]
    omega
  · refine hret _ _ _ ⟨_, _, rfl, ?_⟩ (by assumption) (cb_drop (by assumption) fun p hp => by repeat (first | exact hp | apply List.Mem.tail))
    have h1 := fmod_hi (i.fdiv 4) (n := 80) (by decide)
    rw [byteArr_size, List.length_map, rangeKs_length]
    omega
  · refine hret _ _ _ ⟨_, _, rfl, ?_⟩ (by assumption) (cb_drop (by assumption) fun p hp => by repeat (first | exact hp | apply List.Mem.tail))
    have h1 := fmod_hi (i.fdiv 4) (n := 40) (by decide)
    rw [mul_size]
    simp only [List.length_cons, List.length_nil]
    omega
  · refine hret _ _ _ ⟨_, _, rfl, ?_⟩ (by assumption) (cb_drop (by assumption) fun p hp => by repeat (first | exact hp | apply List.Mem.tail))
    exact (by decide : 1 ≤ 200)

/- C3 -/
local macro_rules | `(tactic| walk_at "CompSrcT") => `(tactic| refine stop_here ?_)
local macro_rules | `(tactic| walk_at "compareOp In bytes ref") => `(tactic| (k_here; (refine in_tuple_bytes (News.isTup (by k_asm) (by k_mem)) ?_ ?_); (case' refine_1 => intro v hv; (simp only [List.mem_cons, List.not_mem_nil, or_false] at hv); rcases hv with hv | hv <;> exact ⟨_, _, hv⟩)))
/-- the locals of _law_packed in its loop -/
def pMap (f n o e : Option Value) : Str → Option Value := fun y => if y = Str.ofString "found" then f else if y = Str.ofString "many" then n else if y = Str.ofString "others" then o else if y = Str.ofString "ends" then e else none
theorem pMap_start (f e : Option Value) : (fun y => if y = Str.ofString "found" then f else if y = Str.ofString "ends" then e else (fun _ => none) y) = pMap f none none e := by
  funext y
  unfold pMap
  by_cases h1 : y = Str.ofString "found"
  · rw [if_pos h1, if_pos h1]
  · rw [if_neg h1, if_neg h1]
    by_cases h2 : y = Str.ofString "many"
    · subst h2; rfl
    · rw [if_neg h2]
      by_cases h3 : y = Str.ofString "others"
      · subst h3; rfl
      · rw [if_neg h3]
theorem pMap_turn (a b c f n o e : Option Value) : (fun y => if y = Str.ofString "found" then a else if y = Str.ofString "many" then b else if y = Str.ofString "others" then c else pMap f n o e y) = pMap a b c e := by
  funext y
  unfold pMap
  by_cases h1 : y = Str.ofString "found"
  · simp only [if_pos h1]
  · by_cases h2 : y = Str.ofString "many"
    · simp only [if_neg h1, if_pos h2]
    · by_cases h3 : y = Str.ofString "others"
      · simp only [if_neg h1, if_neg h2, if_pos h3]
      · simp only [if_neg h1, if_neg h2, if_neg h3]
theorem pMap_turn2 (a b f n o e : Option Value) : (fun y => if y = Str.ofString "found" then a else if y = Str.ofString "many" then b else pMap f n o e y) = pMap a b o e := by
  funext y
  unfold pMap
  by_cases h1 : y = Str.ofString "found"
  · simp only [if_pos h1]
  · by_cases h2 : y = Str.ofString "many"
    · simp only [if_neg h1, if_pos h2]
    · simp only [if_neg h1, if_neg h2]
theorem endC_ne {ks : List Int} {k : Int} (h : ks.getD k.toNat 0 ≠ 0) : endC ks k = false := by
  unfold endC
  rw [beq_eq_false_iff_ne.mpr h, Bool.false_and]
set_option maxHeartbeats 4000000 in
theorem packed_ret (w : World) {b : Array UInt8} {ks : List Int} {t : Tok} (hk : KBw.bInts b = ks) (hz : ks.length ≤ 10000) :
    Returns w 84 [.bytes b t] (fun v => ∃ fb t', v = .bytes fb t' ∧ KBw.bInts fb = packL ks) := by
  unfold Returns KK PP
  k_fill
  intro dp un gd cn cs a ccd cl outer A₀ base h₀ L m p loose mean mg mb news s Q E B F X N T hK hd hu hret
  refine wpAny_call ?_
  k_dflt (refine' code_defC ?k1 ?k2 ?k3 ?k4 ?k5 ?kA ?kF ?kK ?k6 ?k7 ?k8 ?k9 ?kB ?kD ?_ ?c2 ?c3 ?c4; (case kA => exact rfl); (case kF => exact rfl); (case kK => assumption); (case k1 => k_asm); (case k2 => k_asm); (case k3 => k_asm); (case k4 => k_asm); (case k5 => k_asm); (case k6 => k_is); (case k7 => k_is); (case k8 => ktr_room); (case k9 => exact BindsTo.of_eq rfl); (case kB => exact rfl); (case kD => decide +kernel); (case c2 => exact rfl); (case c3 => exact rfl); (case c4 => exact rfl); k_whole; intro _ _ _ _ _ _ _ N' Y' _ _ _ _; k_cells Y'; (try simp only [List.cons_append, List.nil_append] at N'); (try dsimp only); (try k_fold))
  rename_i g L' h' tk FG F' B' X' T' l1 o1 o2 d1 d2
  replace d1 : o1.data = .cell none := d1
  replace d2 : o2.data = .cell (some (.bytes b t)) := d2
  replace F' : Fr g L' h' (fun _ => none) := fr_eq F' (by funext y; rfl)
  k_with_none
  k_with "exec While Compare cons nil" => refine stop_here ?_
  k_steps
  refine Stop.go ?_
  refine LCt.CompSrcT.range (by rfl) (by k_asm) (by k_asm) (by assumption) (by first | decide | exact small_one (by l_bnd) (by l_bnd) (by l_bnd) (by l_bnd)) (rangeSize_nat _ _) (by rw [PySem.sizeLine_eq]; omega) ?_
  intro g2
  refine' kci_range (fun l k => if endC ks k = true then l ++ [k] else l) ?_ ?_ ?_
  · intro k tk I oI C oC D mm ys l hh tk2 E2 hlo hhi hI hC hx F2 N2 off ne mk
    simp only [LCg.Off3, and_true] at off
    k_fold
    k_steps
    · rename_i F3 N3 _ hc
      rw [picked_end (k := k) hk (by omega) (by omega) (by assumption)] at hc
      exact ⟨_, _, _, rfl, F3, cb_drop N3 (fun p hp => .tail _ hp), off, trivial, kci_el (by rw [if_pos hc]) rfl rfl⟩
    · rename_i F3 N3 _ hc
      rw [picked_end (k := k) hk (by omega) (by omega) (by assumption)] at hc
      exact ⟨_, _, _, rfl, F3, cb_drop N3 (fun p hp => .tail _ hp), off, trivial, kci_no (by rw [if_neg (by rw [hc]; exact Bool.false_ne_true)]) rfl⟩
    · rename_i hz0
      exact ⟨_, _, _, rfl, F2, N2, off, trivial, kci_no (by rw [if_neg (by rw [endC_ne hz0]; exact Bool.false_ne_true)]) rfl⟩
  · unfold KPfDone
    intro ys hI hlen
    rw [Int.sub_zero, Int.toNat_natCast] at hI hlen
    k_steps
    refine Stop.go ?_
    rename_i D h9 tk9 offD D8 h8 l8 h7 h6 h5 oat F5 N5 dat
    have offD' : LCg.Off1 D news := offD.2.2
    replace F5 := fr_eq F5 (pMap_start _ _)
    replace N5 : News g L' h5 ((D, LCg.lst ys) :: (L' + 1 + 1, oat) :: (L' + 1, o2) :: news) := cb_drop N5 (fun p hp => .tail _ hp)
    refine While_inv2 (fun n m nx => ∃ (i : Int) (fb : Array UInt8) (fs : List Int) (t1 t2 : Tok) (v1 v2 : Option Value) (oa : Obj), 0 ≤ i ∧ i ≤ (ks.length : Int) ∧ n = ((ks.length : Int) - i).toNat ∧ KBw.bInts fb = fs ∧ fs ++ packR ks i = packL ks ∧ fs.length ≤ 2 * i.toNat ∧
      oa.data = .cell (some (.int i t1)) ∧ nx = (D, LCg.lst ys) :: (L' + 1 + 1, oa) :: (L' + 1, o2) :: news ∧ m = pMap (some (.bytes fb t2)) v1 v2 (some (.ref D))) F5 N5
      ⟨0, #[], [], _, _, none, none, oat, Int.le_refl _, by omega, rfl, rfl, by rw [packR_zero]; rfl, Nat.zero_le _, dat, rfl, rfl⟩ ?_
    clear F5 N5
    rintro n m₁ nx h₁ tk₁ F₁ N₁ ⟨i, fb, fs, t1, t2, v1, v2, oa, hi0, hi1, hn, hfb, hfs, hfl, doa, rfl, rfl⟩
    k_fold
    k_steps
    · refine Stop.go ?_
      refine LCt.CompSrcT.range (a := i) (b := (ks.length : Int)) (n := ((ks.length : Int) - i).toNat) (by rfl) (by k_asm) (by k_asm) (by assumption) (small_one (by omega) (by omega) (by omega) (by omega)) (rangeSize_nat _ _) (by rw [PySem.sizeLine_eq]; omega) ?_
      intro g3
      refine' kci_range (fun l k => if (ks.getD k.toNat 0 != 0) = true then l ++ [k] else l) ?_ ?_ ?_
      · intro k tk I oI C oC D mm ys l hh tk2 E2 hlo hhi hI hC hx F2 N2 off ne mk
        simp only [LCg.Off3, and_true] at off
        k_fold
        k_steps
        · rename_i hc
          exact ⟨_, _, _, rfl, F2, N2, off, trivial, kci_el (by rw [if_pos (bne_iff_ne.mpr hc)]) rfl rfl⟩
        · rename_i hc
          exact ⟨_, _, _, rfl, F2, N2, off, trivial, kci_no (by rw [if_neg (by rw [hc]; decide)]) rfl⟩
      · unfold KPfDone
        intro zs hzI hzlen
        k_with "call type:bytes" => refine stop_here ?_
        k_steps
        have hM := min_zero hi0 (by assumption) (by assumption) (by assumption)
        have hzb := zEnd_bounds (ks := ks) hi0 (by assumption) (by assumption)
        refine Stop.go ?_
        k_with_none
        k_steps
        rename_i h7 tk7 h8 o7 F7 N7 d7
        have htell : tell ks i = [63 + (zEnd ks i - i)] := by unfold tell manyAt; rw [if_pos (by assumption), if_pos (by assumption)]
        have hmany : manyAt ks i = zEnd ks i - i := by unfold manyAt; rw [if_pos (by assumption)]
        have hstep := packR_step hi0 (by assumption)
        rw [htell, hmany] at hstep
        rw [hM] at F7 d7
        refine ⟨_, _, _, _, _, rfl, fr_eq F7 (pMap_turn _ _ _ _ _ _ _), cb_drop N7 (fun p hp => .tail _ (.tail _ (.tail _ (.tail _ (.tail _ hp))))), ?_, i + (zEnd ks i - i), _, fs ++ [63 + (zEnd ks i - i)], _, _, _, _, o7, by omega, by omega, rfl, ?_, ?_, ?_, d7, rfl, rfl⟩
        · omega
        · exact KBw.ints_app hfb (KBa.ints_make (ns := [63 + (zEnd ks i - i)]) (fun n hn => by rw [List.mem_singleton.mp hn]; omega))
        · rw [List.append_assoc, ← hfs, hstep]
        · rw [List.length_append, List.length_singleton]; omega
      · intro l k
        show (if (ks.getD k.toNat 0 != 0) = true then l ++ [k] else l).length ≤ _
        split <;> simp
    · refine Stop.go ?_
      refine LCt.CompSrcT.ledger (by rfl) (by k_asm) (by k_asm) (by k_mem) (by rw [PySem.sizeLine_eq, List.size_toArray]; omega) ?_
      intro g3
      refine' kci_rest (ks := List.foldl (fun l k => if endC ks k = true then l ++ [k] else l) [] (rangeKs 0 ks.length)) (fun l k => if decide (i < k) = true then l ++ [k] else l) ?_ ?_ ?_ ?_ ?_
      · rw [List.size_toArray]; exact hI.length.symm
      · intro j v hj hv
        obtain ⟨k, t, e, hk⟩ := IntsAre.at hI j v (by simpa using hv)
        exact ⟨k, t, hk, e⟩
      · intro k tk I oI C oC D mm ys l hh tk2 E2 hmem hI hC hx F2 N2 off ne mk
        simp only [LCg.Off3, and_true] at off
        k_fold
        k_steps
        · rename_i hc
          exact ⟨_, _, _, rfl, F2, N2, off, .inr ⟨_, .head _, rfl, _, rfl⟩, kci_el (by rw [if_pos (decide_eq_true hc)]) rfl rfl⟩
        · rename_i hc
          exact ⟨_, _, _, rfl, F2, N2, off, .inr ⟨_, .head _, rfl, _, rfl⟩, kci_no (by rw [if_neg (by rw [decide_eq_false hc]; decide)]) rfl⟩
      · unfold KPfDone
        intro zs hzI hzlen
        k_with "call type:bytes" => refine stop_here ?_
        k_steps
        have hM := min_lit hi0 (by assumption) (by assumption) (by assumption)
        have hlb := lEnd_bounds (ks := ks) hi0 (by assumption)
        refine Stop.go ?_
        k_with_none
        k_steps
        rename_i h7 h8 o7 F7 N7 d7
        have htell : tell ks i = (lEnd ks i - i - 1) :: (ks.drop i.toNat).take (lEnd ks i - i).toNat := by unfold tell manyAt; rw [if_neg (by assumption), if_neg (by assumption)]
        have hmany : manyAt ks i = lEnd ks i - i := by unfold manyAt; rw [if_neg (by assumption)]
        have hstep := packR_step hi0 (by assumption)
        have hp : KBw.bInts (KBy.picked b (some i) (some (i + (lEnd ks i - i)))) = (ks.drop i.toNat).take (lEnd ks i - i).toNat := by
          rw [KBc.ints_picked hk]
          simp only [Option.elim]
          rw [clip_nat hi0, clip_nat (by omega)]
          have e1 : min i.toNat ks.length = i.toNat := by omega
          have e2 : min (i + (lEnd ks i - i)).toNat ks.length - i.toNat = (lEnd ks i - i).toNat := by omega
          rw [e1, e2]
        rw [htell, hmany] at hstep
        rw [hM] at F7 d7
        refine ⟨_, _, _, _, _, rfl, fr_eq F7 (pMap_turn2 _ _ _ _ _ _), cb_drop N7 (fun p hp => .tail _ (.tail _ (.tail _ (.tail _ (.tail _ hp))))), ?_, i + (lEnd ks i - i), _, fs ++ [lEnd ks i - i - 1] ++ (ks.drop i.toNat).take (lEnd ks i - i).toNat, _, _, _, _, o7, by omega, by omega, rfl, ?_, ?_, ?_, d7, rfl, rfl⟩
        · omega
        · exact KBw.ints_app (KBw.ints_app hfb (KBa.ints_make (ns := [lEnd ks i - i - 1]) (fun n hn => by rw [List.mem_singleton.mp hn]; omega))) hp
        · rw [← hfs, hstep]
          simp only [List.append_assoc, List.cons_append, List.nil_append]
        · rw [List.length_append, List.length_append, List.length_singleton, List.length_take, List.length_drop]; omega
      · intro l k
        show (if decide (i < k) = true then l ++ [k] else l).length ≤ _
        split <;> simp
    · have hend := packR_end (ks := ks) (i := i) (by omega)
      rw [hend, List.append_nil] at hfs
      refine hret _ _ _ ⟨_, _, rfl, hfb.trans hfs⟩ (by assumption) (cb_drop (by assumption) fun p hp => by repeat (first | exact hp | apply List.Mem.tail))
  · intro l k
    show (if endC ks k = true then l ++ [k] else l).length ≤ _
    split <;> simp

/- C4 -/
section
variable {prog : _root_.PySem.Program} {w : World} {A : Around} {E : Value → Shared → Prop} {s : Shared}
theorem ne_empty {b : Array UInt8} {ks : List Int} {t u : Tok} {Q : Value → Shared → Prop} (hk : KBw.bInts b = ks) (h : Q (.bool (decide (0 < ks.length))) s) : wpAny (model prog w) A (compareOp .NotEq (.bytes b t) (.bytes (List.toArray []) u)) Q E s := by
  refine ne_bytes ?_
  have e : (b.toList != (List.toArray ([] : List UInt8)).toList) = decide (0 < ks.length) := by
    rw [← hk, KBw.ints_length]
    rcases b with ⟨l⟩
    cases l <;> simp
  rw [e]
  exact h
end
local macro_rules | `(tactic| walk_at "compareOp NotEq bytes bytes") => `(tactic| (k_here; (refine ne_empty (by kba_ints) ?_)))
theorem bInts_zeros (n : Nat) : KBw.bInts (Array.replicate n 0) = List.replicate n 0 := by
  unfold KBw.bInts
  simp
local macro_rules | `(tactic| walk_at "call builtin:len") => `(tactic| (k_here; (with_reducible show wpAny _ _ (call (Value.builtin "len") [Value.bytes (Array.replicate _ _) _]) _ _ _); (refine KBw.len_K (bInts_zeros _) (by rw [List.length_replicate]; omega) ?_); (simp only [List.length_replicate])))
local macro_rules | `(tactic| kba_ints) => `(tactic| exact bInts_zeros _)
local macro_rules | `(tactic| kba_size) => `(tactic| (simp only [List.length_replicate, List.length_append, List.length_take, List.length_drop]; omega))
theorem octets_of {b : Array UInt8} {ks : List Int} (hk : KBw.bInts b = ks) : Octets ks := fun k h => KBw.ints_in (b := b) (by rw [hk]; exact h)
/-- the locals of _law_told -/
def tMap (f o fi bo sz : Option Value) : Str → Option Value := fun y => if y = Str.ofString "octets" then o else if y = Str.ofString "found" then f else if y = Str.ofString "body" then bo else if y = Str.ofString "first" then fi else if y = Str.ofString "size" then sz else none
theorem tMap_start (f o sz : Option Value) : (fun y => if y = Str.ofString "found" then f else if y = Str.ofString "size" then sz else if y = Str.ofString "octets" then o else none) = tMap f o none none sz := by
  funext y
  unfold tMap
  by_cases h1 : y = Str.ofString "octets"
  · subst h1; rfl
  · by_cases h2 : y = Str.ofString "found"
    · simp only [if_neg h1, if_pos h2]
    · by_cases h3 : y = Str.ofString "size"
      · subst h3; rfl
      · simp only [if_neg h1, if_neg h2, if_neg h3]
        by_cases h4 : y = Str.ofString "body" <;> by_cases h5 : y = Str.ofString "first" <;> simp only [h4, h5, if_true, if_false, ite_self]
theorem tMap_turn (a b c d f o fi bo sz : Option Value) : (fun y => if y = Str.ofString "octets" then a else if y = Str.ofString "found" then b else if y = Str.ofString "body" then c else if y = Str.ofString "first" then d else tMap f o fi bo sz y) = tMap b a d c sz := by
  funext y
  unfold tMap
  by_cases h1 : y = Str.ofString "octets"
  · simp only [if_pos h1]
  · by_cases h2 : y = Str.ofString "found"
    · simp only [if_neg h1, if_pos h2]
    · by_cases h3 : y = Str.ofString "body"
      · simp only [if_neg h1, if_neg h2, if_pos h3]
      · by_cases h4 : y = Str.ofString "first"
        · simp only [if_neg h1, if_neg h2, if_neg h3, if_pos h4]
        · simp only [if_neg h1, if_neg h2, if_neg h3, if_neg h4]
set_option maxHeartbeats 4000000 in
theorem told_ret (w : World) {b : Array UInt8} {ks : List Int} {t u : Tok} {size : Int} (hk : KBw.bInts b = ks) (hz : ks.length ≤ 10000) (h0 : 0 ≤ size) (h1 : size ≤ 10000) :
    Returns w 91 [.bytes b t, .int size u] (ToldV (unp ks size.toNat)) := by
  unfold Returns KK PP
  k_fill
  intro dp un gd cn cs a ccd cl outer A₀ base h₀ L m p loose mean mg mb news s Q E B F X N T hK hd hu hret
  refine wpAny_call ?_
  k_dflt cell_enter
  rename_i g L' h' FG F' N' B' X' T'
  replace F' := fr_eq (show Fr g L' h' (fun x => List.lookup x [(Str.ofString "size", .int size u), (Str.ofString "octets", .bytes b t)]) from F') (look2 _ _ _ _)
  k_with_none
  k_with "exec While Compare cons nil" => refine stop_here ?_
  k_steps
  refine Stop.go ?_
  rename_i h2 F2 N2
  replace F2 := fr_eq F2 (tMap_start _ _ _)
  refine While_inv2 (fun n m nx => ∃ (fb rb : Array UInt8) (fs rs : List Int) (t1 t2 : Tok) (v1 v2 : Option Value), KBw.bInts fb = fs ∧ KBw.bInts rb = rs ∧ fs.length ≤ size.toNat ∧ rs.length ≤ ks.length ∧ n = size.toNat - fs.length ∧
    (unp rs (size.toNat - fs.length)).map (fs ++ ·) = unp ks size.toNat ∧ nx = news ∧ m = tMap (some (.bytes fb t1)) (some (.bytes rb t2)) v1 v2 (some (.int size u))) F2 N2
    ⟨#[], b, [], ks, _, t, none, none, rfl, hk, Nat.zero_le _, Nat.le_refl _, rfl, by simp, rfl, rfl⟩ ?_
  clear F2 N2
  rintro n m₁ nx h₁ tk₁ F₁ N₁ ⟨fb, rb, fs, rs, t1, t2, v1, v2, hfb, hrb, hfl, hrl, hn, hinv, rfl, rfl⟩
  k_fold
  k_steps
  · dsimp only
    unfold WhileStep2
    dsimp only
    k_unfold
    dsimp only
    refine leaveK_ (by assumption) (by assumption) ?_
    intro kF kN
    refine hret _ _ _ ?_ kF kN
    rw [← hinv, told_none (octets_of hrb) (by assumption) (by assumption) (by assumption) (.inl (by assumption))]
    exact rfl
  · dsimp only
    unfold WhileStep2
    dsimp only
    k_unfold
    dsimp only
    refine leaveK_ (by assumption) (by assumption) ?_
    intro kF kN
    refine hret _ _ _ ?_ kF kN
    rw [← hinv, told_none (octets_of hrb) (by assumption) (by assumption) (by assumption) (.inr (by assumption))]
    exact rfl
  · rename_i F3 N3
    obtain ⟨q1, q2, q3, q4⟩ := told_lit (fs := fs) (octets_of hrb) (by assumption) (by assumption) (by assumption) (by assumption) (by assumption) rfl rfl
    refine ⟨_, _, _, _, _, rfl, fr_eq F3 (tMap_turn _ _ _ _ _ _ _ _ _), N3, ?_, _, _, _, _, _, _, _, _, (by assumption), (by assumption), q1, Nat.le_trans q2 hrl, rfl, q4.trans hinv, rfl, rfl⟩
    omega
  · dsimp only
    unfold WhileStep2
    dsimp only
    k_unfold
    dsimp only
    refine leaveK_ (by assumption) (by assumption) ?_
    intro kF kN
    refine hret _ _ _ ?_ kF kN
    rw [← hinv, told_none_z (octets_of hrb) (by assumption) (by assumption) (by assumption) (by assumption)]
    exact rfl
  · rename_i F3 N3
    obtain ⟨q1, q2, q3, q4⟩ := told_zer (fs := fs) (octets_of hrb) (by assumption) (by assumption) (by assumption) (by assumption) rfl rfl
    refine ⟨_, _, _, _, _, rfl, fr_eq F3 (tMap_turn _ _ _ _ _ _ _ _ _), N3, ?_, _, _, _, _, _, _, _, _, (by assumption), (by assumption), q1, Nat.le_trans q2 hrl, rfl, q4.trans hinv, rfl, rfl⟩
    omega
  · dsimp only
    unfold WhileStep2
    dsimp only
    k_unfold
    dsimp only
    refine leaveK_ (by assumption) (by assumption) ?_
    intro kF kN
    refine hret _ _ _ ?_ kF kN
    rw [← hinv, told_none_e (by assumption) (by assumption)]
    exact rfl
  · refine hret _ _ _ ?_ (by assumption) (by assumption)
    have e : size.toNat - fs.length = 0 := by omega
    rw [← hinv, e, unp_zero]
    exact ⟨fb, t1, rfl, by simp only [List.append_nil]; exact hfb⟩
end Mine

/- S1 -/
namespace Mine
section
variable {M : Model} {A : Around} {E : Value → Shared → Prop} {s : Shared} {env : Env} {pos : Pos}

theorem execsS_cons {st : Stmt} {rest : List Stmt} {Q : Flow → Shared → Prop}
    (h : wpS M A (exec st env) (fun f s' => match f with | .next => wpS M A (execs rest env) Q E s' | f => Q f s') E s) : wpS M A (execs (st :: rest) env) Q E s := by
  rw [execs_cons]
  refine wpS_bind (wpS_mono h (fun f s' h' => ?_) fun _ _ x => x)
  cases f <;> first | exact h' | exact wpS_pure h'
theorem execsS_any {st : Stmt} {rest : List Stmt} {Q : Flow → Shared → Prop}
    (h : wpAny M A (exec st env) (fun f s' => match f with | .next => wpS M A (execs rest env) Q E s' | f => Q f s') E s) : wpS M A (execs (st :: rest) env) Q E s := execsS_cons (wpS_of_any h)
theorem execsS_nil {Q : Flow → Shared → Prop} (h : Q .next s) : wpS M A (execs [] env) Q E s := wpS_pure h
theorem IfS {test : Expr} {body orelse : List Stmt} {Q : Flow → Shared → Prop}
    (h : wpAny M A (isTrue test env (eval test env)) (fun b s₂ => if b = true then wpS M A (execs body env) Q E s₂ else wpS M A (execs orelse env) Q E s₂) E s) :
    wpS M A (exec (.If test body orelse pos) env) Q E s := by
  rw [exec_If]
  refine wpS_seq (wpAny_standAt (wpS_seq (wpAny_mono h (fun b s₂ h₂ => ?_) fun _ _ x => x)))
  cases b <;> exact h₂
theorem IfS' {test : Expr} {body orelse : List Stmt} {Q : Flow → Shared → Prop}
    (h : wpS M A (isTrue test env (eval test env)) (fun b s₂ => if b = true then wpS M A (execs body env) Q E s₂ else wpS M A (execs orelse env) Q E s₂) E s) :
    wpS M A (exec (.If test body orelse pos) env) Q E s := by
  rw [exec_If]
  refine wpS_seq (wpAny_standAt (wpS_bind (wpS_mono h (fun b s₂ h₂ => ?_) fun _ _ x => x)))
  cases b <;> exact h₂
theorem ReturnS {e : Expr} {Q : Flow → Shared → Prop} (h : wpS M A (eval e env) (fun v => Q (.ret v)) E s) : wpS M A (exec (.Return (some e) pos) env) Q E s := by
  rw [exec_Return_some]
  exact wpS_seq (wpAny_standAt (wpS_bind (wpS_mono h (fun _ _ h' => wpS_pure h') fun _ _ x => x)))
theorem AssignS_Name {x : Str} {pos' : Pos} {value : Expr} {Q : Flow → Shared → Prop}
    (h : wpS M A (eval value env) (fun v s₁ => wpAny M A (storeName env x v) (fun _ => Q .next) E s₁) E s)
    (hs : swapsWith value (some (.Name x pos')) pos.line env = pure false := by rfl) :
    wpS M A (exec (.Assign [.Name x pos'] value pos) env) Q E s := by
  rw [exec_Assign_Name env x pos' value pos hs]
  refine wpS_seq (wpAny_standAt (wpS_bind (wpS_mono h (fun v s₁ h₁ => ?_) fun _ _ x => x)))
  refine wpS_seq (wpAny_standAt (wpS_seq (wpAny_bindName (wpAny_mono h₁ (fun _ _ q => wpS_pure q) fun _ _ x => x))))
theorem AssignS_swapped {elts : List Expr} {k : Nat} {tpos : Pos} {value : Expr} {names : List Str} {Q : Flow → Shared → Prop}
    (h : wpS M A (eval value env) (fun v s₁ => wpAny M A (unpackItems v names.length none) (fun items s₂ =>
      wpAny M A (assignInOrder (names.reverse.map fun n => bindName env n) items.reverse) (fun _ => Q .next) E s₂) E s₁) E s)
    (hs : swapsWithSole [.Tuple elts k tpos] value pos.line env = pure false := by rfl)
    (hw : swappedStores [.Tuple elts k tpos] value env = pure (some names) := by rfl) :
    wpS M A (exec (.Assign [.Tuple elts k tpos] value pos) env) Q E s := by
  rw [exec_Assign]
  refine wpS_seq (wpAny_standAt ?_)
  rw [hs]
  refine wpS_seq (wpAny_pure ?_)
  rw [if_neg (by decide)]
  refine wpS_bind (wpS_mono h (fun v s₁ h₁ => ?_) fun _ _ x => x)
  rw [hw]
  refine wpS_seq (wpAny_pure ?_)
  show wpS M A (do rule "assign.swapped-stores"; let items ← unpackItems v names.length none; assignInOrder (names.reverse.map fun n => bindName env n) items.reverse; pure .next) Q E s₁
  exact wpS_of_any (wpAny_bind (wpAny_rule (wpAny_bind (wpAny_mono h₁ (fun items s₂ h₂ => wpAny_bind (wpAny_mono h₂ (fun _ _ x => wpAny_pure x) fun _ _ x => x)) fun _ _ x => x))))

theorem itemsS_nil {Q : List Value → Shared → Prop} (h : Q [] s) : wpS M A (spliced (backTo pos (starEach [] env))) Q E s := wpS_pure h
theorem itemsS_cons {e : Expr} {rest : List Expr} {Q : List Value → Shared → Prop}
    (h : wpS M A (eval e env) (fun v s₁ => wpS M A (spliced (backTo pos (starEach rest env))) (fun vs s₂ => Q (v :: vs) s₂) E s₁) E s)
    (he : starEach (e :: rest) env = (false, eval e env) :: starEach rest env := by rfl) : wpS M A (spliced (backTo pos (starEach (e :: rest) env))) Q E s := by
  rw [he]
  show wpS M A (do
    let v ← eval e env
    let here ← (pure [v] : Sem (List Value))
    return here ++ (← holding here (spliced (backTo pos (starEach rest env))))) Q E s
  exact wpS_bind (wpS_mono h (fun v s₁ h₁ => wpS_seq (wpAny_pure (wpS_bind (wpS_holding (wpS_mono h₁ (fun vs s₂ h₂ => wpS_pure h₂) fun _ _ x => x))))) fun _ _ x => x)
theorem TupleS {elts : List Expr} {k : Nat} {Q : Value → Shared → Prop}
    (h : wpS M A (spliced (backTo pos (starEach elts env)))
      (fun vs s₁ => vs.length ≤ sizeLine ∧ Q (.ref s₁.heap.objs.size) { s₁ with heap := s₁.heap.push { cls := .type "tuple", data := .seq vs.toArray } }) E s) : wpS M A (eval (.Tuple elts k pos) env) Q E s := by
  rw [arm_eval_Tuple]
  exact wpS_seq (wpAny_standAt (wpS_bind (wpS_mono h (fun vs s₁ h₁ => wpS_of_any (wpAny_newObj_type h₁.2 (by show vs.toArray.size ≤ sizeLine; rw [List.size_toArray]; exact h₁.1))) fun _ _ x => x)))
theorem ListS {elts : List Expr} {Q : Value → Shared → Prop}
    (h : wpS M A (spliced (backTo pos (starEach elts env)))
      (fun vs s₁ => vs.length ≤ sizeLine ∧ Q (.ref s₁.heap.objs.size) { s₁ with heap := s₁.heap.push { cls := .type "list", data := .seq vs.toArray } }) E s) : wpS M A (eval (.List elts pos) env) Q E s := by
  rw [arm_eval_List]
  exact wpS_seq (wpAny_standAt (wpS_bind (wpS_mono h (fun vs s₁ h₁ => wpS_of_any (wpAny_newObj_type h₁.2 (by show vs.toArray.size ≤ sizeLine; rw [List.size_toArray]; exact h₁.1))) fun _ _ x => x)))

/-- a call of a plain name: first the name, then the arguments, then the call -/
theorem CallS {x : Str} {p : Pos} {args : List Expr} {Q : Value → Shared → Prop}
    (h : wpAny M A (eval (.Name x p) env) (fun f s₁ => wpS M A (callWith pos f [] (backTo pos (starEach args env)) []) Q E s₁) E s) :
    wpS M A (eval (.Call (.Name x p) args [] pos) env) Q E s := by
  show wpS M A (do callWith pos (← eval (.Name x p) env) [] (backTo pos (starEach args env)) (backToKw pos (keywordEach [] env))) Q E s
  exact wpS_seq h
theorem callWithS_of {f : Value} {first : List Value} {args : List (Bool × Sem Value)} {Q : Value → Shared → Prop} (hst : (args.any (·.1) || ([] : List (Option Str × Sem Value)).any (·.1.isNone)) = false)
    (h : wpAny M A (evalArgs f true args []) (fun a s₁ => (∃ k, (k = Keeper.frame ∨ k = Keeper.machine ∨ k = Keeper.boundFrame) ∧ Looks M s₁.heap (keeperOf f) k) ∧ wpS M A (call f (first ++ a.pos) a.kw) Q E s₁) E s) :
    wpS M A (callWith pos f first args []) Q E s := by
  unfold callWith
  refine wpS_seq (wpAny_holding (wpAny_mono h (fun a s₁ h₁ => wpS_seq (wpAny_standAt ?_)) fun _ _ x => x))
  obtain ⟨⟨k, hk', L⟩, h₂⟩ := h₁
  simp only [hst]
  refine wpS_seq (L.here ?_)
  have tail : ∀ {t : Sem Value}, wpS M A t Q E s₁ → wpS M A (t >>= fun r => holding [r] point >>= fun _ => pure r) Q E s₁ :=
    fun ht => wpS_bind (wpS_mono ht (fun r s₂ hr => wpS_seq (wpAny_holding (wpAny_point (wpS_pure hr)))) fun _ _ x => x)
  have marked (mk : Value) : wpS M A (callMarked mk f (first ++ a.pos) a.kw) Q E s₁ := by
    unfold callMarked
    exact fun Γ p h1 h2 h3 => by rw [Sem.wp_keep]; exact h₂ Γ p h1 h2 h3
  rcases hk' with rfl | rfl | rfl <;> dsimp only <;> first | exact tail h₂ | (split <;> first | exact tail h₂ | exact tail (marked _))

/-- a call of a written def with plain arguments -/
theorem callWithS_K {K : Frag} {f : Value} {e : Expr} {rest : List Expr} {Q : Value → Shared → Prop} (hk : keepIn K f = true)
    (h : wpAny M A (spliced (backTo pos (starEach (e :: rest) env))) (fun vs s₁ => Stop (K.In s₁.heap ∧ wpS M A (call f vs) Q E s₁)) E s)
    (he : starEach (e :: rest) env = (false, eval e env) :: starEach rest env := by rfl) (hplain : (backTo pos (starEach rest env)).any (·.1) = false := by rfl) :
    wpS M A (callWith pos f [] (backTo pos (starEach (e :: rest) env)) []) Q E s := by
  rw [he] at h ⊢
  refine callWithS_of (by show ((false || (backTo pos (starEach rest env)).any (·.1)) || false) = false; rw [hplain]; rfl) (evalArgs_plain (wpAny_mono h (fun vs s₁ h₁ => ?_) fun _ _ x => x))
  exact ⟨keeps_K hk _ h₁.1, h₁.2⟩
theorem callWithS_type0 {T : String} {Q : Value → Shared → Prop} (h : wpS M A (call (.type T) []) Q E s) :
    wpS M A (callWith pos (.type T) [] (backTo pos (starEach [] env)) []) Q E s :=
  callWithS_of rfl (evalArgs_nil3 ⟨⟨.machine, .inr (.inl rfl), .now⟩, h⟩)
theorem callWithS_builtin1 {id : String} {v : Value} {e : Expr} {Q : Value → Shared → Prop}
    (h : wpAny M A (eval e env) (fun u s₁ => wpS M A (call (.builtin id) [v, u]) Q E s₁) E s) (he : starEach [e] env = [(false, eval e env)]) :
    wpS M A (callWith pos (.builtin id) [v] (backTo pos (starEach [e] env)) []) Q E s := by
  rw [he]
  exact callWithS_of rfl (evalArgs_plain (spliced_cons (wpAny_mono h (fun u s₁ h₁ => spliced_nil ⟨⟨.machine, .inr (.inl rfl), .now⟩, h₁⟩) fun _ _ x => x)))
end

section
variable {prog : _root_.PySem.Program} {w : World} {A : Around} {E : Value → Shared → Prop} {s : Shared} {env : Env} {pos : Pos}
theorem whileS_loop {R : Result → Shared → Prop} {test : Expr} {body : List Stmt} (I : Nat → Shared → Prop)
    (turn : ∀ n s, I n s →
      wpAny (model prog w) A (isTrue test env (eval test env)) (fun b s₂ =>
        if b = true then wpS (model prog w) A (execs body env) (fun f s₃ => match f with
            | .next | .cont => ∃ m, m < n ∧ I m s₃
            | .brk => R (.ok .next) s₃
            | .ret v => R (.ok (.ret v)) s₃) (notedBy (model prog w) A env fun e s' => R (.error e) s') s₂
        else R (.ok .next) s₂)
        (notedBy (model prog w) A env fun e s' => R (.error e) s') s)
    (n : Nat) (h : I n s) : codeS (model prog w) A (.whileLoop test body [] env) R s := by
  refine codeS_loop rfl rfl I (fun n s hI => ?_) n h
  show wpS _ A ((whileTurn test body [] env).onRaise (fun x => do noteFrame x env; theTreesLotGoes x)) _ _ s
  have noted : ∀ {m : Sem Fin} {Q : Fin → Shared → Prop}, wpS (model prog w) A m Q (notedBy (model prog w) A env fun e s' => R (.error e) s') s →
      wpS (model prog w) A (m.onRaise fun x => do noteFrame x env; theTreesLotGoes x) Q (fun e s' => R (.error e) s') s := fun h =>
    wpS_onRaise (wpS_mono h (fun _ _ q => q) fun _ _ hx => wpS_of_any (wpAny_bind (wpAny_mono hx (fun _ _ e => wpAny_theTreesLotGoes e) fun _ _ e => e)))
  refine noted ?_
  simp only [whileTurn]
  refine wpS_seq (wpAny_mono (turn n s hI) (fun b s₂ h₂ => ?_) fun _ _ h' => h')
  cases b with
  | false =>
    simp only [Bool.false_eq_true, if_false] at h₂ ⊢
    exact wpS_bind (wpS_pure (wpS_pure h₂))
  | true =>
    simp only [if_true] at h₂ ⊢
    refine wpS_bind (wpS_mono h₂ (fun f s₃ h₃ => ?_) fun _ _ h' => h')
    cases f with
    | next => exact wpS_pure ⟨rfl, h₃⟩
    | cont => exact wpS_pure ⟨rfl, h₃⟩
    | brk => exact wpS_pure h₃
    | ret v => exact wpS_pure h₃
theorem WhileS {test : Expr} {body : List Stmt} {Q : Flow → Shared → Prop}
    (h : codeS (model prog w) A (.whileLoop test body [] env) (fun r s' => match r with | .ok f => Q f s' | .error e => cameBackBy (model prog w) A env E e s') s) :
    wpS (model prog w) A (exec (.While test body [] pos) env) Q E s := by
  rw [exec_While]
  refine wpS_seq (wpAny_standAt ?_)
  unfold runOwn
  exact wpS_onRaise (wpS_mono (wpS_run h) (fun _ _ q => q) fun _ _ q => wpS_of_any q)
theorem WhileS_inv {h₀ : Heap} {L : Addr} {test : Expr} {body : List Stmt} {Q : Flow → Shared → Prop} {m : Str → Option Value} {news : List (Addr × Obj)} (J : Nat → (Str → Option Value) → List (Addr × Obj) → Prop) {n₀ : Nat}
    (F : Fr h₀ L s.heap m) (N : News h₀ L s.heap news) (hJ : J n₀ m news)
    (turn : ∀ n m₁ news₁ h₁ tk₁, Fr h₀ L h₁ m₁ → News h₀ L h₁ news₁ → J n m₁ news₁ →
      wpAny (model prog w) A (isTrue test env (eval test env)) (fun b s₂ =>
        if b = true then wpS (model prog w) A (execs body env) (WhileStep2 h₀ L s J Q n) E s₂ else Q .next s₂) E { s with heap := h₁, toks := tk₁ })
    (hE : PassesOwn (model prog w) A env E := by passes_own) :
    wpS (model prog w) A (exec (.While test body [] pos) env) Q E s := by
  refine WhileS (whileS_loop (fun n s' => ∃ h₁ tk₁ m₁ news₁, s' = { s with heap := h₁, toks := tk₁ } ∧ Fr h₀ L h₁ m₁ ∧ News h₀ L h₁ news₁ ∧ J n m₁ news₁) ?_ n₀ ⟨s.heap, s.toks, m, news, rfl, F, N, hJ⟩)
  rintro n s' ⟨h₁, tk₁, m₁, news₁, rfl, F₁, N₁, J₁⟩
  refine wpAny_mono (turn n m₁ news₁ h₁ tk₁ F₁ N₁ J₁) (fun b s₂ h₂ => ?_) hE
  cases b with
  | false =>
    simp only [Bool.false_eq_true, if_false] at h₂ ⊢
    exact h₂
  | true =>
    simp only [if_true] at h₂ ⊢
    refine wpS_mono h₂ (fun f s₃ h₃ => ?_) hE
    cases f with
    | next => obtain ⟨h', tk, m₂, news₂, n', rfl, F₂, N₂, hn, J₂⟩ := h₃; exact ⟨n', hn, h', tk, m₂, news₂, rfl, F₂, N₂, J₂⟩
    | cont => obtain ⟨h', tk, m₂, news₂, n', rfl, F₂, N₂, hn, J₂⟩ := h₃; exact ⟨n', hn, h', tk, m₂, news₂, rfl, F₂, N₂, J₂⟩
    | brk => exact h₃
    | ret v => exact h₃

/-- x.append(e) and x.extend(e) as a statement -/
theorem ExprS_method {x name : Str} {id : String} {p apos mpos : Pos} {e : Expr} {D : Addr} {b : Array UInt8} {Q : Flow → Shared → Prop} (slot : Slot "bytearray" name id)
    (hty : typeOf (.builtin id) = pure (.type "method_descriptor")) (hline : (apos.endLine == mpos.line) = true)
    (h : wpAny (model prog w) A (eval (.Name x p) env) (fun ov s₁ => Stop (ov = .ref D ∧ s₁.heap.get? D = some (baObj b) ∧
      wpAny (model prog w) A (eval e env) (fun u s₂ => wpS (model prog w) A (call (.builtin id) [.ref D, u]) (fun v s₃ => v = .none ∧ Q .next s₃) E s₂) E s₁)) E s)
    (he : starEach [e] env = [(false, eval e env)] := by rfl) (hi : interactive env = false := by rfl)
    (hs : swapsWith (.Call (.Attribute (.Name x p) name apos) [e] [] mpos) none pos.line env = pure false := by rfl) :
    wpS (model prog w) A (exec (.Expr (.Call (.Attribute (.Name x p) name apos) [e] [] mpos) pos) env) Q E s := by
  rw [exec_Expr env _ pos hi hs]
  refine wpS_seq (wpAny_standAt ?_)
  rw [arm_eval_Call]
  refine wpS_bind (wpS_seq (m := eval (.Name x p) env) (wpAny_mono h (fun ov s₁ h₁ => ?_) fun _ _ q => q))
  obtain ⟨rfl, ho, h₁⟩ := h₁
  refine wpS_seq (wpAny_standAt ?_)
  have hpos : methodCallPos true (.Name x p) env apos mpos = pure mpos := by unfold methodCallPos; simp [hline]
  have hform : methodCallForm ([e].length + ([] : List Keyword).length) (backTo mpos (starEach [e] env)) (backToKw mpos (keywordEach [] env)) = true := by rw [he]; rfl
  unfold methodCall
  rw [hform]
  refine wpS_seq (wpAny_holding (getMethod_builtin (ba_typeIs ho) ba_plainAttrs slot hty (fun a ea => ⟨_, (Value.ref.inj ea) ▸ ho, rfl⟩) ?_))
  refine wpS_seq (wpAny_of_eq hpos ?_)
  refine callWithS_builtin1 (wpAny_mono h₁ (fun u s₂ h₂ => wpS_mono h₂ (fun v s₃ h₃ => ?_) fun _ _ q => q) fun _ _ q => q) he
  obtain ⟨rfl, h₃⟩ := h₃
  rw [dropValue_plain (fun a => by intro q; cases q)]
  exact wpS_pure h₃

theorem codeS_func {R : Result → Shared → Prop} {body : List Stmt}
    (h : wpS (model prog w) (A.deeper env) (execs body env) (fun f s' => R (.ok (.ret (match f with | .ret v => v | _ => .none))) s')
      (fun e s' => wpAny (model prog w) (A.deeper env) (leaving env e) (fun _ s'' => R (.error e) s'') (fun e' s'' => R (.error e') s'') s') s) :
    codeS (model prog w) A (.func body env) R s := by
  refine codeS_of_tree rfl ?_
  show wpS _ (A.deeper env) (do point; match ← (execs body env).onRaise (leaving env) with | .ret v => ret v | _ => ret .none) _ _ s
  refine wpS_seq (wpAny_point (wpS_bind (wpS_onRaise (wpS_mono h (fun f s' h' => ?_) fun _ _ h' => wpS_of_any h'))))
  cases f <;> exact wpS_pure h'
theorem codeS_call_function {R : Result → Shared → Prop} {a : Addr} {args : Args} {o : Obj} {fd : FuncData} {body : List Stmt} (hroom : A.depth < recursionLimit)
    (ho : s.heap.get? a = some o)
    (hd' : o.data = .func fd) (hco : fd.scope.isCoroutine = false) (hgen : fd.scope.isGenerator = false) (hbody : fd.body = .stmts body) (hcd : s.heap.CodeRec fd.code fd.qualname)
    (h : wpAny (model prog w) A.in1 (bindArgs fd args) (fun binds s₁ =>
      wpAny (model prog w) A.in1 (newFunctionEnv fd.scope fd.globals fd.closure binds (fd.qualname ++ ".<locals>.") (some a) fd.code none fd.builtins)
        (fun env s₂ => s₂.heap.NoLimit ∧ codeS (model prog w) A (.func body env) R s₂) (fun e s' => R (.error e) s') s₁) (fun e s' => R (.error e) s') s) :
    codeS (model prog w) A (.call (.ref a) args) R s := by
  refine codeS_of_tree rfl ?_
  show wpS _ A.in1 (callAny (.ref a) args) _ _ s
  simp only [callAny]
  refine wpS_seq (wpAny_load ho ?_)
  obtain ⟨c, oc, vs, tq, hc, hoc, hdc, hq⟩ := hcd
  simp only [hd', callFunction, hco, hgen, hbody, hc]
  rw [hc] at h
  refine wpS_seq (m := field (.ref c) 1) (wpAny_field hoc hdc hq (wpS_seq (wpAny_pure ?_)))
  exact wpS_seq (wpAny_mono h (fun binds s₁ h₁ => wpS_seq (wpAny_mono h₁ (fun env s₂ h₂ => wpS_seq (wpAny_enterFrame h₂.1 hroom
    (wpS_pure (And.intro rfl h₂.2)))) fun _ _ h' => h')) fun _ _ h' => h')
end

section
variable {prog : _root_.PySem.Program} {w : World} {A A₀ : Around} {s : Shared} {K : Frag} {L : Addr} {h₀ base : Heap} {m mg mb : Str → Option Value} {news : List (Addr × Obj)} {p : _root_.PySem.Program} {loose : List Str} {mean : ExcName → Option Value}
theorem codeS_def {env : Env} {outer : List Env} {R : Result → Shared → Prop} {name qual : Str} {params : Arguments} {body : List Stmt} {scope : Scope} {dV kV doc pm cdv ct oc : Value} {an od : Option Addr} {osl : Array (Option Value)} {f : Addr} {args : Args} {binds : List (Str × Value)}
    (B : Below A₀ base outer h₀) (F : Fr h₀ L s.heap m) (X₀ : K.In h₀) (N : News h₀ L s.heap news) (T : Top p loose mean mg mb h₀) (hA : A.frames = some (env :: outer)) (hf : env.frame = some L) (hke : env.scope.kind = .function)
    (ho : K.lookup f = some ⟨oc, od, .func (fnOf name qual params body scope dV kV doc pm an cdv ct), osl⟩) (hcd : codeIn K cdv qual = true) (hroom : A.depth < recursionLimit)
    (hbind : BindsTo s (fnOf name qual params body scope dV kV doc pm an cdv ct) args binds) (hloc : ∀ y ∈ binds, scope.names.lookup y.1 = some .local)
    (h : ∀ g L' h₁, Fr h₀ L g m → Fr g L' h₁ (fun y => binds.reverse.lookup y) → News g L' h₁ news → Below A base (env :: outer) g → K.In g → Top p loose mean mg mb g →
      wpS (model prog w) (A.deeper (envOf qual scope L' f cdv)) (execs body (envOf qual scope L' f cdv))
        (fun fl s' => LeaveK h₀ L m g R (match fl with | .ret v => v | _ => .none) s')
        (fun e s' => wpAny (model prog w) (A.deeper (envOf qual scope L' f cdv)) (leaving (envOf qual scope L' f cdv) e) (fun _ s'' => R (.error e) s'') (fun e' s'' => R (.error e') s'') s')
        { s with heap := h₁, toks := s.toks + binds.length })
    (hco : scope.isCoroutine = false) (hgen : scope.isGenerator = false) (hk : scope.kind = .function)
    (hcell : ∀ x ∈ scope.names, x.2 ≠ .cell) : codeS (model prog w) A (.call (.ref f) args) R s := by
  have X := X₀.keeps F.keep
  obtain ⟨FG, BG, st, lv⟩ := groundX (R := R) B F N hA hf hke
  refine codeS_call_function hroom (X _ _ ho) rfl hco hgen rfl (codeRec_of X hcd) (hbind _ _ _ _ ?_)
  refine wpAny_newFunctionEnv hcell hloc (fun h₁ hns₀ hsb₀ => ⟨(T.nolimit.keeps F.keep).fresh _ hsb₀, codeS_func ?_⟩) hk
  have hk₁ : ∀ b o, s.heap.get? b = some o → h₁.get? b = some o := fun b o e => hsb₀.extBut b o (Nat.ne_of_lt (Heap.lt_size e)) (Heap.get?_push_of_some _ e)
  exact wpS_mono (h _ s.heap.objs.size h₁ FG ⟨hns₀, fun b o e => hk₁ b o (of_hideAll _ e), Nat.le_of_eq (hideAll_size _ _)⟩
    (fun p hp => ⟨hk₁ _ _ (N p hp).1, Nat.ne_of_lt (Heap.lt_size (N p hp).1), hideAll_none _ (List.mem_map_of_mem hp)⟩) BG (X₀.keeps st) (T.keeps st)) (fun fl s' hl => lv _ _ hl) fun _ _ y => y
end
end Mine

/- S2 -/
namespace Mine
theorem bInts_push {b : Array UInt8} {fs : List Int} {n : Int} (hb : KBw.bInts b = fs) (h0 : 0 ≤ n) (h1 : n < 256) : KBw.bInts (b.push n.toNat.toUInt8) = fs ++ [n] := by
  subst hb
  have e : ((n.toNat.toUInt8).toNat : Int) = n := by
    have : n.toNat.toUInt8.toNat = n.toNat := by
      show n.toNat % 2 ^ 8 = n.toNat
      omega
    omega
  unfold KBw.bInts
  simp
  omega
section
variable {prog : _root_.PySem.Program} {w : World} {A : Around} {E : Value → Shared → Prop} {s : Shared} {h₀ : Heap} {L D : Addr} {m : Str → Option Value} {news : List (Addr × Obj)} {b : Array UInt8} {fs : List Int}
theorem ba_newK {Q : Value → Shared → Prop} (hg : A.guards = some []) (F : Fr h₀ L s.heap m) (N : News h₀ L s.heap news)
    (hQ : ∀ D h', Fr h₀ L h' m → News h₀ L h' ((D, baObj #[]) :: news) → (∀ p ∈ news, p.1 ≠ D) → Q (.ref D) { s with heap := h' }) : wpS (model prog w) A (call (.type "bytearray") []) Q E s := by
  refine call_ba_new hg fun h' hk hD => hQ _ h' (F.after hk) (fun p hp => ?_) (N.apart)
  rcases List.mem_cons.mp hp with rfl | hp
  · exact ⟨hD, Nat.ne_of_gt F.ns.lt, F.fresh⟩
  · exact ⟨hk _ _ (N p hp).1, (N p hp).2⟩
theorem ba_upd {f : Array UInt8 → Array UInt8} (F : Fr h₀ L s.heap m) (N : News h₀ L s.heap ((D, baObj b) :: news)) (hne : ∀ p ∈ news, p.1 ≠ D) :
    Fr h₀ L (s.heap.update D (Obj.mapBytearray f)) m ∧ News h₀ L (s.heap.update D (Obj.mapBytearray f)) ((D, baObj (f b)) :: news) := by
  have hD := N _ (.head _)
  have h2 : (s.heap.update D (Obj.mapBytearray f)).get? D = some (baObj (f b)) := Heap.get?_update_self (Obj.mapBytearray f) hD.1 rfl
  have hs : Heap.SameBut D s.heap (s.heap.update D (Obj.mapBytearray f)) := ⟨by simp [Heap.update], fun x hx => Heap.get?_update_ne _ _ _ _ hx⟩
  exact ⟨F.change hs hD.2.1 hD.2.2, N.setHead hne hs h2⟩
theorem ba_appendK {n : Int} {u : Tok} {Q : Value → Shared → Prop} (hg : A.guards = some []) (F : Fr h₀ L s.heap m) (N : News h₀ L s.heap ((D, baObj b) :: news)) (hne : ∀ p ∈ news, p.1 ≠ D)
    (hb : KBw.bInts b = fs) (hz : fs.length < 16777216) (h0 : 0 ≤ n) (h1 : n < 256)
    (hQ : ∀ h' b', Fr h₀ L h' m → News h₀ L h' ((D, baObj b') :: news) → KBw.bInts b' = fs ++ [n] → Q .none { s with heap := h' }) : wpS (model prog w) A (call (.builtin "bytearray.append") [.ref D, .int n u]) Q E s := by
  have hlen : fs.length = b.size := by rw [← hb, KBw.ints_length]
  refine ba_append hg (N _ (.head _)).1 h0 h1 (by omega) ?_
  have x := ba_upd (f := (·.push n.toNat.toUInt8)) F N hne
  exact hQ _ _ x.1 x.2 (bInts_push hb h0 h1)
theorem ba_extendK {c : Array UInt8} {u : Tok} {cs : List Int} {Q : Value → Shared → Prop} (hg : A.guards = some []) (F : Fr h₀ L s.heap m) (N : News h₀ L s.heap ((D, baObj b) :: news)) (hne : ∀ p ∈ news, p.1 ≠ D)
    (hb : KBw.bInts b = fs) (hc : KBw.bInts c = cs) (hz : fs.length + cs.length ≤ 16777216)
    (hQ : ∀ h' b', Fr h₀ L h' m → News h₀ L h' ((D, baObj b') :: news) → KBw.bInts b' = fs ++ cs → Q .none { s with heap := h' }) : wpS (model prog w) A (call (.builtin "bytearray.extend") [.ref D, .bytes c u]) Q E s := by
  have hlen : fs.length = b.size := by rw [← hb, KBw.ints_length]
  have hlen2 : cs.length = c.size := by rw [← hc, KBw.ints_length]
  refine ba_extend hg (N _ (.head _)).1 (by omega) ?_
  have x := ba_upd (f := (· ++ c)) F N hne
  exact hQ _ _ x.1 x.2 (KBw.ints_app hb hc)
theorem ba_lenK {Q : Value → Shared → Prop} (N : News h₀ L s.heap news) (hm : (D, baObj b) ∈ news) (hb : KBw.bInts b = fs) (hz : fs.length ≤ 16777216)
    (hQ : ∀ t k, Q (.int fs.length t) { s with toks := k }) : wpAny (model prog w) A (call (.builtin "len") [.ref D]) Q E s := by
  have hlen : fs.length = b.size := by rw [← hb, KBw.ints_length]
  refine ba_len (N _ hm).1 (by omega) fun t k => ?_
  rw [← hlen]
  exact hQ t k
theorem ba_bytesK {Q : Value → Shared → Prop} (N : News h₀ L s.heap news) (hm : (D, baObj b) ∈ news) (hb : KBw.bInts b = fs) (hz : fs.length ≤ 16777216)
    (hQ : ∀ t k, Q (.bytes b t) { s with toks := k }) : wpAny (model prog w) A (call (.type "bytes") [.ref D]) Q E s := by
  have hlen : fs.length = b.size := by rw [← hb, KBw.ints_length]
  exact call_bytes_ba (N _ hm).1 (by omega) hQ
end
theorem TupleSK {M : Model} {A : Around} {E : Value → Shared → Prop} {s : Shared} {env : Env} {pos : Pos} {elts : List Expr} {k : Nat} {Q : Value → Shared → Prop}
    (h : wpS M A (spliced (backTo pos (starEach elts env)))
      (fun vs s₁ => vs.length ≤ sizeLine ∧ ∃ h₀ L m news, Fr h₀ L s₁.heap m ∧ News h₀ L s₁.heap news ∧
        ∀ T h', Fr h₀ L h' m → News h₀ L h' ((T, ({ cls := .type "tuple", data := .seq vs.toArray } : Obj)) :: news) → Q (.ref T) { s₁ with heap := h' }) E s) : wpS M A (eval (.Tuple elts k pos) env) Q E s :=
  TupleS (wpS_mono h (fun vs s₁ ⟨h1, _, _, _, _, F, N, hQ⟩ => ⟨h1, hQ _ _ (F.push _) (News.push F N _)⟩) fun _ _ x => x)
theorem ListSK {M : Model} {A : Around} {E : Value → Shared → Prop} {s : Shared} {env : Env} {pos : Pos} {elts : List Expr} {Q : Value → Shared → Prop}
    (h : wpS M A (spliced (backTo pos (starEach elts env)))
      (fun vs s₁ => vs.length ≤ sizeLine ∧ ∃ h₀ L m news, Fr h₀ L s₁.heap m ∧ News h₀ L s₁.heap news ∧
        ∀ T h', Fr h₀ L h' m → News h₀ L h' ((T, ({ cls := .type "list", data := .seq vs.toArray } : Obj)) :: news) → Q (.ref T) { s₁ with heap := h' }) E s) : wpS M A (eval (.List elts pos) env) Q E s :=
  ListS (wpS_mono h (fun vs s₁ ⟨h1, _, _, _, _, F, N, hQ⟩ => ⟨h1, hQ _ _ (F.push _) (News.push F N _)⟩) fun _ _ x => x)
/-- as Returns, in wpS and below no guard -/
noncomputable def ReturnsS (w : World) (f : Addr) (args : List Value) (R : Value → Prop) : Prop :=
  ∀ (dp un : Nat) (cn : Str) (cs : Scope) (a : Addr) (ccd : Value) (cl : List (Str × Addr)) (outer : List Env) (A₀ : Around) (base h₀ : Heap) (L : Addr) (m : Str → Option Value)
    (p : _root_.PySem.Program) (loose : List Str) (mean : ExcName → Option Value) (mg mb : Str → Option Value) (news : List (Addr × Obj)) (s : Shared) (Q E : Value → Shared → Prop),
    Below A₀ base outer h₀ → Fr h₀ L s.heap m → (KK w).In h₀ → News h₀ L s.heap news → Top p loose mean mg mb h₀ → cs.kind = .function →
    dp + 10 < recursionLimit → un + 100 < cLine →
    (∀ v h' tk', R v → Fr h₀ L h' m → News h₀ L h' news → Q v { s with heap := h', toks := tk' }) →
    wpS (model PP w) (ktrTop dp un (some []) cn cs L a ccd cl outer) (call (.ref f) args) Q E s
end Mine

/- X0 -/
namespace Mine
abbrev excO (t : Addr) : Obj := { cls := .ref 44, data := .fields #[.ref t, .none, .none, .none, .bool false, .none] }
abbrev tupO (vs : List Value) : Obj := { cls := .type "tuple", data := .seq vs.toArray }
abbrev bm44 : List Value := [.ref 31, .type "Exception", .type "BaseException", .type "object"]
/-- the class Corrupt as it stands -/
abbrev clsO : Obj := excClassObj (Str.ofString "Corrupt") (Str.ofString "Corrupt") 44 43 [.ref 31] bm44 true [] [] false none none (some (.ref 35)) none (some (.str (Str.ofString "Corrupt") 218)) (some (.str (Str.ofString "Corrupt") 226)) (some (.bool true)) "Exception.__new__"
/-- what is read of the two classes -/
structure ClsAt (M : Model) (h : Heap) : Prop where
  obj : h.get? 44 = some clsO
  init : Looks M h (typeLookup (.ref 44) "__init__") (some (.ref 28))
  fn : ∃ o, h.get? 28 = some o ∧ o.cls = .type "function"
  seta : Looks M h (typeLookup (.ref 44) "__setattr__") (some (.builtin "object.__setattr__"))
  why : Looks M h (typeLookup (.ref 44) (Str.ofString "why")) none
theorem ClsAt.keeps {M : Model} {h h' : Heap} (x : ClsAt M h) (k : ∀ b o, h.get? b = some o → h'.get? b = some o) : ClsAt M h' :=
  ⟨k _ _ x.obj, x.init.keeps k, x.fn.imp fun o y => ⟨k _ _ y.1, y.2⟩, x.seta.keeps k, x.why.keeps k⟩
def ClsK (w : World) : Prop := ∀ (prog : _root_.PySem.Program) (w' : World) (h : Heap), (KK w).In h → PP = PP → ClsAt (model prog w') h
theorem clsK (w : World) : ClsK w := by
  unfold ClsK KK PP
  k_fill
  intro prog w' h X _
  refine ⟨X _ _ (by k_dflt k_is), looks_findIn X (by k_dflt k_is), ⟨_, X _ _ (by k_dflt k_is), rfl⟩, looks_findIn X (by k_dflt k_is), looks_findIn X (by k_dflt k_is)⟩
section
variable {prog : _root_.PySem.Program} {w : World} {A : Around} {E : Value → Shared → Prop} {h : Heap} {g : Array GenState} {d : Drawn} {tk : Nat} {os : OsState} {e t : Addr} {v : Value}
theorem isInst_exc {M : Model} {oe : Obj} {B : Value} {Q : Bool → Shared → Prop} (hC : h.get? 44 = some clsO) (he : h.get? e = some oe) (hc : oe.cls = .ref 44) (hq : Q ((Value.ref 44 :: bm44).contains B) ⟨h, g, d, tk, os⟩) :
    wpAny M A (isInstance (.ref e) B) Q E ⟨h, g, d, tk, os⟩ := by
  unfold isInstance
  repeat (first | (with_reducible refine wpAny_loadPart_at he ?_; rw [hc]) | with_reducible refine wpAny_isSubtype_exc hC ?_ | wp_step)
  exact hq
/-- Exception.__init__(e, v) -/
theorem exc_init_call {Q : Value → Shared → Prop} (hC : h.get? 44 = some clsO) (he : h.get? e = some (excO t))
    (hq : Q .none ⟨(h.push (tupO [v])).update e (Obj.mapFields (·.setIfInBounds 0 (.ref h.objs.size))), g, d, tk, os⟩) :
    wpAny (model prog w) A (call (.builtin "Exception.__init__") [.ref e, v]) Q E ⟨h, g, d, tk, os⟩ := by
  have F := PySem.F.excBase_Exception
  refine wpAny_call (codeAny_call_builtin F.init.plain F.initEntry ?_)
  have hshort := F.noStar
  simp only [checkBuiltinCall, F.initKind, F.initSplit, F.initRow]
  refine wpAny_bind (isInst_exc hC he rfl ?_)
  rw [show (Value.ref 44 :: bm44).contains (.type "Exception") = true from by decide +kernel]
  repeat (first | wp_step)
  exact hq
theorem exc_store_run {Q : Fin → Shared → Prop} {oe : Obj} {u : Tok} {name : Str} (hC : h.get? 44 = some clsO) (hy : Looks (model prog w) h (typeLookup (.ref 44) name) none) (he : h.get? e = some oe) (hc : oe.cls = .ref 44) (hdn : oe.dict = none) (hnc : ∀ c, oe.data ≠ .cls c) (hf : oe.isFreed = false)
    (hq : ∀ h' tk' dx, (∀ b o, b ≠ e → h.get? b = some o → h'.get? b = some o) → h'.get? e = some { oe with dict := dx } → Q (.done (.ret .none)) ⟨h', g, d, tk', os⟩) :
    wpAny (model prog w) A (Builtin.«object.__setattr__» ⟨[.ref e, .str name u, v], []⟩) Q E ⟨h, g, d, tk, os⟩ := by
  have hpass := PySem.F.store_Exception.passes (.ref e)
  unfold Builtin.«object.__setattr__»
  repeat (first | rw [refuse_eq] | (rw [refuseLoop_ref, refuseLoop_ref, hpass]) | (with_reducible refine wpAny_loadPart_at he ?_; rw [hc]) | with_reducible refine wpAny_mroOf_exc hC ?_ | with_reducible refine wpAny_bind (hy.here ?_) | wp_step)
  rw [hdn, if_neg (by simp [typeHasDict])]
  split
  · rename_i hcd
    cases hcd
  split
  · rename_i c hcd
    exact absurd hcd (hnc c)
  · have he₁ : (h.push { cls := .type "dict", data := .dict #[] }).get? e = some oe := Heap.get?_push_of_some _ he
    have hes : e ≠ h.objs.size := Nat.ne_of_lt (Heap.lt_size he)
    refine wpAny_bind (wpAny_alloc' ?_)
    refine wpAny_bind (wpAny_update' he₁ ?_)
    refine wpAny_pure ?_
    have hgd : ((h.push { cls := .type "dict", data := .dict #[] }).update e fun o => { cls := o.cls, dict := some h.objs.size, data := o.data, slots := o.slots }).get? h.objs.size
        = some { cls := .type "dict", data := .dict #[] } :=
      (Heap.get?_update_ne _ _ _ _ hes.symm).trans (Heap.get?_push_at rfl rfl)
    have hnd : ((h.push { cls := .type "dict", data := .dict #[] }).update e fun o => { cls := o.cls, dict := some h.objs.size, data := o.data, slots := o.slots }).Ns h.objs.size (fun _ => none) :=
      ⟨_, #[], _, hgd, rfl, fun x hx => absurd hx (by simp), fun _ => rfl⟩
    show wpAny _ _ (Builtin.ObjectAttr.storeInDict h.objs.size (.str name u) name v) _ _ _
    unfold Builtin.ObjectAttr.storeInDict Builtin.ObjectAttr.newKeyGuard
    refine wpAny_bind (wpAny_pure (wpAny_bind (wpAny_nsSet1 (Heap.Ns1.of_empty hnd) fun h' hn' hs => ?_)))
    obtain ⟨oD, esD, epD, hoD, hdD, hcD⟩ := hn'.count (Within.cons name v Within.nil)
    refine wpAny_bind (wpAny_lookBehind hoD (by rw [hdD]; exact pastItsLine_dict (Nat.le_trans hcD (by rw [List.length_cons, List.length_nil, sizeLine_eq]; omega))) ?_)
    wp_walk
    refine hq h' _ (some h.objs.size) (fun b ob hbe hb => ?_) ?_
    · exact (hs.2 b (Nat.ne_of_lt (Heap.lt_size hb))).trans ((Heap.get?_update_ne _ _ _ _ hbe).trans (Heap.get?_push_of_some _ hb))
    · refine (hs.2 e hes).trans (Heap.get?_update_self _ he₁ ?_)
      obtain ⟨oc, od, odt, osl⟩ := oe
      cases odt <;> first | rfl | exact hf
/-- e.name = v, for an exception of the class that has no dict yet -/
theorem exc_store {Q : Unit → Shared → Prop} {oe : Obj} {name : Str} (hC : h.get? 44 = some clsO) (hsa : Looks (model prog w) h (typeLookup (.ref 44) "__setattr__") (some (.builtin "object.__setattr__")))
    (hy : Looks (model prog w) h (typeLookup (.ref 44) name) none) (he : h.get? e = some oe) (hc : oe.cls = .ref 44) (hdn : oe.dict = none) (hnc : ∀ c, oe.data ≠ .cls c) (hf : oe.isFreed = false)
    (hq : ∀ h' tk' dx, (∀ b o, b ≠ e → h.get? b = some o → h'.get? b = some o) → h'.get? e = some { oe with dict := dx } → Q () ⟨h', g, d, tk', os⟩) :
    wpAny (model prog w) A (setAttr (.ref e) name v) Q E ⟨h, g, d, tk, os⟩ := by
  have SF := PySem.F.store_Exception
  have ha := SF.args (.ref e) (.str name tk) v
  have f3 := SF.slot.bind (.ref e)
  unfold setAttr callSpecial? specialOf
  repeat (first | (with_reducible refine wpAny_loadPart_at he ?_; rw [hc]) | (refine Looks.here (s := ⟨h, g, d, tk + 1, os⟩) hsa ?_) | wp_step)
  refine codeAny_call_builtin SF.slot.plain SF.entry ?_
  simp only [checkBuiltinCall, SF.kind, SF.split]
  refine wpAny_bind (isInst_exc hC he hc ?_)
  rw [show (Value.ref 44 :: bm44).contains (.type "object") = true from by decide +kernel]
  rw [if_neg (by decide)]
  have hlast : ∀ P : Unit → Shared → Prop, P () ⟨h, g, d, tk + 1, os⟩ → ∀ E' : Value → Shared → Prop, wpAny (model prog w) A.in1 (match Manifest.signature? "object.__setattr__" with
      | some sig => Bind.checkArgs "object.__setattr__" sig { pos := [Value.ref e] ++ [Value.str name tk, v] }
      | x => pure ()) P E' ⟨h, g, d, tk + 1, os⟩ := by
    intro P hP E'
    cases hsig : Manifest.signature? "object.__setattr__" with
    | none => exact wpAny_pure hP
    | some sig =>
      simp only [argsOk, hsig] at ha
      have h2 : Bind.checkArgs "object.__setattr__" sig ⟨[.ref e, .str name tk, v], []⟩ = pure () := ha
      show wpAny _ _ (Bind.checkArgs "object.__setattr__" sig ⟨[.ref e, .str name tk, v], []⟩) _ _ _
      rw [h2]; exact wpAny_pure hP
  refine hlast _ ?_ _
  exact exc_store_run hC hy he hc hdn hnc hf fun h' tk' dx k1 k2 => wpAny_pure (wpAny_pure (hq h' tk' dx k1 k2))
end
section
variable {prog : _root_.PySem.Program} {w : World} {A : Around} {E : Value → Shared → Prop} {s : Shared} {h₀ : Heap} {L e t : Addr} {m : Str → Option Value} {rest : List (Addr × Obj)} {v : Value}
theorem exc_initK {Q : Value → Shared → Prop} (F : Fr h₀ L s.heap m) (N : News h₀ L s.heap ((e, excO t) :: rest)) (ne : ∀ p ∈ rest, p.1 ≠ e) (hC : ClsAt (model prog w) s.heap)
    (hQ : ∀ h' t', Fr h₀ L h' m → News h₀ L h' ((e, excO t') :: rest) → Q .none { s with heap := h' }) : wpAny (model prog w) A (call (.builtin "Exception.__init__") [.ref e, v]) Q E s := by
  have he := N _ (.head _)
  refine exc_init_call hC.obj he.1 ?_
  have he₁ : (s.heap.push (tupO [v])).get? e = some (excO t) := Heap.get?_push_of_some _ he.1
  have h2 : ((s.heap.push (tupO [v])).update e (Obj.mapFields (·.setIfInBounds 0 (.ref s.heap.objs.size)))).get? e = some (excO s.heap.objs.size) := Heap.get?_update_self _ he₁ rfl
  have hs : Heap.SameBut e (s.heap.push (tupO [v])) ((s.heap.push (tupO [v])).update e (Obj.mapFields (·.setIfInBounds 0 (.ref s.heap.objs.size)))) := ⟨by simp [Heap.update], fun x hx => Heap.get?_update_ne _ _ _ _ hx⟩
  exact hQ _ _ ((F.push _).change hs he.2.1 he.2.2) ((News.pushKeep N _).setHead ne hs h2)
theorem exc_storeK {Q : Unit → Shared → Prop} (F : Fr h₀ L s.heap m) (N : News h₀ L s.heap ((e, excO t) :: rest)) (ne : ∀ p ∈ rest, p.1 ≠ e) (hC : ClsAt (model prog w) s.heap)
    (hQ : ∀ h' tk' dx, Fr h₀ L h' m → News h₀ L h' ((e, { excO t with dict := dx }) :: rest) → Q () { s with heap := h', toks := tk' }) : wpAny (model prog w) A (setAttr (.ref e) (Str.ofString "why") v) Q E s := by
  have he := N _ (.head _)
  refine exc_store hC.obj hC.seta hC.why he.1 rfl rfl (fun c x => by cases x) rfl fun h' tk' dx k1 k2 => hQ h' tk' dx ⟨?_, fun b o x => ?_, F.above⟩ fun p hp => ?_
  · obtain ⟨o, es, ep, x1, x2⟩ := F.ns
    exact ⟨o, es, ep, k1 _ _ (Ne.symm he.2.1) x1, x2⟩
  · exact k1 _ _ (fun q => by rw [q, he.2.2] at x; cases x) (F.keep _ _ x)
  · rcases List.mem_cons.mp hp with rfl | hp
    · exact ⟨k2, he.2⟩
    · exact ⟨k1 _ _ (ne p hp) (N p (.tail _ hp)).1, (N p (.tail _ hp)).2⟩
end
end Mine

/- X1 -/
namespace Mine
def InitRet (w : World) (x : Str) (tx : Tok) : Prop :=
  ∀ (A : Around) (cn : Str) (cs : Scope) (a : Addr) (ccd : Value) (cl : List (Str × Addr)) (outer : List Env) (A₀ : Around) (base h₀ : Heap) (L : Addr) (m : Str → Option Value)
    (p : _root_.PySem.Program) (loose : List Str) (mean : ExcName → Option Value) (mg mb : Str → Option Value) (news : List (Addr × Obj)) (s : Shared) (e t : Addr) (Q E : Value → Shared → Prop),
    A.frames = some (envX cn cs L a ccd cl :: outer) → A.depth + 3 < recursionLimit →
    Below A₀ base outer h₀ → Fr h₀ L s.heap m → (KK w).In h₀ → News h₀ L s.heap ((e, excO t) :: news) → (∀ p ∈ news, p.1 ≠ e) → Top p loose mean mg mb h₀ → cs.kind = .function →
    (∀ h' tk' t' od, Fr h₀ L h' m → News h₀ L h' ((e, { excO t' with dict := od }) :: news) → Q .none { s with heap := h', toks := tk' }) →
    wpAny (model PP w) A (call (.ref 28) [.ref e, .str x tx]) Q E s
set_option maxHeartbeats 4000000 in
theorem init_ret (w : World) (x : Str) (tx : Tok) : InitRet w x tx := by
  unfold InitRet KK PP
  k_fill
  intro A cn cs a ccd cl outer A₀ base h₀ L m p loose mean mg mb news s e t Q E hA hd B F X N ne T hK hret
  have cl44 := clsK w
  unfold ClsK KK PP at cl44
  refine wpAny_call ?_
  k_dflt (refine' code_def ?k1 ?k2 ?k3 ?k4 ?k5 ?kA ?kF ?kK ?k6 ?k7 ?k8 ?k9 ?kB ?_ ?c2 ?c3 ?c4 ?c5; (case kA => exact hA); (case kF => exact rfl); (case kK => assumption); (case k1 => k_asm); (case k2 => k_asm); (case k3 => k_asm); (case k4 => k_asm); (case k5 => k_asm); (case k6 => k_is); (case k7 => k_is); (case k8 => omega); (case k9 => exact BindsTo.of_eq rfl); (case c5 => decide); (case kB => exact locs rfl); (case c2 => exact rfl); (case c3 => exact rfl); (case c4 => exact rfl); k_whole; intro g' L' h' FG' F' N' B' X' T'; (try dsimp only); (try k_fold))
  k_steps
  refine method_type (v := .builtin "Exception.__init__") (by k_asm) (by k_asm) (by first | rfl | kernel_rfl) (by decide +kernel) (by first | k_dflt k_is | kernel_rfl) (by decide +kernel) ?_
  k_steps
  refine exc_initK (by k_asm) (by k_asm) ne (cl44 _ _ _ (by k_in) rfl) ?_
  intro h2 t2 F2 N2
  k_steps
  refine exc_storeK (by k_asm) (by k_asm) ne (cl44 _ _ _ (by k_in) rfl) ?_
  intro h3 tk3 dx F3 N3
  k_steps
  refine hret _ _ _ _ (by assumption) (by assumption)
end Mine

/- X2 -/
namespace Mine
section
variable {prog : _root_.PySem.Program} {w : World} {A : Around} {E : Value → Shared → Prop} {R : Result → Shared → Prop} {h : Heap} {g : Array GenState} {d : Drawn} {tk : Nat} {os : OsState} {v : Value}
theorem check_new44 {M : Model} {rest : List Value} {Q : Unit → Shared → Prop} (hC : h.get? 44 = some clsO) (hq : Q () ⟨h, g, d, tk, os⟩) :
    wpAny M A (checkBuiltinCall "Exception.__new__" ⟨.ref 44 :: rest, []⟩) Q E ⟨h, g, d, tk, os⟩ := by
  have F := PySem.F.excBase_Exception
  have hcont : (Value.ref 44 :: bm44).contains (.type "Exception") = true := by decide +kernel
  have hstar := F.noStar
  simp only [checkBuiltinCall, F.newKind, F.newSplit, F.newRow]
  repeat (first | refine wpAny_loadPart_at hC ?_ | (refine wpAny_isSubtype_exc hC ?_; rw [hcont]) | refine wpAny_staticBase_exc hC ?_ | refine wpAny_madeBy_exc hC ?_ | simp only [bne_self_eq_false, Bool.false_eq_true, if_false] | wp_step)
  exact hq
theorem new44 {rest : List Value} (hC : h.get? 44 = some clsO) (hrest : rest.length ≤ sizeLine)
    (hq : R (.ok (.ret (.ref (h.objs.size + 1)))) ⟨(h.push { cls := .type "tuple", data := .seq rest.toArray }).push
      { cls := .ref 44, data := .fields #[.ref h.objs.size, .none, .none, .none, .bool false, .none] }, g, d, tk, os⟩) :
    codeAny (model prog w) A (.builtin "Exception.__new__" ⟨.ref 44 :: rest, []⟩) R ⟨h, g, d, tk, os⟩ := by
  have F := PySem.F.excBase_Exception
  have hends := F.ends
  have hcB : (Value.ref 44 :: bm44).contains (.type "Exception") = true := by decide +kernel
  have hcA : (Value.ref 44 :: bm44).contains (.type "AttributeError") = false := by decide +kernel
  have hcN : (Value.ref 44 :: bm44).contains (.type "NameError") = false := by decide +kernel
  refine codeAny_builtinAt F.entry ?_
  unfold Builtin.«BaseException.__new__»
  refine _root_.PySem.wpAt_bind ?_
  show _root_.PySem.wpAt _ _ _ (stack >>= _) _ _ _
  refine _root_.PySem.wpAt_bind (_root_.PySem.wpAt_stack fun p below => _root_.PySem.wpAt_of_wpAny ?_)
  wp_walk
  refine _root_.PySem.wpAt_of_wpAny ?_
  rw [F.owner]
  repeat (first | with_reducible refine wpAny_madeHere_exc F.canon hC ?_ | with_reducible refine wpAny_loadPart_at hC ?_ | (with_reducible refine wpAny_isSubtype_exc hC ?_; first | rw [hcB] | rw [hcA] | rw [hcN]) | wp_step)
  show R _ _
  rw [Heap.size_push]
  exact hq
theorem type_call44 {rest : List Value} {Q : Fin → Shared → Prop} (cls : ClsAt (model prog w) h) (hrest : rest.length ≤ sizeLine)
    (hq : ∀ h' e, Heap.MadeExcOf h h' e (.ref 44) rest →
      wpAny (model prog w) A (call (.ref 28) (.ref e :: rest)) (fun r s' => r = .none ∧ Q (.done (.ret (.ref e))) s') E ⟨h', g, d, tk, os⟩) :
    wpAny (model prog w) A (Builtin.«type.__call__» ⟨.ref 44 :: rest, []⟩) Q E ⟨h, g, d, tk, os⟩ := by
  have F := PySem.F.excBase_Exception
  have hC := cls.obj
  repeat (first | with_reducible refine wpAny_loadPart_at hC ?_ | with_reducible refine wpAny_madeBy_exc hC ?_ | wp_step)
  refine codeAny_call_builtin_code (Code.quiet_builtin _ F.quiet) (check_new44 hC ?_)
  refine new44 hC hrest ?_
  show wpAny _ _ _ _ _ _
  have keep : ∀ b o, h.get? b = some o → ((h.push { cls := .type "tuple", data := .seq rest.toArray }).push { cls := .ref 44, data := .fields #[.ref h.objs.size, .none, .none, .none, .bool false, .none] }).get? b = some o :=
    fun b o e => Heap.get?_push_of_some _ (Heap.get?_push_of_some _ e)
  have cls₁ := cls.keeps keep
  have hC₁ := cls₁.obj
  obtain ⟨oI, hfI₁, hfc⟩ := cls₁.fn
  have hget : ((h.push { cls := .type "tuple", data := .seq rest.toArray }).push
      { cls := .ref 44, data := .fields #[.ref h.objs.size, .none, .none, .none, .bool false, .none] }).get? (h.objs.size + 1) = some
      { cls := .ref 44, data := .fields #[.ref h.objs.size, .none, .none, .none, .bool false, .none] } := by heap_get
  have hcC : (Value.ref 44 :: bm44).contains (.ref 44) = true := by decide +kernel
  unfold isInstance
  repeat (first | with_reducible refine wpAny_loadPart_at hget ?_ | (with_reducible refine wpAny_isSubtype_exc hC₁ ?_; rw [hcC]) | wp_step)
  show wpAny _ _ (typeLookup (.ref 44) _) _ _ _
  refine Looks.here (s := ⟨_, g, d, tk, os⟩) cls₁.init ?_
  refine wpAny_holding (wpAny_bind ?_)
  unfold bindSpecial
  refine wpAny_bind (wpAny_typeOf (T := "function") ⟨_, hfI₁, hfc⟩ ?_)
  rw [if_pos (by decide)]
  refine wpAny_pure (wpAny_bind (wpAny_mono (hq _ (h.objs.size + 1) ⟨keep, Heap.get?_none_of_le (Nat.le_succ _), h.objs.size, hget, Heap.get?_none_of_le (Nat.le_refl _), ?_⟩) (fun r s' hr => ?_) fun _ _ x => x))
  · exact Heap.get?_push_of_some _ (Heap.get?_push_at rfl rfl)
  · obtain ⟨rfl, hQ⟩ := hr
    wp_walk
    exact hQ
theorem call44 {rest : List Value} {Q : Value → Shared → Prop} (cls : ClsAt (model prog w) h) (hrest : rest.length ≤ sizeLine)
    (hq : ∀ h' e, Heap.MadeExcOf h h' e (.ref 44) rest →
      wpAny (model prog w) (A.under (.builtin "type.__call__" ⟨.ref 44 :: rest, []⟩)) (call (.ref 28) (.ref e :: rest)) (fun r s' => r = .none ∧ Q (.ref e) s') E ⟨h', g, d, tk, os⟩) :
    wpAny (model prog w) A (call (.ref 44) rest) Q E ⟨h, g, d, tk, os⟩ := by
  have hC := cls.obj
  have f1 := tc_lookup
  have f2 := tc_bind (.ref 44)
  have hT : (⟨h, g, d, tk, os⟩ : Shared).TypeIs (.ref 44) "type" := ⟨_, hC, rfl⟩
  refine wpAny_call (codeAny_of_tree ?_)
  show wpAny _ _ (callAny (.ref 44) _) _ _ _
  repeat (any_goals (first | assumption | with_reducible refine wpAny_loadPart_at hC ?_ | wp_step))
  refine ⟨rfl, ?_⟩
  refine codeAny_call_builtin_at (Code.quiet_builtin _ (by decide +kernel)) entry_typeCall (wpAny_check_type_call_sub hC (type_call44 cls hrest fun h' e hm => ?_))
  exact hq h' e hm
end
section
variable {M : Model} {A : Around} {E : Value → Shared → Prop} {env : Env}
theorem raiseStmt44 {s : Shared} {x : Sem Value} {Q : Flow → Shared → Prop} (hh : A.handled = none)
    (h : wpAny M A x (fun v s₁ => ∃ e t dx, v = .ref e ∧ s₁.heap.get? 44 = some clsO ∧ s₁.heap.get? e = some { excO t with dict := dx } ∧ E (.ref e) s₁) E s) :
    wpAny M A (raiseStmt env (some x) none) Q E s := by
  have hcB : (Value.ref 44 :: bm44).contains (.type "BaseException") = true := by decide +kernel
  unfold raiseStmt
  refine wpAny_bind (wpAny_mono h (fun v s₁ h₁ => ?_) fun _ _ x => x)
  obtain ⟨e, t, dx, rfl, hC, he, hE⟩ := h₁
  obtain ⟨hp, g, d, tk, os⟩ := s₁
  repeat (first | with_reducible refine wpAny_loadPart_at he ?_ | with_reducible refine wpAny_loadPart_at hC ?_ | (with_reducible refine wpAny_isSubtype_exc hC ?_; rw [hcB]) | wp_step)
  exact wpAny_raiseNew_none hh hE
end
section
theorem evalOpt_some {e : Expr} {env : Env} : evalOpt (some e) env = some (eval e env) := rfl
theorem evalOpt_none {env : Env} : evalOpt none env = none := rfl
variable {M : Model} {A : Around} {E : Value → Shared → Prop} {env : Env} {s : Shared}
theorem Raise44 {e₀ : Expr} {pos : Pos} {Q : Flow → Shared → Prop} (hh : A.handled = none)
    (h : wpAny M A (eval e₀ env) (fun v s₁ => Stop (∃ e t dx, v = .ref e ∧ s₁.heap.get? 44 = some clsO ∧ s₁.heap.get? e = some { excO t with dict := dx } ∧ E (.ref e) s₁)) E s) :
    wpAny M A (exec (.Raise (some e₀) none pos) env) Q E s := by
  rw [arm_exec_Raise, evalOpt_some, evalOpt_none]
  exact wpAny_bind (wpAny_standAt (raiseStmt44 hh (wpAny_bind (wpAny_mono h (fun v s₁ h₁ => wpAny_bind (wpAny_standAt (wpAny_pure h₁))) fun _ _ x => x))))
end
theorem call44K (w : World) (x : Str) (tx : Tok) {A : Around} {cn : Str} {cs : Scope} {a : Addr} {ccd : Value} {cl : List (Str × Addr)} {outer : List Env} {A₀ : Around} {base h₀ : Heap} {L : Addr} {m : Str → Option Value}
    {p : _root_.PySem.Program} {loose : List Str} {mean : ExcName → Option Value} {mg mb : Str → Option Value} {news : List (Addr × Obj)} {s : Shared} {Q E : Value → Shared → Prop}
    (hA : A.frames = some (envX cn cs L a ccd cl :: outer)) (hd : A.depth + 5 < recursionLimit)
    (B : Below A₀ base outer h₀) (F : Fr h₀ L s.heap m) (X : (KK w).In h₀) (N : News h₀ L s.heap news) (T : Top p loose mean mg mb h₀) (hK : cs.kind = .function)
    (hQ : ∀ h' tk' e t dx, Fr h₀ L h' m → News h₀ L h' ((e, { excO t with dict := dx }) :: news) → h'.get? 44 = some clsO → (∀ q ∈ news, q.1 ≠ e) → Q (.ref e) { s with heap := h', toks := tk' }) :
    wpAny (model PP w) A (call (.ref 44) [.str x tx]) Q E s := by
  obtain ⟨h, g, d, tk, os⟩ := s
  have cls := clsK w PP w h (X.keeps F.keep) rfl
  refine call44 cls (by rw [sizeLine_eq]; exact (by decide : 1 ≤ 16777216)) fun h' e hm => ?_
  obtain ⟨t, x1, x2, x3⟩ := hm.there
  have F' : Fr h₀ L h' m := F.after hm.keeps
  have heL : e ≠ L := fun q => by
    obtain ⟨o, _, _, ho, _⟩ := F.ns
    have := hm.new
    rw [q, ho] at this; cases this
  have hne : h₀.get? e = none := by
    cases q : h₀.get? e with
    | none => rfl
    | some o => have := F.keep _ _ q; rw [hm.new] at this; cases this
  have hap : ∀ q ∈ news, q.1 ≠ e := fun q hq z => by
    have := (N q hq).1
    rw [z, hm.new] at this; cases this
  refine (init_ret w x tx) _ cn cs a ccd cl outer A₀ base h₀ L m p loose mean mg mb news ⟨h', g, d, tk, os⟩ e t _ _ hA (by show A.depth + 1 + 3 < _; omega) B F' X (fun q hq => ?_) hap T hK fun h2 tk2 t2 dx F2 N2 => ⟨rfl, ?_⟩
  · rcases List.mem_cons.mp hq with rfl | hq
    · exact ⟨x1, heL, hne⟩
    · exact ⟨hm.keeps _ _ (N q hq).1, (N q hq).2⟩
  · exact hQ h2 tk2 e t2 dx F2 N2 (clsK w PP w h2 (X.keeps F2.keep) rfl).obj hap
end Mine

/- X3 -/
namespace Mine
section
variable {M : Model} {A : Around} {E : Value → Shared → Prop} {s' : Shared} {base g : Heap} {outer : List Env} {L a e t : Addr} {m : Str → Option Value} {name : Str} {scope : Scope} {cd : Value} {Q : Unit → Shared → Prop} {news : List (Addr × Obj)} {dx : Option Addr}
theorem leave44 (K : Below A base outer g) (F : Fr g L s'.heap m) (N : News g L s'.heap ((e, { excO t with dict := dx }) :: news)) (ne : ∀ p ∈ news, p.1 ≠ e)
    (hQ : ∀ h', RaisedN base outer e (.ref 44) news h' → g.UpToSlots h' → Q () { s' with heap := h' }) (hk : scope.kind = .function := by rfl) :
    wpAny M (A.deeper (envOf name scope L a cd)) (leaving (envOf name scope L a cd) (.ref e)) Q E s' := by
  have K' := K.push (name := name) (a := a) (cd := cd) F hk
  have he := N _ (.head _)
  have hin : ∀ env ∈ (envOf name scope L a cd :: outer), ∀ b, env.frame = some b → b ∈ e :: (envOf name scope L a cd :: outer).filterMap (·.frame) := fun env he b hb => List.mem_cons_of_mem _ (List.mem_filterMap.mpr ⟨env, he, hb⟩)
  have st : base.StaysIn (hideAll s'.heap (e :: (envOf name scope L a cd :: outer).filterMap (·.frame))) := fun b o q => hideAll_get _ (K'.stays b o q) fun hm => by
    rcases List.mem_cons.mp hm with rfl | hm
    · have := K.stays _ _ q
      rw [he.2.2] at this; cases this
    · rw [(K'.frames.mem hm).1] at q; cases q
  have hl : ∀ q ∈ news, (hideAll s'.heap (e :: (envOf name scope L a cd :: outer).filterMap (·.frame))).get? q.1 = some q.2 ∧ base.get? q.1 = none := fun q hq => by
    have hq' := N q (.tail _ hq)
    refine ⟨hideAll_get _ hq'.1 fun hm => ?_, fresh_of_stays K.stays hq'.2.2⟩
    rcases List.mem_cons.mp hm with hm | hm
    · exact ne q hq hm
    · obtain ⟨env, he, hf⟩ := List.mem_filterMap.mp hm
      rcases List.mem_cons.mp he with rfl | he
      · exact hq'.2.1 (Option.some.inj hf).symm
      · obtain ⟨o, ho, _⟩ := (K.frames.mem (List.mem_filterMap.mpr ⟨env, he, hf⟩)).2
        rw [hq'.2.2] at ho; cases ho
  refine wpAny_leaving_firstW (base := hideAll s'.heap (e :: (envOf name scope L a cd :: outer).filterMap (·.frame))) (a0 := .ref t) K'.stack (funFrames_hide K'.frames hin) rfl he.1 (fun b o q => of_hideAll _ q) (hideAll_none _ (.head _)) rfl rfl rfl fun h' hL => ?_
  obtain ⟨k1, ⟨_, _, k2⟩, k3, k4⟩ := hL
  exact hQ h' ⟨_, _, st, hl, k1, hideAll_none _ (.head _), k2, k3⟩ ((Heap.UpToSlots.of_keeps F.keep).trans k4)
end
def Ex44 (w : World) : Prop := PP = PP → nsIn (KK w) mainGlobals (Str.ofString "Corrupt") = some (some (.ref 44))
theorem ex44 (w : World) : Ex44 w := by
  unfold Ex44 KK PP
  k_fill
  intro _
  k_dflt k_is
theorem catch44 (w : World) {A : Around} {cn : Str} {cs : Scope} {ccd : Value} {L a e : Addr} {outer : List Env} {h₀ hh : Heap} {m : Str → Option Value} {news : List (Addr × Obj)} {s' : Shared} {Q : Flow → Shared → Prop} {E : Value → Shared → Prop}
    {p : _root_.PySem.Program} {loose : List Str} {mg mb : Str → Option Value} {np pos cp rp : Pos} {k : Nat}
    (hfr : A.frames = some (envOf cn cs L a ccd :: outer)) (R : RaisedN h₀ (envOf cn cs L a ccd :: outer) e (.ref 44) news s'.heap) (F : Fr h₀ L hh m) (hsm : hh.UpToSlots s'.heap) (X : (KK w).In h₀) (T : TopRead p loose mg mb h₀)
    (hK : cs.kind = .function) (hx : (envOf cn cs L a ccd).kindOf (Str.ofString "Corrupt") = some .globalImplicit)
    (hQ : ∀ h', h₀.StaysIn h' → s'.heap.UpToSlots h' → (∀ q ∈ news, h'.get? q.1 = some q.2 ∧ h₀.get? q.1 = none) → Q (.ret .none) { s' with heap := h' }) :
    wpAny (model PP w) A (noteFrame (.ref e) (envOf cn cs L a ccd))
      (fun _ s₂ => wpAny (model PP w) A (setFlight (.ref e) none) (fun _ s₃ =>
        wpAny (model PP w) A (handleBy (.ref e) (envOf cn cs L a ccd) [.ExceptHandler (some (.Name (Str.ofString "Corrupt") np)) none [.Return (some (.Constant .none k cp)) rp] pos]) Q E s₃) E s₂) E s' := by
  obtain ⟨B, a0, hB, hl, hfl⟩ := R
  refine wpAny_looks_onW hfr rfl hfl fun h₄ hheld₄ hsm₄ => ?_
  refine wpAny_landsW hheld₄ fun h₅ hheld hsm₅' => ?_
  have hsm₅ := hsm₄.trans hsm₅'
  have st₅ : h₀.StaysIn h₅ := fun b o q => hheld.1 _ _ (hB _ _ q)
  have F₅ : Fr h₀ L h₅ m := F.of_stays st₅ (hsm.trans hsm₅)
  obtain ⟨ob, hob, hobc⟩ := hheld.there
  refine wpAny_handleBy_cons (codeAny_handlers_test (name_K (s := { s' with heap := h₅ }) F₅ X T (ex44 w rfl) ?_ hK hx (by decide))) (by intro q; cases q)
  have hC := (clsK w PP w h₅ (X.keeps st₅) rfl).obj
  refine wpAny_excMatches_sub_self hC hob hobc (by decide +kernel) (codeAny_handlers_suite ?_)
  refine lands_againW (s := { s' with heap := h₅ }) hheld fun h₆ hfl₆ hsm₆ => ?_
  refine wpAny_execs_cons (wpAny_Return_some (wpAny_Constant_none ?_))
  exact hQ h₆ (fun b o q => hfl₆.1 _ _ (hB _ _ q)) (hsm₅.trans hsm₆) fun q hq => ⟨hfl₆.1 _ _ (hl q hq).1, (hl q hq).2⟩
section
variable {prog : _root_.PySem.Program} {w : World} {A : Around} {E : Value → Shared → Prop} {s : Shared} {env : Env} {pos : Pos}
theorem TryS {body : List Stmt} {h₀ : ExceptHandler} {hs : List ExceptHandler} {Q : Flow → Shared → Prop}
    (h : wpS (model prog w) A (execs body env) (fun f s₁ => match f with | .next => wpS (model prog w) A (execs [] env) Q E s₁ | f => Q f s₁)
      (fun e s₁ => wpAny (model prog w) A (noteFrame e env) (fun _ s₂ => wpAny (model prog w) A (setFlight e none) (fun _ s₃ => wpAny (model prog w) A (handleBy e env (h₀ :: hs)) Q E s₃) E s₂) E s₁) s) :
    wpS (model prog w) A (exec (.Try body (h₀ :: hs) [] [] pos) env) Q E s := by
  rw [arm_exec_Try]
  refine wpS_seq (wpAny_standAt ?_)
  unfold tryStmt
  simp only [List.isEmpty_nil, if_true, List.isEmpty_cons, Bool.false_and, Bool.false_eq_true, if_false]
  refine wpS_bind (wpS_attempt (wpS_mono h (fun f s₁ h₁ => ?_) fun e s₁ h₁ => ?_))
  · cases f <;> first | exact h₁ | exact wpS_pure h₁
  · exact wpS_of_any (wpAny_bind (wpAny_mono h₁ (fun _ _ h₂ => wpAny_bind h₂) fun _ _ x => x))
end
end Mine

/- P6 -/
namespace Mine
theorem drop_at {ks : List Int} {i : Int} (h0 : 0 ≤ i) (h1 : i < ks.length) : ks.drop i.toNat = ks.getD i.toNat 0 :: ks.drop (i + 1).toNat := by
  have hl : i.toNat < ks.length := by omega
  have e : (i + 1).toNat = i.toNat + 1 := by omega
  rw [List.drop_eq_getElem_cons hl, e, List.getD_eq_getElem?_getD, List.getElem?_eq_getElem hl]
  rfl
theorem un_none0 {ks : List Int} {fl : Nat} {size i : Int} (h1 : (ks.length : Int) ≤ i) (hs : (fl : Int) < size) : unp (ks.drop i.toNat) (size.toNat - fl) = none := by
  obtain ⟨k, rfl⟩ := size_nat hs
  rw [List.drop_of_length_le (by clear hs; omega), Int.toNat_natCast, Nat.add_sub_cancel_left, unp_nil]
theorem at_nat {ks : List Int} {j : Nat} (h1 : (j : Int) < ks.length) : ks.drop j = ks.getD (Int.toNat j) 0 :: ks.drop (j + 1) := drop_at (Int.natCast_nonneg _) h1
theorem at_lo {ks : List Int} {j : Nat} {x : Int} (ho : Octets ks) (hj : ks.drop j = x :: ks.drop (j + 1)) : 0 ≤ x :=
  (ho x (List.mem_of_mem_drop (i := j) (by rw [hj]; exact .head _))).1
theorem un_none1 {ks : List Int} {fl : Nat} {size i : Int} (ho : Octets ks) (h0 : 0 ≤ i) (h1 : i < ks.length) (hc : ks.getD i.toNat 0 < 64) (hs : (fl : Int) < size)
    (hb : size - (fl : Int) < ks.getD i.toNat 0 + 1 ∨ (ks.length : Int) < i + 1 + (ks.getD i.toNat 0 + 1)) : unp (ks.drop i.toNat) (size.toNat - fl) = none := by
  obtain ⟨j, rfl⟩ := Int.eq_ofNat_of_zero_le h0
  have hj := at_nat h1
  generalize ks.getD (Int.toNat j) 0 = x at *
  obtain ⟨F, hF⟩ := Int.eq_ofNat_of_zero_le (Int.le_trans (at_lo ho hj) (Int.le_of_lt (Int.lt_succ x)))
  obtain ⟨k, rfl⟩ := size_nat hs
  rw [hF] at hb
  refine litN_none (F := F) ho hj hc hF ?_
  clear ho hj hc hF hs h0
  omega
theorem un_none2 {ks : List Int} {fl : Nat} {size i : Int} (ho : Octets ks) (h0 : 0 ≤ i) (h1 : i < ks.length) (hc : ¬ ks.getD i.toNat 0 < 64) (hs : (fl : Int) < size)
    (hb : size - (fl : Int) < ks.getD i.toNat 0 - 64 + 1) : unp (ks.drop i.toNat) (size.toNat - fl) = none := by
  obtain ⟨j, rfl⟩ := Int.eq_ofNat_of_zero_le h0
  have hj := at_nat h1
  generalize ks.getD (Int.toNat j) 0 = x at *
  obtain ⟨F, hF⟩ := Int.eq_ofNat_of_zero_le (show 0 ≤ x - 63 by clear hb hs h1 h0 hj; omega)
  obtain ⟨k, rfl⟩ := size_nat hs
  rw [show x - 64 + 1 = x - 63 by clear hb hs h1 h0 hj hF; omega, hF] at hb
  refine zerN_none (F := F) ho hj hc hF ?_
  clear ho hj hc hF hs h0 h1
  omega
theorem un_lit {ks fs fs' : List Int} {size i i' : Int} (ho : Octets ks) (h0 : 0 ≤ i) (h1 : i < ks.length) (hc : ks.getD i.toNat 0 < 64) (hs : (fs.length : Int) < size)
    (ha : ¬ size - (fs.length : Int) < ks.getD i.toNat 0 + 1) (hb : ¬ (ks.length : Int) < i + 1 + (ks.getD i.toNat 0 + 1))
    (e1 : fs' = fs ++ List.take (clipAt ks.length (i + 1 + (ks.getD i.toNat 0 + 1)) - clipAt ks.length (i + 1)) (List.drop (clipAt ks.length (i + 1)) ks)) (e2 : i' = i + 1 + (ks.getD i.toNat 0 + 1)) :
    fs'.length ≤ size.toNat ∧ 0 ≤ i' ∧ i' ≤ ks.length ∧ size.toNat - fs'.length < size.toNat - fs.length ∧
      (unp (ks.drop i'.toNat) (size.toNat - fs'.length)).map (fs' ++ ·) = (unp (ks.drop i.toNat) (size.toNat - fs.length)).map (fs ++ ·) := by
  obtain ⟨j, rfl⟩ := Int.eq_ofNat_of_zero_le h0
  have hj := at_nat h1
  generalize ks.getD (Int.toNat j) 0 = x at *
  have hx := at_lo ho hj
  obtain ⟨F, hF⟩ := Int.eq_ofNat_of_zero_le (Int.le_trans hx (Int.le_of_lt (Int.lt_succ x)))
  obtain ⟨k, rfl⟩ := size_nat hs
  rw [hF] at ha hb e1 e2
  replace e2 : i' = ((j + 1 + F : Nat) : Int) := e2
  replace hb : j + 1 + F ≤ ks.length := Int.ofNat_le.mp (Int.not_lt.mp hb)
  replace e1 : fs' = fs ++ List.take (clipAt ks.length ((j + 1 + F : Nat) : Int) - clipAt ks.length ((j + 1 : Nat) : Int)) (List.drop (clipAt ks.length ((j + 1 : Nat) : Int)) ks) := e1
  rw [clipN hb, clipN (Nat.le_trans (Nat.le_add_right _ _) hb), Nat.add_sub_cancel_left] at e1
  have hp : 0 < F := by clear ha hb hs hj hc h0 h1 e1 e2; omega
  replace ha : F ≤ k + 1 := by clear hF hb hs hj hc h0 h1 e1 e2 hx hp; omega
  have l1 : fs'.length = fs.length + F := by rw [e1, List.length_append, List.length_take, List.length_drop, Nat.min_eq_left]; clear ha hF hs hj hc h0 h1 e1 e2 hx hp; omega
  have q := litN (l := fs.length) (fs := fs) ho hj hc hF ha hb
  rw [l1, Int.toNat_natCast, e2]
  refine ⟨Nat.add_le_add_left ha _, Int.natCast_nonneg _, Int.ofNat_le.mpr hb, ?_, by rw [e1]; exact q⟩
  clear q l1 hF hs hj hc h0 h1 e1 e2 hx hb
  omega
theorem un_zer {ks fs fs' : List Int} {size i i' : Int} (ho : Octets ks) (h0 : 0 ≤ i) (h1 : i < ks.length) (hc : ¬ ks.getD i.toNat 0 < 64) (hs : (fs.length : Int) < size)
    (ha : ¬ size - (fs.length : Int) < ks.getD i.toNat 0 - 64 + 1) (e1 : fs' = fs ++ List.replicate (ks.getD i.toNat 0 - 64 + 1).toNat 0) (e2 : i' = i + 1) :
    fs'.length ≤ size.toNat ∧ 0 ≤ i' ∧ i' ≤ ks.length ∧ size.toNat - fs'.length < size.toNat - fs.length ∧
      (unp (ks.drop i'.toNat) (size.toNat - fs'.length)).map (fs' ++ ·) = (unp (ks.drop i.toNat) (size.toNat - fs.length)).map (fs ++ ·) := by
  obtain ⟨j, rfl⟩ := Int.eq_ofNat_of_zero_le h0
  have hj := at_nat h1
  generalize ks.getD (Int.toNat j) 0 = x at *
  obtain ⟨F, hF⟩ := Int.eq_ofNat_of_zero_le (show 0 ≤ x - 63 by clear ha hs h1 h0 hj e1 e2; omega)
  obtain ⟨k, rfl⟩ := size_nat hs
  rw [show x - 64 + 1 = x - 63 by clear ha hs h1 h0 hj hF e1 e2; omega, hF] at ha e1
  replace e2 : i' = ((j + 1 : Nat) : Int) := e2
  rw [Int.toNat_natCast] at e1
  have hp : 0 < F := by clear ha hs hj h0 h1 e1 e2; omega
  replace ha : F ≤ k + 1 := by clear hF hs hj hc h0 h1 e1 e2 hp; omega
  have l1 : fs'.length = fs.length + F := by rw [e1, List.length_append, List.length_replicate]
  have q := zerN (l := fs.length) (fs := fs) ho hj hc hF ha
  rw [l1, Int.toNat_natCast, e2]
  refine ⟨Nat.add_le_add_left ha _, Int.natCast_nonneg _, Int.ofNat_le.mpr (Int.ofNat_lt.mp h1), ?_, by rw [e1]; exact q⟩
  clear q l1 hF hs hj hc h0 h1 e1 e2
  omega
end Mine

/- S3 -/
namespace Mine
local macro_rules | `(tactic| walk_at "call builtin:len") => `(tactic| (k_here; (with_reducible show wpAny _ _ (call (Value.builtin "len") [Value.ref _]) _ _ _); (refine ba_lenK (by k_asm) (List.Mem.head _) (by assumption) (by (try simp only [List.length_append, List.length_cons, List.length_nil, List.length_take, List.length_drop]); omega) ?_); intro _ _; (try simp only [List.length_append, List.length_cons, List.length_nil, List.length_take, List.length_drop])))
local macro_rules | `(tactic| walk_at "call type:bytes") => `(tactic| (k_here; (with_reducible show wpAny _ _ (call (Value.type "bytes") [Value.ref _]) _ _ _); (refine ba_bytesK (by k_asm) (List.Mem.head _) (by assumption) (by omega) ?_); intro _ _))
/-- the locals of zle_pack -/
def bMap (f a m mo o : Option Value) : Str → Option Value := fun y => if y = Str.ofString "found" then f else if y = Str.ofString "at" then a else if y = Str.ofString "many" then m else if y = Str.ofString "most" then mo else if y = Str.ofString "octets" then o else none
theorem bMap_start (f a mo o : Option Value) : (fun y => if y = Str.ofString "found" then f else if y = Str.ofString "at" then a else if y = Str.ofString "most" then mo else if y = Str.ofString "octets" then o else none) = bMap f a none mo o := by
  funext y
  unfold bMap
  by_cases h1 : y = Str.ofString "found"
  · subst h1; rfl
  by_cases h2 : y = Str.ofString "at"
  · subst h2; rfl
  by_cases h3 : y = Str.ofString "many"
  · subst h3; rfl
  by_cases h4 : y = Str.ofString "most"
  · subst h4; rfl
  by_cases h5 : y = Str.ofString "octets"
  · subst h5; rfl
  simp only [if_neg h1, if_neg h2, if_neg h3, if_neg h4, if_neg h5]
theorem bMap_turn (a' m' f a m mo o : Option Value) : (fun y => if y = Str.ofString "at" then a' else if y = Str.ofString "many" then m' else bMap f a m mo o y) = bMap f a' m' mo o := by
  funext y
  unfold bMap
  by_cases h1 : y = Str.ofString "found"
  · subst h1; rfl
  by_cases h2 : y = Str.ofString "at"
  · subst h2; rfl
  by_cases h3 : y = Str.ofString "many"
  · subst h3; rfl
  by_cases h4 : y = Str.ofString "most"
  · subst h4; rfl
  by_cases h5 : y = Str.ofString "octets"
  · subst h5; rfl
  simp only [if_neg h1, if_neg h2, if_neg h3, if_neg h4, if_neg h5]
theorem pack_turn {ks fs fs' : List Int} {i i' : Int} (h0 : 0 ≤ i) (h1 : i < ks.length) (hfs : fs ++ packR ks i = packL ks) (e : fs' = fs ++ tell ks i) (e' : i' = i + manyAt ks i) (hl : fs.length ≤ 2 * i.toNat) :
    fs' ++ packR ks i' = packL ks ∧ fs'.length ≤ 2 * i'.toNat ∧ 0 ≤ i' ∧ i' ≤ ks.length ∧ ((ks.length : Int) - i').toNat < ((ks.length : Int) - i).toNat := by
  have hb := many_bounds h0 h1
  have ht := tell_length h0 h1
  rw [e, e', List.append_assoc, ← packR_step h0 h1, List.length_append]
  exact ⟨hfs, by omega, by omega, by omega, by omega⟩
theorem lit_fs {ks fs : List Int} {i : Int} (h0 : 0 ≤ i) (h1 : i < ks.length) (hne : ks.getD i.toNat 0 ≠ 0) :
    fs ++ [lEnd ks i - i - 1] ++ List.take (clipAt ks.length (i + (lEnd ks i - i)) - clipAt ks.length i) (List.drop (clipAt ks.length i) ks) = fs ++ tell ks i := by
  have hzb := lEnd_bounds (ks := ks) h0 h1
  unfold tell manyAt
  rw [if_neg hne, if_neg hne, clip_nat h0, clip_nat (by omega)]
  have e1 : min i.toNat ks.length = i.toNat := by omega
  have e2 : min (i + (lEnd ks i - i)).toNat ks.length - i.toNat = (lEnd ks i - i).toNat := by omega
  rw [e1, e2, List.append_assoc]
  rfl
set_option maxHeartbeats 4000000 in
theorem pack_ret (w : World) {b : Array UInt8} {ks : List Int} {t u : Tok} {most : Int} (hk : KBw.bInts b = ks) (hz : ks.length ≤ 10000) (h0 : 0 ≤ most ∨ ks ≠ []) (h1 : most ≤ 100000) :
    ReturnsS w 67 [.bytes b t, .int most u] (fun v => ((packL ks).length ≤ most → ∃ fb t', v = .bytes fb t' ∧ KBw.bInts fb = packL ks) ∧ (¬ (packL ks).length ≤ most → v = .none)) := by
  unfold ReturnsS KK PP
  k_fill
  intro dp un cn cs a ccd cl outer A₀ base h₀ L m p loose mean mg mb news s Q E B F X N T hK hd hu hret
  refine wpS_call ?_
  k_dflt (refine' codeS_def ?k1 ?k2 ?k3 ?k4 ?k5 ?kA ?kF ?kK ?k6 ?k7 ?k8 ?k9 ?kB ?_ ?c2 ?c3 ?c4 ?c5; (case kA => exact rfl); (case kF => exact rfl); (case kK => assumption); (case k1 => k_asm); (case k2 => k_asm); (case k3 => k_asm); (case k4 => k_asm); (case k5 => k_asm); (case k6 => k_is); (case k7 => k_is); (case k8 => ktr_room); (case k9 => exact BindsTo.of_eq rfl); (case c5 => decide); (case kB => exact locs rfl); (case c2 => exact rfl); (case c3 => exact rfl); (case c4 => exact rfl))
  intro g L' h' FG F' N' B' X' T'
  dsimp only
  replace F' := fr_eq (show Fr g L' h' (fun x => List.lookup x [(Str.ofString "most", .int most u), (Str.ofString "octets", .bytes b t)]) from F') (look2 _ _ _ _)
  refine execsS_cons (AssignS_swapped (TupleSK (itemsS_cons (CallS ?_))))
  k_steps
  refine callWithS_type0 (ba_newK rfl (by assumption) (by assumption) ?_)
  intro D hD FD ND neD
  refine itemsS_cons (wpS_of_any ?_)
  k_steps
  refine itemsS_nil ⟨by rw [PySem.sizeLine_eq]; exact (by decide : 2 ≤ 16777216), _, _, _, _, FD, ND, ?_⟩
  intro T hT FT NT
  k_steps
  dsimp only
  rename_i F2 N2
  replace F2 := fr_eq F2 (bMap_start _ _ _ _)
  replace N2 : News g L' _ ((D, baObj #[]) :: news) := cb_drop N2 (fun p hp => by repeat (first | exact hp | apply List.Mem.tail))
  refine execsS_cons (WhileS_inv (fun n m nx => ∃ (i : Int) (fb : Array UInt8) (fs : List Int) (t1 : Tok) (v1 : Option Value), 0 ≤ i ∧ i ≤ (ks.length : Int) ∧ n = ((ks.length : Int) - i).toNat ∧ KBw.bInts fb = fs ∧ fs ++ packR ks i = packL ks ∧ fs.length ≤ 2 * i.toNat ∧
    (0 < i → (fs.length : Int) ≤ most) ∧ nx = (D, baObj fb) :: news ∧ m = bMap (some (.ref D)) (some (.int i t1)) v1 (some (.int most u)) (some (.bytes b t))) F2 N2
    ⟨0, #[], [], _, none, Int.le_refl _, by omega, rfl, rfl, by rw [packR_zero]; rfl, Nat.zero_le _, fun h => absurd h (Int.lt_irrefl _), rfl, rfl⟩ ?_)
  clear F2 N2
  rintro n m₁ nx h₁ tk₁ F₁ N₁ ⟨i, fb, fs, t1, v1, hi0, hi1, hn, hfb, hfs, hfl, hmo, rfl, rfl⟩
  k_fold
  k_steps
  · refine execsS_cons (IfS ?_)
    k_steps
    · refine execsS_any ?_
      k_steps
      refine zeros_ret w hk (by omega) hi0 (by assumption) _ _ _ _ _ _ _ _ _ _ _ _ _ _ _ _ _ _ _ _ _ _ _ B' F₁ X' N₁ T' rfl (by show dp + 1 + 5 < _; omega) (by show un + 3 + 50 < _; omega) ?_
      rintro v h3 tk3 ⟨k, t', hs, rfl⟩ F3 N3
      obtain rfl := StopsAt.unique hs (zEnd_spec ks hi0)
      k_steps
      (try dsimp only)
      refine execsS_cons (ExprS_method (D := D) (b := fb) ba_slot_append ba_type_append rfl ?_)
      k_steps
      rename_i F4 N4
      have hzb := zEnd_bounds (ks := ks) hi0 (by assumption) (by assumption)
      refine Stop.go ⟨rfl, (N4 _ (.head _)).1, ?_⟩
      dsimp only
      k_steps
      refine ba_appendK rfl F4 N4 neD hfb (by omega) (by omega) (by omega) ?_
      intro h5 fb' F5 N5 hfb'
      refine ⟨rfl, ?_⟩
      dsimp only
      refine execsS_nil ?_
      dsimp only
      refine execsS_any ?_
      k_steps
      (try dsimp only)
      refine execsS_cons (IfS ?_)
      k_steps
      have htell : tell ks i = [64 + (zEnd ks i - i) - 1] := by
        unfold tell manyAt
        rw [if_pos (by assumption), if_pos (by assumption)]
        congr 1
        omega
      have hmany : manyAt ks i = zEnd ks i - i := by unfold manyAt; rw [if_pos (by assumption)]
      obtain ⟨q1, q2, q3, q4, q5⟩ := pack_turn (fs' := fs ++ [64 + (zEnd ks i - i) - 1]) (i' := i + (zEnd ks i - i)) hi0 (by assumption) hfs (by rw [htell]) (by rw [hmany]) hfl
      · refine execsS_any ?_
        k_steps
        dsimp only
        unfold WhileStep2
        dsimp only
        repeat (k_unfold; (try dsimp only))
        refine leaveK_ (by assumption) (by assumption) ?_
        intro kF kN
        refine hret _ _ _ ⟨fun hle => ?_, fun _ => rfl⟩ kF (cb_drop kN fun p hp => .tail _ hp)
        have := congrArg List.length q1
        rw [List.length_append, List.length_append] at this
        simp only [List.length_cons, List.length_nil] at this
        omega
      · refine execsS_nil ?_
        dsimp only
        refine execsS_nil ?_
        rename_i F6 N6 _ _ _
        obtain ⟨q1, q2, q3, q4, q5⟩ := pack_turn (fs' := fs ++ [64 + (zEnd ks i - i) - 1]) (i' := i + (zEnd ks i - i)) hi0 (by assumption) hfs (by unfold tell manyAt; rw [if_pos (by assumption), if_pos (by assumption)]; congr 1; congr 1; omega) (by unfold manyAt; rw [if_pos (by assumption)]) hfl
        refine ⟨_, _, _, _, _, rfl, fr_eq F6 (bMap_turn _ _ _ _ _ _ _), N6, ?_, _, _, _, _, _, q3, q4, rfl, hfb', q1, q2, fun _ => ?_, rfl, rfl⟩
        · omega
        · simp only [List.length_append, List.length_cons, List.length_nil]
          omega
    · refine execsS_any ?_
      k_steps
      refine literals_ret w hk (by omega) hi0 (by assumption) _ _ _ _ _ _ _ _ _ _ _ _ _ _ _ _ _ _ _ _ _ _ _ B' F₁ X' N₁ T' rfl (by show dp + 1 + 5 < _; omega) (by show un + 3 + 50 < _; omega) ?_
      rintro v h3 tk3 ⟨k, t', hs, rfl⟩ F3 N3
      obtain rfl := StopsAt.unique hs (lEnd_spec ks hi0)
      k_steps
      (try dsimp only)
      refine execsS_cons (ExprS_method (D := D) (b := fb) ba_slot_append ba_type_append rfl ?_)
      k_steps
      rename_i F4 N4
      have hzb := lEnd_bounds (ks := ks) hi0 (by assumption)
      refine Stop.go ⟨rfl, (N4 _ (.head _)).1, ?_⟩
      dsimp only
      k_steps
      refine ba_appendK rfl F4 N4 neD hfb (by omega) (by omega) (by omega) ?_
      intro h5 fb' F5 N5 hfb'
      refine ⟨rfl, ?_⟩
      dsimp only
      refine execsS_cons (ExprS_method (D := D) (b := fb') ba_slot_extend ba_type_extend rfl ?_)
      k_steps
      refine Stop.go ⟨rfl, (N5 _ (.head _)).1, ?_⟩
      dsimp only
      k_steps
      refine ba_extendK (cs := List.take (clipAt ks.length (i + (lEnd ks i - i)) - clipAt ks.length i) (List.drop (clipAt ks.length i) ks)) rfl (by assumption) (by assumption) neD hfb' (by assumption) (by simp only [List.length_append, List.length_cons, List.length_nil, List.length_take, List.length_drop]; omega) ?_
      intro h6 fb2 F6 N6 hfb2
      rw [lit_fs hi0 (by assumption) (by assumption)] at hfb2
      have hlen := tell_length (ks := ks) hi0 (by assumption)
      have hmb := many_bounds (ks := ks) hi0 (by assumption)
      refine ⟨rfl, ?_⟩
      dsimp only
      refine execsS_nil ?_
      dsimp only
      refine execsS_any ?_
      k_steps
      (try dsimp only)
      refine execsS_cons (IfS ?_)
      k_steps
      · refine execsS_any ?_
        k_steps
        dsimp only
        unfold WhileStep2
        dsimp only
        repeat (k_unfold; (try dsimp only))
        refine leaveK_ (by assumption) (by assumption) ?_
        intro kF kN
        obtain ⟨q1, q2, q3, q4, q5⟩ := pack_turn (fs' := fs ++ tell ks i) (i' := i + (lEnd ks i - i)) hi0 (by assumption) hfs rfl (by unfold manyAt; rw [if_neg (by assumption)]) hfl
        refine hret _ _ _ ⟨fun hle => ?_, fun _ => rfl⟩ kF (cb_drop kN fun p hp => .tail _ hp)
        have := congrArg List.length q1
        rw [List.length_append, List.length_append] at this
        omega
      · refine execsS_nil ?_
        dsimp only
        refine execsS_nil ?_
        rename_i F7 N7 _ _ _
        obtain ⟨q1, q2, q3, q4, q5⟩ := pack_turn (fs' := fs ++ tell ks i) (i' := i + (lEnd ks i - i)) hi0 (by assumption) hfs rfl (by unfold manyAt; rw [if_neg (by assumption)]) hfl
        refine ⟨_, _, _, _, _, rfl, fr_eq F7 (bMap_turn _ _ _ _ _ _ _), N7, ?_, _, _, _, _, _, q3, q4, rfl, hfb2, q1, q2, fun _ => ?_, rfl, rfl⟩
        · omega
        · rw [List.length_append]
          omega
  · refine execsS_any ?_
    k_steps
    obtain rfl : i = (ks.length : Int) := by omega
    rw [packR_end (Int.le_refl _), List.append_nil] at hfs
    refine hret _ _ _ ⟨fun _ => ⟨_, _, rfl, hfb.trans hfs⟩, fun hle => absurd ?_ hle⟩ (by assumption) (cb_drop (by assumption) fun p hp => .tail _ hp)
    rw [← hfs]
    by_cases hk0 : (0 : Int) < ks.length
    · exact hmo hk0
    · have hf0 : fs.length = 0 := by omega
      rcases h0 with h0 | h0
      · omega
      · cases ks with
        | nil => exact absurd rfl h0
        | cons x r => simp only [List.length_cons] at hk0; omega

/- S4 -/
/-- as ReturnsS, of a def that raises Corrupt where Bad holds -/
noncomputable def ReturnsR (w : World) (f : Addr) (args : List Value) (R : Value → Prop) (Bad : Prop) : Prop :=
  ∀ (dp un : Nat) (cn : Str) (cs : Scope) (a : Addr) (ccd : Value) (cl : List (Str × Addr)) (outer : List Env) (A₀ : Around) (base h₀ : Heap) (L : Addr) (m : Str → Option Value)
    (p : _root_.PySem.Program) (loose : List Str) (mean : ExcName → Option Value) (mg mb : Str → Option Value) (news : List (Addr × Obj)) (s : Shared) (Q E : Value → Shared → Prop),
    Below A₀ base outer h₀ → Fr h₀ L s.heap m → (KK w).In h₀ → News h₀ L s.heap news → Top p loose mean mg mb h₀ → cs.kind = .function →
    dp + 10 < recursionLimit → un + 100 < cLine →
    (∀ v h' tk', R v → Fr h₀ L h' m → News h₀ L h' news → Q v { s with heap := h', toks := tk' }) →
    (∀ e g h' tk', Bad → Fr h₀ L g m → g.UpToSlots h' → RaisedN base (envX cn cs L a ccd cl :: outer) e (.ref 44) news h' → E (.ref e) { s with heap := h', toks := tk' }) →
    wpS (model PP w) (ktrTop dp un (some []) cn cs L a ccd cl outer) (call (.ref f) args) Q E s
/-- the locals of zle_unpack -/
def uMap (f a fi le ma sz o : Option Value) : Str → Option Value := fun y => if y = Str.ofString "found" then f else if y = Str.ofString "at" then a else if y = Str.ofString "first" then fi else if y = Str.ofString "left" then le else if y = Str.ofString "many" then ma else if y = Str.ofString "size" then sz else if y = Str.ofString "octets" then o else none
theorem uMap_start (f a sz o : Option Value) : (fun y => if y = Str.ofString "found" then f else if y = Str.ofString "at" then a else if y = Str.ofString "size" then sz else if y = Str.ofString "octets" then o else none) = uMap f a none none none sz o := by
  funext y
  unfold uMap
  by_cases h1 : y = Str.ofString "found"
  · subst h1; rfl
  by_cases h2 : y = Str.ofString "at"
  · subst h2; rfl
  by_cases h3 : y = Str.ofString "first"
  · subst h3; rfl
  by_cases h4 : y = Str.ofString "left"
  · subst h4; rfl
  by_cases h5 : y = Str.ofString "many"
  · subst h5; rfl
  by_cases h6 : y = Str.ofString "size"
  · subst h6; rfl
  by_cases h7 : y = Str.ofString "octets"
  · subst h7; rfl
  simp only [if_neg h1, if_neg h2, if_neg h3, if_neg h4, if_neg h5, if_neg h6, if_neg h7]
local macro_rules | `(tactic| walk_at "call type:bytes") => `(tactic| (k_here; (with_reducible show wpAny _ _ (call (Value.type "bytes") [Value.int _ _]) _ _ _); (refine call_bytes_int (by kba_bound) (by kba_bound) ?_); intro _ _))
theorem uMap_turnL (a1 a2 ma fi le f a0 fi0 le0 ma0 sz o : Option Value) : (fun y => if y = Str.ofString "at" then a1 else if y = Str.ofString "at" then a2 else if y = Str.ofString "many" then ma else if y = Str.ofString "first" then fi else if y = Str.ofString "left" then le else uMap f a0 fi0 le0 ma0 sz o y) = uMap f a1 fi le ma sz o := by
  funext y
  unfold uMap
  by_cases h1 : y = Str.ofString "found"
  · subst h1; rfl
  by_cases h2 : y = Str.ofString "at"
  · subst h2; rfl
  by_cases h3 : y = Str.ofString "first"
  · subst h3; rfl
  by_cases h4 : y = Str.ofString "left"
  · subst h4; rfl
  by_cases h5 : y = Str.ofString "many"
  · subst h5; rfl
  by_cases h6 : y = Str.ofString "size"
  · subst h6; rfl
  by_cases h7 : y = Str.ofString "octets"
  · subst h7; rfl
  simp only [if_neg h1, if_neg h2, if_neg h3, if_neg h4, if_neg h5, if_neg h6, if_neg h7]
theorem uMap_turnZ (a1 ma fi le f a0 fi0 le0 ma0 sz o : Option Value) : (fun y => if y = Str.ofString "at" then a1 else if y = Str.ofString "many" then ma else if y = Str.ofString "first" then fi else if y = Str.ofString "left" then le else uMap f a0 fi0 le0 ma0 sz o y) = uMap f a1 fi le ma sz o := by
  funext y
  unfold uMap
  by_cases h1 : y = Str.ofString "found"
  · subst h1; rfl
  by_cases h2 : y = Str.ofString "at"
  · subst h2; rfl
  by_cases h3 : y = Str.ofString "first"
  · subst h3; rfl
  by_cases h4 : y = Str.ofString "left"
  · subst h4; rfl
  by_cases h5 : y = Str.ofString "many"
  · subst h5; rfl
  by_cases h6 : y = Str.ofString "size"
  · subst h6; rfl
  by_cases h7 : y = Str.ofString "octets"
  · subst h7; rfl
  simp only [if_neg h1, if_neg h2, if_neg h3, if_neg h4, if_neg h5, if_neg h6, if_neg h7]
theorem raisedN_sub {base h : Heap} {l : List Env} {e : Addr} {cls : Value} {news news' : List (Addr × Obj)} (R : RaisedN base l e cls news h) (hs : ∀ q ∈ news', q ∈ news) : RaisedN base l e cls news' h := by
  obtain ⟨B, a0, x1, x2, x3⟩ := R
  exact ⟨B, a0, x1, fun q hq => x2 q (hs q hq), x3⟩
set_option maxHeartbeats 4000000 in
theorem unpack_ret (w : World) {b : Array UInt8} {ks : List Int} {t u : Tok} {size : Int} (hk : KBw.bInts b = ks) (hz : ks.length ≤ 100000) (h0 : 0 ≤ size) (h1 : size ≤ 10000) :
    ReturnsR w 74 [.bytes b t, .int size u] (fun v => ∃ l, unp ks size.toNat = some l ∧ ∃ fb t', v = .bytes fb t' ∧ KBw.bInts fb = l) (unp ks size.toNat = none) := by
  have hoct : Octets ks := fun k h => KBw.ints_in (b := b) (by rw [hk]; exact h)
  unfold ReturnsR KK PP
  k_fill
  intro dp un cn cs a ccd cl outer A₀ base h₀ L m p loose mean mg mb news s Q E B F X N T hK hd hu hret hbad
  refine wpS_call ?_
  k_dflt (refine' codeS_def ?k1 ?k2 ?k3 ?k4 ?k5 ?kA ?kF ?kK ?k6 ?k7 ?k8 ?k9 ?kB ?_ ?c2 ?c3 ?c4 ?c5; (case kA => exact rfl); (case kF => exact rfl); (case kK => assumption); (case k1 => k_asm); (case k2 => k_asm); (case k3 => k_asm); (case k4 => k_asm); (case k5 => k_asm); (case k6 => k_is); (case k7 => k_is); (case k8 => ktr_room); (case k9 => exact BindsTo.of_eq rfl); (case c5 => decide); (case kB => exact locs rfl); (case c2 => exact rfl); (case c3 => exact rfl); (case c4 => exact rfl))
  intro g L' h' FG F' N' B' X' T'
  dsimp only
  replace F' := fr_eq (show Fr g L' h' (fun x => List.lookup x [(Str.ofString "size", .int size u), (Str.ofString "octets", .bytes b t)]) from F') (look2 _ _ _ _)
  refine execsS_cons (AssignS_swapped (TupleSK (itemsS_cons (CallS ?_))))
  k_steps
  refine callWithS_type0 (ba_newK rfl (by assumption) (by assumption) ?_)
  intro D hD FD ND neD
  refine itemsS_cons (wpS_of_any ?_)
  k_steps
  refine itemsS_nil ⟨by rw [PySem.sizeLine_eq]; exact (by decide : 2 ≤ 16777216), _, _, _, _, FD, ND, ?_⟩
  intro T0 hT FT NT
  k_steps
  dsimp only
  rename_i F2 N2
  replace F2 := fr_eq F2 (uMap_start _ _ _ _)
  replace N2 : News g L' _ ((D, baObj #[]) :: news) := cb_drop N2 (fun p hp => by repeat (first | exact hp | apply List.Mem.tail))
  refine execsS_cons (WhileS_inv (fun n m nx => ∃ (i : Int) (fb : Array UInt8) (fs : List Int) (t1 : Tok) (v1 v2 v3 : Option Value), 0 ≤ i ∧ i ≤ (ks.length : Int) ∧ n = size.toNat - fs.length ∧ KBw.bInts fb = fs ∧ fs.length ≤ size.toNat ∧
    (unp (ks.drop i.toNat) (size.toNat - fs.length)).map (fs ++ ·) = unp ks size.toNat ∧ nx = (D, baObj fb) :: news ∧ m = uMap (some (.ref D)) (some (.int i t1)) v1 v2 v3 (some (.int size u)) (some (.bytes b t))) F2 N2
    ⟨0, #[], [], _, none, none, none, Int.le_refl _, by omega, rfl, rfl, Nat.zero_le _, by simp, rfl, rfl⟩ ?_)
  clear F2 N2
  rintro n m₁ nx h₁ tk₁ F₁ N₁ ⟨i, fb, fs, t1, v1, v2, v3, hi0, hi1, hn, hfb, hfl, hinv, rfl, rfl⟩
  k_fold
  k_steps
  · refine execsS_cons (IfS ?_)
    k_steps
    · refine execsS_any ?_
      refine Raise44 rfl ?_
      k_steps
      refine call44K w _ _ rfl (by show dp + 1 + 5 < _; omega) B' (by assumption) X' (by assumption) T' rfl ?_
      intro h3 tk3 e t3 dx F3 N3 hC3 ne3
      refine Stop.go ⟨e, t3, dx, rfl, hC3, (N3 _ (.head _)).1, ?_⟩
      repeat (k_unfold; (try dsimp only))
      refine leave44 B' F3 N3 ne3 ?_
      intro h4 R4 hsm
      dsimp only
      refine hbad e g h4 _ ?_ FG hsm (raisedN_sub R4 fun q hq => by repeat (first | exact hq | apply List.Mem.tail))
      rw [← hinv, un_none0 (by assumption) (by assumption)]
      rfl
    · refine execsS_nil ?_
      dsimp only
      refine execsS_any ?_
      k_steps
      rename_i F3 N3
      replace N3 : News g L' _ ((D, baObj fb) :: news) := cb_drop N3 (fun p hp => by repeat (first | exact hp | apply List.Mem.tail))
      refine execsS_any ?_
      k_steps
      · (try dsimp only)
        refine execsS_any ?_
        k_steps
        (try dsimp only)
        refine execsS_cons (IfS ?_)
        k_steps
        · refine execsS_any ?_
          refine Raise44 rfl ?_
          k_steps
          refine call44K w _ _ rfl (by show dp + 1 + 5 < _; omega) B' (by assumption) X' (by assumption) T' rfl ?_
          intro h3 tk3 e t3 dx F3 N3 hC3 ne3
          refine Stop.go ⟨e, t3, dx, rfl, hC3, (N3 _ (.head _)).1, ?_⟩
          repeat (k_unfold; (try dsimp only))
          refine leave44 B' F3 N3 ne3 ?_
          intro h4 R4 hsm
          dsimp only
          refine hbad e g h4 _ ?_ FG hsm (raisedN_sub R4 fun q hq => by repeat (first | exact hq | apply List.Mem.tail))
          rw [← hinv, un_none1 hoct hi0 (by omega) (by assumption) (by assumption) (.inl (by assumption))]
          rfl
        · refine execsS_nil ?_
          dsimp only
          refine execsS_cons (IfS ?_)
          k_steps
          refine execsS_cons (IfS ?_)
          k_steps
          · refine execsS_any ?_
            refine Raise44 rfl ?_
            k_steps
            refine call44K w _ _ rfl (by show dp + 1 + 5 < _; omega) B' (by assumption) X' (by assumption) T' rfl ?_
            intro h3 tk3 e t3 dx F3 N3 hC3 ne3
            refine Stop.go ⟨e, t3, dx, rfl, hC3, (N3 _ (.head _)).1, ?_⟩
            repeat (k_unfold; (try dsimp only))
            refine leave44 B' F3 N3 ne3 ?_
            intro h4 R4 hsm
            dsimp only
            refine hbad e g h4 _ ?_ FG hsm (raisedN_sub R4 fun q hq => by repeat (first | exact hq | apply List.Mem.tail))
            rw [← hinv, un_none1 hoct hi0 (by omega) (by assumption) (by assumption) (.inr (by assumption))]
            rfl
          · refine execsS_nil ?_
            dsimp only
            refine execsS_cons (ExprS_method (D := D) (b := fb) ba_slot_extend ba_type_extend rfl ?_)
            k_steps
            rename_i N4 _ _
            refine Stop.go ⟨rfl, (N4 _ (.head _)).1, ?_⟩
            dsimp only
            k_steps
            refine ba_extendK (cs := List.take (clipAt ks.length (i + 1 + (ks.getD i.toNat 0 + 1)) - clipAt ks.length (i + 1)) (List.drop (clipAt ks.length (i + 1)) ks)) rfl (by assumption) (by assumption) neD hfb (by assumption) (by simp only [List.length_take, List.length_drop]; omega) ?_
            intro h6 fb2 F6 N6 hfb2
            obtain ⟨q1, q2, q3, q4, q5⟩ := un_lit (fs := fs) (i' := i + 1 + (ks.getD i.toNat 0 + 1)) hoct hi0 (by omega) (by assumption) (by assumption) (by assumption) (by assumption) rfl rfl
            refine ⟨rfl, ?_⟩
            dsimp only
            refine execsS_any ?_
            k_steps
            (try dsimp only)
            refine execsS_nil ?_
            dsimp only
            refine execsS_nil ?_
            rename_i F7 N7
            refine ⟨_, _, _, _, _, rfl, fr_eq F7 (uMap_turnL _ _ _ _ _ _ _ _ _ _ _ _), N7, hn ▸ q4, i + 1 + (ks.getD i.toNat 0 + 1), fb2, _, _, _, _, _, q2, q3, rfl, hfb2, q1, q5.trans hinv, rfl, rfl⟩
      · (try dsimp only)
        refine execsS_any ?_
        k_steps
        (try dsimp only)
        refine execsS_cons (IfS ?_)
        k_steps
        · refine execsS_any ?_
          refine Raise44 rfl ?_
          k_steps
          refine call44K w _ _ rfl (by show dp + 1 + 5 < _; omega) B' (by assumption) X' (by assumption) T' rfl ?_
          intro h3 tk3 e t3 dx F3 N3 hC3 ne3
          refine Stop.go ⟨e, t3, dx, rfl, hC3, (N3 _ (.head _)).1, ?_⟩
          repeat (k_unfold; (try dsimp only))
          refine leave44 B' F3 N3 ne3 ?_
          intro h4 R4 hsm
          dsimp only
          refine hbad e g h4 _ ?_ FG hsm (raisedN_sub R4 fun q hq => by repeat (first | exact hq | apply List.Mem.tail))
          rw [← hinv, un_none2 hoct hi0 (by omega) (by assumption) (by assumption) (by assumption)]
          rfl
        · refine execsS_nil ?_
          dsimp only
          refine execsS_cons (IfS ?_)
          k_steps
          refine execsS_cons (ExprS_method (D := D) (b := fb) ba_slot_extend ba_type_extend rfl ?_)
          k_steps
          rename_i N4 _
          refine Stop.go ⟨rfl, (N4 _ (.head _)).1, ?_⟩
          dsimp only
          k_steps
          refine ba_extendK (cs := List.replicate (ks.getD i.toNat 0 - 64 + 1).toNat 0) rfl (by assumption) (by assumption) neD hfb (bInts_zeros _) (by rw [List.length_replicate]; omega) ?_
          intro h6 fb2 F6 N6 hfb2
          obtain ⟨q1, q2, q3, q4, q5⟩ := un_zer (fs := fs) (i' := i + 1) hoct hi0 (by omega) (by assumption) (by assumption) (by assumption) rfl rfl
          refine ⟨rfl, ?_⟩
          dsimp only
          refine execsS_nil ?_
          dsimp only
          refine execsS_nil ?_
          refine ⟨_, _, _, _, _, rfl, fr_eq F6 (uMap_turnZ _ _ _ _ _ _ _ _ _ _ _), N6, hn ▸ q4, i + 1, fb2, _, _, _, _, _, q2, q3, rfl, hfb2, q1, q5.trans hinv, rfl, rfl⟩
  · refine execsS_any ?_
    k_steps
    have e : size.toNat - fs.length = 0 := by omega
    rw [e, unp_zero] at hinv
    refine hret _ _ _ ⟨_, hinv.symm, fb, _, rfl, by simp only [List.append_nil]; exact hfb⟩ (by assumption) (cb_drop (by assumption) fun p hp => .tail _ hp)
end Mine

/- S5 -/
namespace Mine
section
variable {prog : _root_.PySem.Program} {w : World} {A A₀ : Around} {s : Shared} {K : Frag} {L : Addr} {h₀ base : Heap} {m mg mb : Str → Option Value} {news : List (Addr × Obj)} {p : _root_.PySem.Program} {loose : List Str} {mean : ExcName → Option Value}
/-- as codeS_def, with a second way to end -/
theorem codeS_defO {env : Env} {outer : List Env} {R : Result → Shared → Prop} {name qual : Str} {params : Arguments} {body : List Stmt} {scope : Scope} {dV kV doc pm cdv ct oc : Value} {an od : Option Addr} {osl : Array (Option Value)} {f : Addr} {args : Args} {binds : List (Str × Value)}
    (B : Below A₀ base outer h₀) (F : Fr h₀ L s.heap m) (X₀ : K.In h₀) (N : News h₀ L s.heap news) (T : Top p loose mean mg mb h₀) (hA : A.frames = some (env :: outer)) (hf : env.frame = some L) (hke : env.scope.kind = .function)
    (ho : K.lookup f = some ⟨oc, od, .func (fnOf name qual params body scope dV kV doc pm an cdv ct), osl⟩) (hcd : codeIn K cdv qual = true) (hroom : A.depth < recursionLimit)
    (hbind : BindsTo s (fnOf name qual params body scope dV kV doc pm an cdv ct) args binds) (hloc : ∀ y ∈ binds, scope.names.lookup y.1 = some .local)
    (h : ∀ g L' h₁, Fr h₀ L g m → Fr g L' h₁ (fun y => binds.reverse.lookup y) → News g L' h₁ news → Below A base (env :: outer) g → K.In g → Top p loose mean mg mb g →
      wpS (model prog w) (A.deeper (envOf qual scope L' f cdv)) (execs body (envOf qual scope L' f cdv))
        (fun fl s' => LeaveK h₀ L m g R (match fl with | .ret v => v | _ => .none) s' ∨ R (.ok (.ret (match fl with | .ret v => v | _ => .none))) s')
        (fun e s' => wpAny (model prog w) (A.deeper (envOf qual scope L' f cdv)) (leaving (envOf qual scope L' f cdv) e) (fun _ s'' => R (.error e) s'') (fun e' s'' => R (.error e') s'') s')
        { s with heap := h₁, toks := s.toks + binds.length })
    (hco : scope.isCoroutine = false) (hgen : scope.isGenerator = false) (hk : scope.kind = .function)
    (hcell : ∀ x ∈ scope.names, x.2 ≠ .cell) : codeS (model prog w) A (.call (.ref f) args) R s := by
  have X := X₀.keeps F.keep
  obtain ⟨FG, BG, st, lv⟩ := groundX (R := R) B F N hA hf hke
  refine codeS_call_function hroom (X _ _ ho) rfl hco hgen rfl (codeRec_of X hcd) (hbind _ _ _ _ ?_)
  refine wpAny_newFunctionEnv hcell hloc (fun h₁ hns₀ hsb₀ => ⟨(T.nolimit.keeps F.keep).fresh _ hsb₀, codeS_func ?_⟩) hk
  have hk₁ : ∀ b o, s.heap.get? b = some o → h₁.get? b = some o := fun b o e => hsb₀.extBut b o (Nat.ne_of_lt (Heap.lt_size e)) (Heap.get?_push_of_some _ e)
  exact wpS_mono (h _ s.heap.objs.size h₁ FG ⟨hns₀, fun b o e => hk₁ b o (of_hideAll _ e), Nat.le_of_eq (hideAll_size _ _)⟩
    (fun p hp => ⟨hk₁ _ _ (N p hp).1, Nat.ne_of_lt (Heap.lt_size (N p hp).1), hideAll_none _ (List.mem_map_of_mem hp)⟩) BG (X₀.keeps st) (T.keeps st)) (fun fl s' hl => hl.elim (lv _ _) id) fun _ _ y => y
end
/-- as ReturnsS, for a caller whose frame is the only one -/
noncomputable def ReturnsH (w : World) (f : Addr) (args : List Value) (R : Value → Prop) : Prop :=
  ∀ (dp un : Nat) (cn : Str) (cs : Scope) (a : Addr) (ccd : Value) (cl : List (Str × Addr)) (A₀ : Around) (h₀ : Heap) (L : Addr) (m : Str → Option Value)
    (p : _root_.PySem.Program) (loose : List Str) (mean : ExcName → Option Value) (mg mb : Str → Option Value) (news : List (Addr × Obj)) (s : Shared) (Q E : Value → Shared → Prop),
    Below A₀ h₀ [] h₀ → Fr h₀ L s.heap m → (KK w).In h₀ → News h₀ L s.heap news → Top p loose mean mg mb h₀ → cs.kind = .function →
    dp + 20 < recursionLimit → un + 200 < cLine →
    (∀ v h' tk', R v → Fr h₀ L h' m → News h₀ L h' news → Q v { s with heap := h', toks := tk' }) →
    wpS (model PP w) (ktrTop dp un (some []) cn cs L a ccd cl []) (call (.ref f) args) Q E s
set_option maxHeartbeats 4000000 in
theorem heard_ret (w : World) {b : Array UInt8} {ks : List Int} {t u : Tok} {size : Int} (hk : KBw.bInts b = ks) (hz : ks.length ≤ 100000) (h0 : 0 ≤ size) (h1 : size ≤ 10000) :
    ReturnsH w 98 [.bytes b t, .int size u] (ToldV (unp ks size.toNat)) := by
  unfold ReturnsH KK PP
  k_fill
  intro dp un cn cs a ccd cl A₀ h₀ L m p loose mean mg mb news s Q E B F X N T hK hd hu hret
  refine wpS_call ?_
  k_dflt (refine' codeS_defO ?k1 ?k2 ?k3 ?k4 ?k5 ?kA ?kF ?kK ?k6 ?k7 ?k8 ?k9 ?kB ?_ ?c2 ?c3 ?c4 ?c5; (case kA => exact rfl); (case kF => exact rfl); (case kK => assumption); (case k1 => k_asm); (case k2 => k_asm); (case k3 => k_asm); (case k4 => k_asm); (case k5 => k_asm); (case k6 => k_is); (case k7 => k_is); (case k8 => ktr_room); (case k9 => exact BindsTo.of_eq rfl); (case c5 => decide); (case kB => exact locs rfl); (case c2 => exact rfl); (case c3 => exact rfl); (case c4 => exact rfl))
  intro g L' h' FG F' N' B' X' T'
  dsimp only
  replace F' := fr_eq (show Fr g L' h' (fun x => List.lookup x [(Str.ofString "size", .int size u), (Str.ofString "octets", .bytes b t)]) from F') (look2 _ _ _ _)
  refine execsS_cons (TryS (execsS_cons (ReturnS (CallS ?_))))
  k_steps
  refine callWithS_K (K := Mine.hd.heap_39 w.params) (by k_dflt k_is) ?_
  k_steps
  refine Stop.go ⟨by k_in, ?_⟩
  refine unpack_ret w hk hz h0 h1 _ _ _ _ _ _ _ _ _ _ _ _ _ _ _ _ _ _ _ _ _ _ B' (by assumption) X' (by assumption) T' rfl (by show dp + 1 + 10 < _; omega) (by show un + 3 + 100 < _; omega) ?_ ?_
  · rintro v h2 tk2 ⟨l, hl, fb, t', rfl, hfb⟩ F2 N2
    dsimp only
    repeat (k_unfold; (try dsimp only))
    refine .inl (leaveK_ F2 N2 ?_)
    intro kF kN
    refine hret _ _ _ ?_ kF kN
    rw [hl]
    exact ⟨fb, t', rfl, hfb⟩
  · intro e gg h2 tk2 hbad FG2 hsm R2
    have FH : Fr h₀ L' gg _ := ⟨FG2.ns, fun b o q => FG2.keep _ _ (B'.stays _ _ q), Nat.le_trans F.above (Nat.le_of_lt (Nat.lt_of_lt_of_le FG.ns.lt FG2.above))⟩
    refine catch44 w (cn := Str.ofString "_law_heard") (L := L') (a := 98) (ccd := .ref 97) (outer := [envX cn cs L a ccd cl]) (h₀ := h₀) (hh := gg) (news := news) rfl R2 FH hsm X (topRead_of T) rfl rfl ?_
    intro h3 st3 sm3 nn3
    dsimp only
    repeat (k_unfold; (try dsimp only))
    refine .inr ?_
    refine hret _ _ _ ?_ (FG.of_stays st3 (((Heap.UpToSlots.of_keeps FG2.keep).trans hsm).trans sm3)) fun q hq => ⟨(nn3 q hq).1, (N q hq).2.1, (nn3 q hq).2⟩
    rw [hbad]
    exact rfl
end Mine

/- P7 -/
namespace Mine
theorem zeros_drop {ks : List Int} : ∀ (n : Nat) (i : Int), 0 ≤ i → i + n ≤ ks.length → (∀ j, i ≤ j → j < i + n → ks.getD j.toNat 0 = 0) → ks.drop i.toNat = List.replicate n 0 ++ ks.drop (i + n).toNat
  | 0, i, _, _, _ => by simp
  | n + 1, i, h0, h1, h => by
    rw [drop_at h0 (by omega), h i (Int.le_refl _) (by omega), zeros_drop n (i + 1) (by omega) (by omega) (fun j x y => h j (by omega) (by omega))]
    have e : (i + 1 + (n : Int)).toNat = (i + ((n + 1 : Nat) : Int)).toNat := by omega
    rw [e]
    rfl
theorem tell_oct {ks : List Int} {i : Int} (ho : Octets ks) (h0 : 0 ≤ i) (h1 : i < ks.length) : Octets (tell ks i) := by
  have hb := many_bounds h0 h1
  intro k hk
  unfold tell at hk
  split at hk
  · rw [List.mem_singleton.mp hk]; omega
  · rcases List.mem_cons.mp hk with rfl | hk
    · omega
    · exact ho k (List.mem_of_mem_drop (List.mem_of_mem_take hk))
theorem packR_oct {ks : List Int} (ho : Octets ks) : ∀ (n : Nat) (i : Int), 0 ≤ i → ((ks.length : Int) - i).toNat ≤ n → Octets (packR ks i)
  | 0, i, h0, h => by rw [packR_end (by omega)]; exact fun k hk => by cases hk
  | n + 1, i, h0, h => by
    by_cases h1 : i < (ks.length : Int)
    · have hb := many_bounds h0 h1
      rw [packR_step h0 h1]
      intro k hk
      rcases List.mem_append.mp hk with hk | hk
      · exact tell_oct ho h0 h1 k hk
      · exact packR_oct ho n (i + manyAt ks i) (by omega) (by omega) k hk
    · rw [packR_end (by omega)]; exact fun k hk => by cases hk
theorem oct_app {a b : List Int} (ha : Octets a) (hb : Octets b) : Octets (a ++ b) := fun k hk => (List.mem_append.mp hk).elim (ha k) (hb k)
/-- what is told is heard again, whatever stands behind it -/
theorem roundR {ks raw : List Int} (ho : Octets ks) (hr : Octets raw) : ∀ (n : Nat) (i : Int), 0 ≤ i → i ≤ ks.length → ((ks.length : Int) - i).toNat = n → unp (packR ks i ++ raw) n = some (ks.drop i.toNat) := by
  intro n
  induction n using Nat.strongRecOn with
  | ind n ih =>
    intro i h0 hi hn
    by_cases h1 : i < (ks.length : Int)
    · have hb := many_bounds h0 h1
      have hoct := oct_app (oct_app (tell_oct ho h0 h1) (packR_oct ho _ (i + manyAt ks i) (by omega) (Nat.le_refl _))) hr
      have IH := ih ((ks.length : Int) - (i + manyAt ks i)).toNat (by omega) (i + manyAt ks i) (by omega) (by omega) rfl
      rw [packR_step h0 h1]
      obtain ⟨k, rfl⟩ : ∃ k, n = k + 1 := ⟨n - 1, by omega⟩
      have hk : (ks.length : Int) = i + k + 1 := by omega
      clear hn
      by_cases hz : ks.getD i.toNat 0 = 0
      · have ht : tell ks i = [63 + manyAt ks i] := by unfold tell; rw [if_pos hz]
        rw [ht] at hoct ⊢
        have e1 : (63 + manyAt ks i - 63).toNat = (manyAt ks i).toNat := by omega
        have e2 : k + 1 - (manyAt ks i).toNat = ((ks.length : Int) - (i + manyAt ks i)).toNat := by omega
        replace hoct : Octets ((63 + manyAt ks i) :: ([] ++ packR ks (i + manyAt ks i) ++ raw)) := hoct
        show unp ((63 + manyAt ks i) :: ([] ++ packR ks (i + manyAt ks i) ++ raw)) (k + 1) = _
        rw [unp_zer hoct (by omega), if_neg (by omega), e1, e2, List.nil_append, IH]
        have hme : manyAt ks i = zEnd ks i - i := by unfold manyAt; rw [if_pos hz]
        have hsp := zEnd_spec ks h0
        have hd := zeros_drop (ks := ks) (manyAt ks i).toNat i h0 (by omega) (fun j x y => (zc_parts (hsp.2.1 j x (by omega))).2.2)
        have e3 : (i + ((manyAt ks i).toNat : Int)).toNat = (i + manyAt ks i).toNat := by omega
        rw [hd, e3]
        rfl
      · have ht : tell ks i = (manyAt ks i - 1) :: (ks.drop i.toNat).take (manyAt ks i).toNat := by unfold tell; rw [if_neg hz]
        have hm64 : manyAt ks i ≤ 64 := by
          have := lEnd_bounds (ks := ks) h0 h1
          unfold manyAt
          rw [if_neg hz]
          omega
        rw [ht] at hoct ⊢
        have e1 : (manyAt ks i - 1 + 1).toNat = (manyAt ks i).toNat := by omega
        have e2 : k + 1 - (manyAt ks i).toNat = ((ks.length : Int) - (i + manyAt ks i)).toNat := by omega
        have hl : ((ks.drop i.toNat).take (manyAt ks i).toNat).length = (manyAt ks i).toNat := by rw [List.length_take, List.length_drop]; omega
        replace hoct : Octets ((manyAt ks i - 1) :: ((ks.drop i.toNat).take (manyAt ks i).toNat ++ packR ks (i + manyAt ks i) ++ raw)) := hoct
        show unp ((manyAt ks i - 1) :: ((ks.drop i.toNat).take (manyAt ks i).toNat ++ packR ks (i + manyAt ks i) ++ raw)) (k + 1) = _
        rw [unp_lit hoct (by omega), if_neg (by rw [List.length_append, List.length_append, hl]; omega), e1, e2, List.append_assoc]
        rw [List.drop_left' hl, List.take_left' hl, IH]
        have e3 : (i + manyAt ks i).toNat = i.toNat + (manyAt ks i).toNat := by omega
        rw [e3, ← List.drop_drop]
        exact congrArg some (List.take_append_drop _ _)
    · have e0 : n = 0 := by omega
      subst e0
      rw [unp_zero, List.drop_of_length_le (by omega)]
theorem roundL {ks raw : List Int} (ho : Octets ks) (hr : Octets raw) : unp (packL ks ++ raw) ks.length = some ks := by
  have := roundR ho hr ks.length 0 (Int.le_refl _) (by omega) (by omega)
  rw [packR_zero] at this
  simpa using this
theorem packL_length (ks : List Int) : (packL ks).length ≤ 2 * ks.length := by
  have := packR_length (ks := ks) ks.length 0 (Int.le_refl _) (by omega)
  rw [packR_zero] at this
  omega
theorem packL_pos {ks : List Int} (h : ks ≠ []) : 1 ≤ (packL ks).length := by
  have h1 : (0 : Int) < ks.length := by
    cases ks with
    | nil => exact absurd rfl h
    | cons x r => simp only [List.length_cons]; omega
  have ht := tell_length (ks := ks) (i := 0) (Int.le_refl _) h1
  rw [← packR_zero, packR_step (Int.le_refl _) h1, List.length_append]
  omega
theorem packL_oct {ks : List Int} (ho : Octets ks) : Octets (packL ks) := by
  rw [← packR_zero]
  exact packR_oct ho _ 0 (Int.le_refl _) (Nat.le_refl _)
end Mine

/- S6 -/
namespace Mine
section
variable {M : Model} {A : Around} {E : Value → Shared → Prop} {s : Shared} {env : Env} {pos : Pos}
theorem isTrueS_And {x y : Expr} {whole : Sem Value} {Q : Bool → Shared → Prop}
    (h : wpAny M A (isTrue x env (eval x env)) (fun b s₁ => if b = true then wpS M A (isTrue y env (eval y env)) Q E s₁ else Q false s₁) E s) : wpS M A (isTrue (.BoolOp .And [x, y] pos) env whole) Q E s := by
  rw [arm_isTrue_BoolOp]
  show wpS M A (do match BoolOp.And, ← isTrue x env (eval x env) with | .And, false => pure false | .Or, true => pure true | _, _ => allTrue .And [y] env) Q E s
  refine wpS_seq (wpAny_mono h (fun b s₁ h₁ => ?_) fun _ _ x => x)
  cases b
  · exact wpS_pure h₁
  · show wpS M A (do match BoolOp.And, ← isTrue y env (eval y env) with | .And, false => pure false | .Or, true => pure true | _, _ => allTrue .And [] env) Q E s₁
    refine wpS_bind (wpS_mono h₁ (fun c s₂ h₂ => ?_) fun _ _ x => x)
    cases c
    · exact wpS_pure h₂
    · exact wpS_pure h₂
theorem isTrueS_Compare {l r : Expr} {op : CmpOp} {whole : Sem Value} {Q : Bool → Shared → Prop}
    (h : wpS M A (eval l env) (fun a s₁ => wpAny M A (eval r env) (fun b s₂ => wpAny M A (compareOp op a b) (fun c s₃ => wpAny M A (truthy c) Q E s₃) E s₂) E s₁) E s)
    (hm : behindInMarks op r = false := by with_unfolding_all rfl) : wpS M A (isTrue (.Compare l [op] [r] pos) env whole) Q E s := fun Γ p hΓ h2 h3 => by
  simp only [isTrue_Compare1, markedBehindIn_of_false hm, Sem.wp_bind', Sem.wp_holding, Sem.wp_cmd_standAt, Sem.wp_operate]
  exact Sem.wp_mono M Γ _ (fun a p₁ s₁ h₁ => Sem.wp_mono M Γ _ (fun b _ s₂ h₂ => Sem.wp_mono M Γ _ (fun c p₃ s₃ h₃ => h₃ Γ p₃ hΓ)
    (fun _ _ _ h' => h') _ _ (h₂ Γ _ hΓ)) (fun _ _ _ h' => h') _ _ (h₁ Γ p₁ hΓ)) (fun _ _ _ h' => h') _ _ (h Γ p hΓ h2 h3)
theorem evalS_Compare {l r : Expr} {op : CmpOp} {Q : Value → Shared → Prop}
    (h : wpS M A (eval l env) (fun a s₁ => wpAny M A (eval r env) (fun b s₂ => wpAny M A (compareOp op a b) Q E s₂) E s₁) E s)
    (hm : behindInMarks op r = false := by with_unfolding_all rfl) : wpS M A (eval (.Compare l [op] [r] pos) env) Q E s := fun Γ p hΓ h2 h3 => by
  simp only [eval_Compare1, markedBehindIn_of_false hm, Sem.wp_bind', Sem.wp_holding, Sem.wp_cmd_standAt, Sem.wp_operate]
  exact Sem.wp_mono M Γ _ (fun a p₁ s₁ h₁ => Sem.wp_mono M Γ _ (fun b _ s₂ h₂ => h₂ Γ _ hΓ) (fun _ _ _ h' => h') _ _ (h₁ Γ p₁ hΓ))
    (fun _ _ _ h' => h') _ _ (h Γ p hΓ h2 h3)
theorem evalS_And {x y : Expr} {Q : Value → Shared → Prop}
    (h : wpS M A (eval x env) (fun v s₁ => wpAny M A (truthy v) (fun t s₂ => if t = true then wpS M A (eval y env) Q E s₂ else Q v s₂) E s₁) E s) : wpS M A (eval (.BoolOp .And [x, y] pos) env) Q E s := by
  show wpS M A (do
    let v ← eval x env
    standAt pos
    let t ← holding [v] (truthy v)
    match BoolOp.And, t with
    | .And, false | .Or, true => pure v
    | _, _ => boolOp pos .And [eval y env]) Q E s
  refine wpS_bind (wpS_mono h (fun v s₁ h₁ => wpS_seq (wpAny_standAt (wpS_seq (wpAny_holding (wpAny_mono h₁ (fun t s₂ h₂ => ?_) fun _ _ x => x))))) fun _ _ x => x)
  cases t
  · exact wpS_pure h₂
  · exact h₂
end
end Mine

/- S7 -/
namespace Mine
theorem bInts_inj {b c : Array UInt8} (h : KBw.bInts b = KBw.bInts c) : b = c := by
  obtain ⟨b⟩ := b
  obtain ⟨c⟩ := c
  unfold KBw.bInts at h
  congr 1
  have hi : Function.Injective (fun k : UInt8 => ((k.toNat : Nat) : Int)) := fun x y e => by
    have e2 : ((x.toNat : Nat) : Int) = ((y.toNat : Nat) : Int) := e
    have e' : x.toNat = y.toNat := by omega
    exact UInt8.toNat_inj.mp e'
  have h' : b.map (fun k : UInt8 => ((k.toNat : Nat) : Int)) = c.map (fun k : UInt8 => ((k.toNat : Nat) : Int)) := by simpa using h
  exact (List.map_inj_right (fun x y e => hi e)).mp h'
section
variable {prog : _root_.PySem.Program} {w : World} {A : Around} {E : Value → Shared → Prop} {s : Shared}
theorem eqAt_bytes {x : Array UInt8} {t u : Tok} : SeqAt.EqAt A s (.bytes x t) (.bytes x u) true := fun prog w E Q h => eqBool_bytes (by simpa using h)
theorem ne_pair {l b : Addr} {x : Array UInt8} {t1 t2 t3 t4 : Tok} {Q : Value → Shared → Prop} (hl : s.heap.IsList l [Value.bytes x t1, Value.bytes x t2].toArray) (hb : s.heap.IsList b [Value.bytes x t3, Value.bytes x t4].toArray)
    (hu : A.units < cLine) (h : Q (.bool false) s) : wpAny (model prog w) A (compareOp .NotEq (.ref l) (.ref b)) Q E s := by
  refine cmp_ofNotEq (SeqAt.RcNeAt.lists (e := fun _ => true) hl hb rfl hu (fun j h1 h2 => ?_) prog w E Q ?_)
  · have hj : j = 0 ∨ j = 1 := by simp at h1; omega
    rcases hj with rfl | rfl
    · exact eqAt_bytes
    · exact eqAt_bytes
  · show Q (.bool (!(List.range 2).all fun _ => true)) s
    rw [show (!(List.range 2).all fun _ => true) = false from by decide]
    exact h
theorem told_ne {o : Option (List Int)} {v1 v2 : Value} {Q : Value → Shared → Prop} (h1 : ToldV o v1) (h2 : ToldV o v2) (hu : A.units + 64 < cLine) (h : Q (.bool false) s) : wpAny (model prog w) A (compareOp .NotEq v1 v2) Q E s := by
  cases o with
  | none =>
    obtain rfl : v1 = .none := h1
    obtain rfl : v2 = .none := h2
    exact ne_dataH Reads.none Reads.none (by rfl) (by rfl) hu h
  | some l =>
    obtain ⟨b1, t1, rfl, e1⟩ := h1
    obtain ⟨b2, t2, rfl, e2⟩ := h2
    obtain rfl : b1 = b2 := bInts_inj (e1.trans e2.symm)
    refine ne_bytes ?_
    simpa using h
theorem told_eq {o : Option (List Int)} {v1 v2 : Value} {Q : Value → Shared → Prop} (h1 : ToldV o v1) (h2 : ToldV o v2) (hu : A.units + 64 < cLine) (h : Q (.bool true) s) : wpAny (model prog w) A (compareOp .Eq v1 v2) Q E s := by
  cases o with
  | none =>
    obtain rfl : v1 = .none := h1
    obtain rfl : v2 = .none := h2
    exact eq_dataH Reads.none Reads.none (by rfl) (by rfl) hu h
  | some l =>
    obtain ⟨b1, t1, rfl, e1⟩ := h1
    obtain ⟨b2, t2, rfl, e2⟩ := h2
    obtain rfl : b1 = b2 := bInts_inj (e1.trans e2.symm)
    refine eq_bytes ?_
    simpa using h
end
/-- a statement of the law that only goes on -/
def Went (s₁ : Shared) (m : Str → Option Value) (nw : List (Addr × Obj)) (f : Flow) (s' : Shared) : Prop :=
  f = .next ∧ ∃ h' tk', s' = { s₁ with heap := h', toks := tk' } ∧ Fr s₁.heap s₁.heap.objs.size h' m ∧ News s₁.heap s₁.heap.objs.size h' nw
theorem cutS {M : Model} {A : Around} {E : Value → Shared → Prop} {s s₁ : Shared} {env : Env} {st : Stmt} {rest : List Stmt} {Q : Flow → Shared → Prop} {m : Str → Option Value} {nw : List (Addr × Obj)}
    (h : wpS M A (exec st env) (Went s₁ m nw) E s)
    (k : ∀ h' tk', Fr s₁.heap s₁.heap.objs.size h' m → News s₁.heap s₁.heap.objs.size h' nw → wpS M A (execs rest env) Q E { s₁ with heap := h', toks := tk' }) : wpS M A (execs (st :: rest) env) Q E s := by
  refine execsS_cons (wpS_mono h (fun f s' hw => ?_) fun _ _ x => x)
  obtain ⟨rfl, h', tk', rfl, F, N⟩ := hw
  exact k h' tk' F N
end Mine

/- L0 -/
namespace Mine
theorem enterS {prog : _root_.PySem.Program} {w : World} {s : Shared} {R : Result → Shared → Prop} {a : Addr} {o : Obj} {fd : FuncData} {body : List Stmt} {args : Args} {binds : List (Str × Value)} {qual : Str} {scope : Scope} {cdv : Value}
    (ho : s.heap.get? a = some o) (hdata : o.data = .func fd) (hlim : s.heap.NoLimit) (hcd : s.heap.CodeRec fd.code fd.qualname)
    (hbody : fd.body = .stmts body) (hbind : BindsTo s fd args binds)
    (hcellB : (fd.scope.names.all fun x => decide (x.2 ≠ .cell)) = true) (hloc : ∀ x ∈ binds, fd.scope.names.lookup x.1 = some .local)
    (henv : ∀ L, callEnv fd L a = envOf qual scope L a cdv)
    (h : ∀ h₁, Fr s.heap s.heap.objs.size h₁ (fun x => binds.reverse.lookup x) → News s.heap s.heap.objs.size h₁ [] →
      wpS (model prog w) (callerA.deeper (envOf qual scope s.heap.objs.size a cdv)) (execs body (envOf qual scope s.heap.objs.size a cdv)) (fun f s' => R (.ok (.ret (match f with | .ret v => v | _ => .none))) s')
        (fun e s' => wpAny (model prog w) (callerA.deeper (envOf qual scope s.heap.objs.size a cdv)) (leaving (envOf qual scope s.heap.objs.size a cdv) e) (fun _ s'' => R (.error e) s'') (fun e' s'' => R (.error e') s'') s')
        { s with heap := h₁, toks := s.toks + binds.length })
    (hco : fd.scope.isCoroutine = false := by rfl) (hgen : fd.scope.isGenerator = false := by rfl) (hk : fd.scope.kind = .function := by rfl) :
    codeS (model prog w) callerA (.call (.ref a) args) R s := by
  have hcell : ∀ x ∈ fd.scope.names, x.2 ≠ .cell := fun x hx => of_decide_eq_true (List.all_eq_true.mp hcellB x hx)
  refine codeS_call_function (by decide) ho hdata hco hgen hbody hcd (hbind _ _ _ _ ?_)
  refine wpAny_newFunctionEnv hcell hloc (fun h₁ hns₀ hsb₀ => ⟨hlim.fresh _ hsb₀, codeS_func ?_⟩) hk
  have hk₁ : ∀ b o, s.heap.get? b = some o → h₁.get? b = some o := fun b o e => hsb₀.extBut b o (Nat.ne_of_lt (Heap.lt_size e)) (Heap.get?_push_of_some _ e)
  have := h h₁ ⟨hns₀, hk₁, Nat.le_refl _⟩ News.nil
  rw [← henv] at this
  exact this
section
variable {prog : _root_.PySem.Program} {w : World} {A : Around} {h₀ : Heap} {L : Addr} {m : Str → Option Value} {env : Env} {elt : Expr} {x : Str} {scope : Scope} {cl : List (Str × Addr)} {s : Shared} {S : List (Addr × Obj) → Prop} {P : Nat → Value → Prop} {Fin : List Value → List (Addr × Obj) → Prop} {news : List (Addr × Obj)}
/-- a comprehension whose items all have R -/
theorem comp_inv {n : Nat} {R : Value → Prop}
    (turn : ∀ v I oI C oC D m₂ ys h tk (E' : Value → Shared → Prop), (∃ i, P i v) → LCg.NsObj oC m₂ → m₂ x = some v → Fr h₀ L h m → News h₀ L h ((I, oI) :: (C, oC) :: (D, LCg.lst ys) :: news) → LCg.Off3 I C D news → ((@Ne Nat I C) ∧ (@Ne Nat I D) ∧ (@Ne Nat C D)) →
      wpAny (model prog w) A (eval elt (compEnvC scope cl C env)) (LCg.CompEnd h₀ L m { s with heap := h, toks := tk } I oI C oC D (LCg.lst ys) S (fun y news' => news' = news ∧ R y)) E' { s with heap := h, toks := tk })
    (fin : ∀ ys, (∀ y ∈ ys, R y) → ys.length = n → Fin ys news) : LCg.CompRest prog w A h₀ L m env elt x scope cl s S P Fin n 0 [] news := by
  have key : ∀ (j i : Nat) (ys : List Value), i + j = n → (∀ y ∈ ys, R y) → ys.length = i → LCg.CompRest prog w A h₀ L m env elt x scope cl s S P Fin j i ys news := by
    intro j
    induction j with
    | zero => exact fun i ys hi hy hl => LCg.CompRest.zero (fin ys hy (by omega))
    | succ j ih =>
      intro i ys hi hy hl
      refine LCg.CompRest.succ fun v I oI C oC D m₂ h tk E' hP hC hx F N off ne => ?_
      refine wpAny_mono (turn v I oI C oC D m₂ ys h tk E' ⟨i, hP⟩ hC hx F N off ne) (fun y s₂ hy2 => ?_) fun _ _ e => e
      obtain ⟨h', tk', news', x1, x2, x3, x4, x5, rfl, x6⟩ := hy2
      refine ⟨h', tk', _, x1, x2, x3, x4, x5, ih (i + 1) (ys ++ [y]) (by omega) (fun z hz => ?_) (by rw [List.length_append, hl]; rfl)⟩
      rcases List.mem_append.mp hz with hz | hz
      · exact hy z hz
      · rw [List.mem_singleton.mp hz]; exact x6
  exact key n 0 [] (by omega) (fun y hy => by cases hy) rfl
end
local macro_rules | `(tactic| walk_at "CompSrc") => `(tactic| ((with_reducible show LCg.CompSrc _ _ _ _ _ _ _ (Expr.Call _ _ _ _) _ _ _ _ _ _); refine stop_here ?_))
local macro_rules | `(tactic| walk_at "call builtin:sum") => `(tactic| refine stop_here ?_)
local macro_rules | `(tactic| walk_at "compareOp NotEq ref ref") => `(tactic| refine stop_here ?_)
local macro_rules | `(tactic| walk_at "eval IfExp") => `(tactic| refine stop_here ?_)
local macro_rules | `(tactic| walk_at "compareOp NotEq bytes bytes") => `(tactic| ((refine ne_empty (by kba_ints) ?_)))
local macro_rules | `(tactic| walk_at "call ref") => `(tactic| ((with_reducible show wpAny _ _ (call (Value.ref _) _) _ _ _); refine stop_here ?_))
theorem bytes_joinK {prog : _root_.PySem.Program} {w : World} {A : Around} {E : Value → Shared → Prop} {s : Shared} {l : Addr} {k : Nat} {xs : Array Value} {t : Tok} {Q : Value → Shared → Prop} (hl : s.heap.IsList l xs) (hb : BytesUpTo k xs.toList) (hk : k * xs.size ≤ 16777216)
    (hQ : ∀ c t' tk cs, KBw.bInts c = cs → cs.length ≤ k * xs.size → Q (.bytes c t') { s with toks := tk }) : wpAny (model prog w) A (call (.builtin "bytes.join") [.bytes #[] t, .ref l]) Q E s :=
  bytes_join hl hb hk fun c t' tk hc => hQ c t' tk _ rfl (by rw [KBw.ints_length]; exact hc)
/-- the locals of the law -/
def lMap (scr oct raw siz pla due at_ tur : Option Value) : Str → Option Value := fun y => if y = Str.ofString "script" then scr else if y = Str.ofString "octets" then oct else if y = Str.ofString "raw" then raw else if y = Str.ofString "size" then siz else if y = Str.ofString "place" then pla else if y = Str.ofString "due" then due else if y = Str.ofString "at" then at_ else if y = Str.ofString "turned" then tur else none
theorem lMap_start (a b c d : Option Value) : (fun y => if y = Str.ofString "raw" then a else if y = Str.ofString "octets" then b else if y = Str.ofString "script" then c else if y = Str.ofString "script" then d else none) = lMap c b a none none none none none := by
  funext y
  unfold lMap
  by_cases h1 : y = Str.ofString "script"
  · subst h1; rfl
  by_cases h2 : y = Str.ofString "octets"
  · subst h2; rfl
  by_cases h3 : y = Str.ofString "raw"
  · subst h3; rfl
  by_cases h4 : y = Str.ofString "size"
  · subst h4; rfl
  by_cases h5 : y = Str.ofString "place"
  · subst h5; rfl
  by_cases h6 : y = Str.ofString "due"
  · subst h6; rfl
  by_cases h7 : y = Str.ofString "at"
  · subst h7; rfl
  by_cases h8 : y = Str.ofString "turned"
  · subst h8; rfl
  simp only [if_neg h1, if_neg h2, if_neg h3, if_neg h4, if_neg h5, if_neg h6, if_neg h7, if_neg h8]
theorem lMap_sp (a b sc oc ra x1 x2 du at_ tu : Option Value) : (fun y => if y = Str.ofString "size" then a else if y = Str.ofString "place" then b else lMap sc oc ra x1 x2 du at_ tu y) = lMap sc oc ra a b du at_ tu := by
  funext y
  unfold lMap
  by_cases h1 : y = Str.ofString "script"
  · subst h1; rfl
  by_cases h2 : y = Str.ofString "octets"
  · subst h2; rfl
  by_cases h3 : y = Str.ofString "raw"
  · subst h3; rfl
  by_cases h4 : y = Str.ofString "size"
  · subst h4; rfl
  by_cases h5 : y = Str.ofString "place"
  · subst h5; rfl
  by_cases h6 : y = Str.ofString "due"
  · subst h6; rfl
  by_cases h7 : y = Str.ofString "at"
  · subst h7; rfl
  by_cases h8 : y = Str.ofString "turned"
  · subst h8; rfl
  simp only [if_neg h1, if_neg h2, if_neg h3, if_neg h4, if_neg h5, if_neg h6, if_neg h7, if_neg h8]
theorem lMap_due (d sc oc ra x1 x2 du at_ tu : Option Value) : (fun y => if y = Str.ofString "due" then d else lMap sc oc ra x1 x2 du at_ tu y) = lMap sc oc ra x1 x2 d at_ tu := by
  funext y
  unfold lMap
  by_cases h1 : y = Str.ofString "script"
  · subst h1; rfl
  by_cases h2 : y = Str.ofString "octets"
  · subst h2; rfl
  by_cases h3 : y = Str.ofString "raw"
  · subst h3; rfl
  by_cases h4 : y = Str.ofString "size"
  · subst h4; rfl
  by_cases h5 : y = Str.ofString "place"
  · subst h5; rfl
  by_cases h6 : y = Str.ofString "due"
  · subst h6; rfl
  by_cases h7 : y = Str.ofString "at"
  · subst h7; rfl
  by_cases h8 : y = Str.ofString "turned"
  · subst h8; rfl
  simp only [if_neg h1, if_neg h2, if_neg h3, if_neg h4, if_neg h5, if_neg h6, if_neg h7, if_neg h8]
theorem cutS2 {M : Model} {A : Around} {E : Value → Shared → Prop} {s s₁ : Shared} {env : Env} {st : Stmt} {rest : List Stmt} {Q : Flow → Shared → Prop} {g : Option Value → Option Value → Str → Option Value} {nw : List (Addr × Obj)}
    (h : wpS M A (exec st env) (fun f s' => ∃ x y, Went s₁ (g x y) nw f s') E s)
    (k : ∀ h' tk' x y, Fr s₁.heap s₁.heap.objs.size h' (g x y) → News s₁.heap s₁.heap.objs.size h' nw → wpS M A (execs rest env) Q E { s₁ with heap := h', toks := tk' }) : wpS M A (execs (st :: rest) env) Q E s := by
  refine execsS_cons (wpS_mono h (fun f s' hw => ?_) fun _ _ x => x)
  obtain ⟨x, y, rfl, h', tk', rfl, F, N⟩ := hw
  exact k h' tk' x y F N
theorem lMap_at (a sc oc ra x1 x2 du at_ tu : Option Value) : (fun y => if y = Str.ofString "at" then a else lMap sc oc ra x1 x2 du at_ tu y) = lMap sc oc ra x1 x2 du a tu := by
  funext y
  unfold lMap
  by_cases h1 : y = Str.ofString "script"
  · subst h1; rfl
  by_cases h2 : y = Str.ofString "octets"
  · subst h2; rfl
  by_cases h3 : y = Str.ofString "raw"
  · subst h3; rfl
  by_cases h4 : y = Str.ofString "size"
  · subst h4; rfl
  by_cases h5 : y = Str.ofString "place"
  · subst h5; rfl
  by_cases h6 : y = Str.ofString "due"
  · subst h6; rfl
  by_cases h7 : y = Str.ofString "at"
  · subst h7; rfl
  by_cases h8 : y = Str.ofString "turned"
  · subst h8; rfl
  simp only [if_neg h1, if_neg h2, if_neg h3, if_neg h4, if_neg h5, if_neg h6, if_neg h7, if_neg h8]
theorem lMap_tu (a sc oc ra x1 x2 du at_ tu : Option Value) : (fun y => if y = Str.ofString "turned" then a else lMap sc oc ra x1 x2 du at_ tu y) = lMap sc oc ra x1 x2 du at_ a := by
  funext y
  unfold lMap
  by_cases h1 : y = Str.ofString "script"
  · subst h1; rfl
  by_cases h2 : y = Str.ofString "octets"
  · subst h2; rfl
  by_cases h3 : y = Str.ofString "raw"
  · subst h3; rfl
  by_cases h4 : y = Str.ofString "size"
  · subst h4; rfl
  by_cases h5 : y = Str.ofString "place"
  · subst h5; rfl
  by_cases h6 : y = Str.ofString "due"
  · subst h6; rfl
  by_cases h7 : y = Str.ofString "at"
  · subst h7; rfl
  by_cases h8 : y = Str.ofString "turned"
  · subst h8; rfl
  simp only [if_neg h1, if_neg h2, if_neg h3, if_neg h4, if_neg h5, if_neg h6, if_neg h7, if_neg h8]
theorem good_true {c : ClaimW} {cl : Str → Option Addr} {mean : ExcName → Option Value} {args : List WData} {s₁ s' : Shared} (hk : ∀ b o, s₁.heap.get? b = some o → s'.heap.get? b = some o) (hg : s'.gens = #[]) (hn : ∀ cls, c.raises args cls = false) (hp : c.post args (.bool true) args = true)
    (hos : s'.os = s₁.os) : GoodW c cl mean args s₁ (.ok (.ret (.bool true))) s' := ⟨.inl ⟨_, .bool true, [], rfl, hn, .bool true, hp, unshared_nil⟩, hk, hos, hg⟩
set_option maxHeartbeats 4000000 in
theorem law_holds : PySem.Challenge.rw_np0172_01.Holds := by
  refine Mine.hd ?_
  k_fill
  intro w s₀ s₁ mg mb G Y fa o pm cd doc dV kV ho hd hcd hD hmg hg args vals as hpre hlay hrd hwl hlo
  have KX := kIn_of Y
  have X := (Ground.X G).1
  have V := (Ground.X G).2
  try w_nolog (first | (have GL := glob_more (Ground.glob G (by first | k_qdec | decide +kernel) (by first | k_qdec | decide +kernel)) V) | (have GL := glob_more (Ground.glob G (by decide +kernel)) V))
  refine Ground.open G ?_
  intro T B D TE TW
  try (refine guard_noD D (by decide +kernel) ?_; clear D)
  obtain ⟨_, _, M⟩ := bmod_of_top T
  have TA := at_of_top T
  try (obtain ⟨_, _, he, B0⟩ := based_of_top T rfl hmg ho hd; have he' : cd = _ := he; subst he'; clear he)
  clear hmg
  wrow_args hpre hlay hrd hwl hlo
  refine ⟨?_, ?_⟩
  · refine good_true (fun _ _ e => e) hg (raisesW_false ?_) ?_ rfl
    · wrow_none_raised
    · wrow_post
  obtain rfl := Dflts.noKw hD
  obtain rfl := Dflts.pos_none hD rfl
  refine wpS_call ?_
  refine' enterS (qual := Str.ofString "law") ?k1 ?k2 ?k3 ?k4 ?k5 ?k6 ?k7 ?k8 ?k9 ?_ ?k10 ?k11 ?k12
  case k1 => exact ho
  case k2 => exact hd
  case k3 => exact T.nolimit
  case k4 => exact hcd
  case k5 => rfl
  case k6 => exact BindsTo.of_eq rfl
  case k8 => exact locs rfl
  case k7 => rfl
  case k9 => exact fun _ => rfl
  case k10 => rfl
  case k11 => rfl
  case k12 => rfl
  clear hd TA hcd hD ho
  dsimp only [docDef]
  intro h₁ F N
  rename_i sc hs hlay0 hL1 hr1 hl2 u4 u3 la vs u0 hLs ra w1 r0 hI hrr hc63 hct
  have K0 : Below callerA s₁.heap [] s₁.heap := below_caller s₁.heap
  replace F := fr_eq (show Fr s₁.heap s₁.heap.objs.size h₁ (fun x => List.lookup x [(Str.ofString "script", .ref la)]) from F) (look1 _ _)
  clear r0 w1 ra hs hL1
  refine execsS_any ?_
  k_steps
  dsimp only
  refine execsS_any ?_
  k_steps
  refine bj_method ?_
  k_steps
  refine Stop.go ?_
  rename_i D1 ws1 _ hI1 hC1 _ _ _ D2 ws2 h2 F2 N2 hI2 hC2 hL2 l12
  have hw2 := hI2.length
  refine LCg.CompSrc.ledger (by rfl) (by k_asm) (by k_asm) (by k_mem) (by rw [PySem.sizeLine_eq, List.size_toArray]; omega) ?_
  intro g2
  refine comp_inv (R := fun v => ∃ c t, v = .bytes c t ∧ c.size ≤ 200) ?_ ?_
  · rintro v I oI C oC D m₂ ys hh tk2 E2 ⟨i, hi⟩ hC hx F3 N3 off ne
    obtain ⟨k, t, rfl, hk⟩ := IntsAre.at hI2 i v (by simpa using hi)
    simp only [LCg.Off3, and_true] at off
    k_fold
    k_steps
    refine Stop.go ?_
    refine part_ret w (by split <;> omega) _ _ _ _ _ _ _ _ _ _ _ _ _ _ _ _ _ _ _ _ _ _ _ K0 F3 KX N3 T rfl (by decide) (by decide) ?_
    rintro v h3 tk3 ⟨c, t', rfl, hc⟩ F4 N4
    k_steps
  · intro ys hys hlen
    k_steps
    rename_i D3 h3 tk3 F3 N3 _
    refine bytes_joinK (k := 200) (xs := ys.toArray) (News.isList N3 (List.Mem.head _)) hys (by rw [List.size_toArray] at hlen ⊢; omega) ?_
    intro c tc tk4 cs hcs hcl
    rw [List.size_toArray] at hcl hlen
    k_steps
    rename_i t5 k5 hkb h6 F6 N6
    generalize KBy.picked c none (some 300) = b0 at hkb F6
    generalize hks : List.take (clipAt cs.length 300) cs = ks at hkb
    have hkl : ks.length ≤ 300 := by rw [← hks, List.length_take, clip_nat (by omega)]; omega
    clear hks hcs hcl hys hlen
    replace N6 : News s₁.heap s₁.heap.objs.size _ [(D1, W.listOf ws1.toArray 0)] := cb_drop N6 (fun p hp => by repeat (first | exact hp | apply List.Mem.tail))
    refine execsS_any ?_
    k_steps
    rename_i hIy hLy D4 h7 tk7 _ h8 t8 k8 hin8 hsum8 h9 F9 N9
    have hrb := KBa.ints_make hin8
    generalize byteArr (List.map (fun k' => k'.fmod 256) (List.take 63 sc)) = rb at hrb F9
    generalize hrs : List.map (fun k' => k'.fmod 256) (List.take 63 sc) = rs at hrb
    have hrl : rs.length ≤ 63 := by rw [← hrs, List.length_map, List.length_take]; omega
    clear hrs hin8 hsum8 hIy hLy
    replace N9 : News s₁.heap s₁.heap.objs.size _ [(D1, W.listOf ws1.toArray 0)] := cb_drop N9 (fun p hp => by repeat (first | exact hp | apply List.Mem.tail))
    replace F9 := fr_eq F9 (lMap_start _ _ _ _)
    refine execsS_any ?_
    k_steps
    refine Stop.go (sumK rfl F9 N9 (News.isList N9 (List.Mem.head _)) hI1 ?_)
    intro h10 tk10 t10 F10 N10
    k_steps
    refine Stop.go ?_
    refine wpAny_mono (Q := fun v s' => Stop (∃ i t h' tk', v = .int i t ∧ s' = { s₁ with heap := h', toks := tk' } ∧ Fr s₁.heap s₁.heap.objs.size h' (lMap (some (.ref D1)) (some (.bytes b0 t5)) (some (.bytes rb t8)) none none none none none) ∧ News s₁.heap s₁.heap.objs.size h' [(D1, W.listOf ws1.toArray 0)])) ?_ ?_ (fun _ _ e => e)
    · refine wpAny_IfExp ?_
      k_steps
      refine Stop.go ?_
      rename_i D5 h11 F11 N11 _
      refine ne_intsK (us := []) (ms := []) (News.isList N11 (.tail _ (.head _))) hI1 (News.isList N11 (.head _)) .nil (by ke_room) ?_
      by_cases hne : List.take 63 sc = []
      · rw [decide_eq_true hne]
        k_steps
        refine Stop.go ⟨_, _, _, _, rfl, rfl, by assumption, cb_drop (by assumption) fun p hp => .tail _ hp⟩
      · have hpos : 0 < (List.take 63 sc).length := List.length_pos_iff.mpr hne
        rw [decide_eq_false hne]
        k_steps
        refine Stop.go ⟨_, _, _, _, rfl, rfl, by assumption, cb_drop (by assumption) fun p hp => .tail _ hp⟩
    · rintro v s' ⟨pl, tpl, h12, tk12, rfl, rfl, F12, N12⟩
      k_steps
      rename_i F13 N13
      have hz0 := fmod_lo (List.take 63 sc).sum (n := 150) (by decide)
      have hz1 := fmod_hi (List.take 63 sc).sum (n := 150) (by decide)
      generalize (List.take 63 sc).sum.fmod 150 = sz at F13 hz0 hz1
      replace F13 := fr_eq F13 (lMap_sp _ _ _ _ _ _ _ _ _ _)
      replace N13 : News s₁.heap s₁.heap.objs.size _ [(D1, W.listOf ws1.toArray 0)] := cb_drop N13 (fun p hp => by repeat (first | exact hp | apply List.Mem.tail))
      refine execsS_any ?_
      k_steps
      refine Stop.go ?_
      refine packed_ret w hkb (by omega) _ _ _ _ _ _ _ _ _ _ _ _ _ _ _ _ _ _ _ _ _ _ _ K0 F13 KX N13 T rfl (by decide) (by decide) ?_
      rintro v h14 tk14 ⟨db, td, rfl, hdb⟩ F14 N14
      k_steps
      rename_i F15 N15
      replace F15 := fr_eq F15 (lMap_due _ _ _ _ _ _ _ _ _)
      have hdl := packL_length ks
      refine cutS (s₁ := s₁) (m := lMap (some (.ref D1)) (some (.bytes b0 t5)) (some (.bytes rb t8)) (some (.int sz (tk10 + 1))) (some (.int pl tpl)) (some (.bytes db td)) none none) (nw := [(D1, W.listOf ws1.toArray 0)]) (IfS' (isTrueS_And ?_)) ?_
      · k_steps
        · have hne : ks ≠ [] := List.length_pos_iff.mp (by assumption)
          have hdp := packL_pos hne
          refine isTrueS_Compare (CallS ?_)
          k_steps
          refine callWithS_K (K := Mine.hd.heap_39 w.params) (by k_dflt k_is) ?_
          k_steps
          refine Stop.go ⟨by k_in, ?_⟩
          refine pack_ret w hkb (by omega) (.inr hne) (by omega) _ _ _ _ _ _ _ _ _ _ _ _ _ _ _ _ _ _ _ _ _ _ K0 (by assumption) KX (by assumption) T rfl (by decide) (by decide) ?_
          rintro v h16 tk16 ⟨_, hv⟩ F16 N16
          obtain rfl := hv (by omega)
          k_steps
          exact execsS_nil ⟨rfl, _, _, rfl, by assumption, by assumption⟩
        · exact execsS_nil ⟨rfl, _, _, rfl, by assumption, by assumption⟩
      · intro h16 tk16 F16 N16
        refine cutS (s₁ := s₁) (m := (lMap (some (.ref D1)) (some (.bytes b0 t5)) (some (.bytes rb t8)) (some (.int sz (tk10 + 1))) (some (.int pl tpl)) (some (.bytes db td)) none none)) (nw := [(D1, W.listOf ws1.toArray 0)]) (IfS' (isTrueS_Compare (ListSK (itemsS_cons (CallS ?_))))) ?_
        · k_steps
          refine callWithS_K (K := Mine.hd.heap_39 w.params) (by k_dflt k_is) ?_
          k_steps
          refine Stop.go ⟨by k_in, ?_⟩
          refine pack_ret w hkb (by omega) (.inl (by omega)) (by omega) _ _ _ _ _ _ _ _ _ _ _ _ _ _ _ _ _ _ _ _ _ _ K0 (by assumption) KX (by assumption) T rfl (by decide) (by decide) ?_
          rintro v h17 tk17 ⟨hv, _⟩ F17 N17
          obtain ⟨fb, tf, rfl, hfb⟩ := hv (by omega)
          obtain rfl : db = fb := bInts_inj (hdb.trans hfb.symm)
          refine itemsS_cons (CallS ?_)
          k_steps
          refine callWithS_K (K := Mine.hd.heap_39 w.params) (by k_dflt k_is) ?_
          k_steps
          refine Stop.go ⟨by k_in, ?_⟩
          refine pack_ret w hkb (by omega) (.inl (by omega)) (by omega) _ _ _ _ _ _ _ _ _ _ _ _ _ _ _ _ _ _ _ _ _ _ K0 (by assumption) KX (by assumption) T rfl (by decide) (by decide) ?_
          rintro v h18 tk18 ⟨hv2, _⟩ F18 N18
          obtain ⟨fb2, tf2, rfl, hfb2⟩ := hv2 (by omega)
          obtain rfl : db = fb2 := bInts_inj (hdb.trans hfb2.symm)
          refine itemsS_nil ⟨by rw [PySem.sizeLine_eq]; exact (by decide : 2 ≤ 16777216), _, _, _, _, F18, N18, ?_⟩
          intro T1 hT1 FT1 NT1
          k_steps
          refine Stop.go ?_
          rename_i D7 h19 F19 N19 _
          refine ne_pair (x := db) (News.isList N19 (.tail _ (.head _))) (News.isList N19 (.head _)) (by ke_room) ?_
          k_steps
          exact execsS_nil ⟨rfl, _, _, rfl, by assumption, cb_drop (by assumption) fun p hp => .tail _ (.tail _ hp)⟩
        · intro h20 tk20 F20 N20
          have hoct : Octets ks := octets_of hkb
          have hoctr : Octets rs := octets_of hrb
          refine cutS (s₁ := s₁) (m := (lMap (some (.ref D1)) (some (.bytes b0 t5)) (some (.bytes rb t8)) (some (.int sz (tk10 + 1))) (some (.int pl tpl)) (some (.bytes db td)) none none)) (nw := [(D1, W.listOf ws1.toArray 0)]) (IfS' (isTrueS_Compare (ListSK (itemsS_cons (CallS ?_))))) ?_
          · k_steps
            refine callWithS_K (K := Mine.hd.heap_39 w.params) (by k_dflt k_is) ?_
            k_steps
            refine Stop.go ⟨by k_in, ?_⟩
            refine heard_ret w hdb (by omega) (by omega) (by omega) _ _ _ _ _ _ _ _ _ _ _ _ _ _ _ _ _ _ _ _ K0 (by assumption) KX (by assumption) T rfl (by decide) (by decide) ?_
            intro v h21 tk21 hv F21 N21
            rw [Int.toNat_natCast, show unp (packL ks) ks.length = some ks from by simpa using roundL (raw := []) hoct (fun k hk => by cases hk)] at hv
            obtain ⟨fb, tf, rfl, hfb⟩ := hv
            obtain rfl : b0 = fb := bInts_inj (hkb.trans hfb.symm)
            refine itemsS_cons (CallS ?_)
            k_steps
            refine callWithS_K (K := Mine.hd.heap_39 w.params) (by k_dflt k_is) ?_
            k_steps
            refine Stop.go ⟨by k_in, ?_⟩
            refine heard_ret w (ks := packL ks ++ rs) (by assumption) (by rw [List.length_append]; omega) (by omega) (by omega) _ _ _ _ _ _ _ _ _ _ _ _ _ _ _ _ _ _ _ _ K0 (by assumption) KX (by assumption) T rfl (by decide) (by decide) ?_
            intro v h22 tk22 hv F22 N22
            rw [Int.toNat_natCast, roundL hoct hoctr] at hv
            obtain ⟨fb2, tf2, rfl, hfb2⟩ := hv
            obtain rfl : b0 = fb2 := bInts_inj (hkb.trans hfb2.symm)
            refine itemsS_nil ⟨by rw [PySem.sizeLine_eq]; exact (by decide : 2 ≤ 16777216), _, _, _, _, F22, N22, ?_⟩
            intro T1 hT1 FT1 NT1
            k_steps
            refine Stop.go ?_
            rename_i D7 h19 F19 N19 _
            refine ne_pair (x := b0) (News.isList N19 (.tail _ (.head _))) (News.isList N19 (.head _)) (by ke_room) ?_
            k_steps
            exact execsS_nil ⟨rfl, _, _, rfl, by assumption, cb_drop (by assumption) fun p hp => .tail _ (.tail _ hp)⟩
          · intro h23 tk23 F23 N23
            refine cutS2 (s₁ := s₁) (g := fun x y => lMap (some (.ref D1)) (some (.bytes b0 t5)) (some (.bytes rb t8)) (some (.int sz (tk10 + 1))) (some (.int pl tpl)) (some (.bytes db td)) x y) (nw := [(D1, W.listOf ws1.toArray 0)]) (IfS ?_) ?_
            · k_steps
              · have hne : ks ≠ [] := List.length_pos_iff.mp (by assumption)
                have hdp := packL_pos hne
                refine execsS_any ?_
                k_steps
                rename_i F24 N24
                replace F24 := fr_eq F24 (lMap_at _ _ _ _ _ _ _ _ _)
                have ha0 := fmod_lo pl (n := ((packL ks).length : Int)) (by omega)
                have ha1 := fmod_hi pl (n := ((packL ks).length : Int)) (by omega)
                generalize pl.fmod ((packL ks).length : Int) = aa at F24 ha0 ha1
                refine execsS_any ?_
                k_steps
                rename_i F25 N25
                obtain ⟨tb, htb⟩ : ∃ tb, tb = KBy.picked db none (some aa) ++ #[(((packL ks).getD aa.toNat 0 + pl.fdiv 300).fmod 256).toNat.toUInt8] ++ KBy.picked db (some (aa + 1)) none := ⟨_, rfl⟩
                rw [← htb] at F25
                replace F25 := fr_eq F25 (lMap_tu _ _ _ _ _ _ _ _ _)
                replace N25 : News s₁.heap s₁.heap.objs.size _ [(D1, W.listOf ws1.toArray 0)] := cb_drop N25 (fun p hp => by repeat (first | exact hp | apply List.Mem.tail))
                have hdbs : db.size = (packL ks).length := by rw [← hdb, KBw.ints_length]
                have hts : tb.size ≤ 2 * db.size + 1 := by
                  rw [htb, Array.size_append, Array.size_append]
                  have q1 := KBc.size_picked_le db none (some aa)
                  have q2 := KBc.size_picked_le db (some (aa + 1)) none
                  have q3 : (#[(((packL ks).getD aa.toNat 0 + pl.fdiv 300).fmod 256).toNat.toUInt8] : Array UInt8).size = 1 := rfl
                  omega
                clear htb
                obtain ⟨ts, hT⟩ : ∃ ts, KBw.bInts tb = ts := ⟨_, rfl⟩
                have htl : ts.length = tb.size := by rw [← hT, KBw.ints_length]
                refine execsS_cons (IfS' (isTrueS_Compare (CallS ?_)))
                k_steps
                refine callWithS_K (K := Mine.hd.heap_39 w.params) (by k_dflt k_is) ?_
                k_steps
                refine Stop.go ⟨by k_in, ?_⟩
                refine heard_ret w hT (by omega) (by omega) (by omega) _ _ _ _ _ _ _ _ _ _ _ _ _ _ _ _ _ _ _ _ K0 (by assumption) KX (by assumption) T rfl (by decide) (by decide) ?_
                intro v26 h26 tk26 hv26 F26 N26
                k_steps
                refine Stop.go ?_
                refine told_ret w hT (by omega) (by omega) (by omega) _ _ _ _ _ _ _ _ _ _ _ _ _ _ _ _ _ _ _ _ _ _ _ K0 (by assumption) KX (by assumption) T rfl (by decide) (by decide) ?_
                intro v27 h27 tk27 hv27 F27 N27
                k_steps
                refine told_ne hv26 hv27 (by ke_room) ?_
                k_steps
                refine execsS_nil ?_
                dsimp only
                exact execsS_nil ⟨_, _, rfl, _, _, rfl, by assumption, by assumption⟩
              · exact execsS_nil ⟨_, _, rfl, _, _, rfl, by assumption, by assumption⟩
            · intro h30 tk30 x30 y30 F30 N30
              refine execsS_cons (ReturnS (evalS_And (evalS_Compare (CallS ?_))))
              k_steps
              refine callWithS_K (K := Mine.hd.heap_39 w.params) (by k_dflt k_is) ?_
              k_steps
              refine Stop.go ⟨by k_in, ?_⟩
              refine heard_ret w hrb (by omega) hz0 (by omega) _ _ _ _ _ _ _ _ _ _ _ _ _ _ _ _ _ _ _ _ K0 (by assumption) KX (by assumption) T rfl (by decide) (by decide) ?_
              intro v31 h31 tk31 hv31 F31 N31
              k_steps
              refine Stop.go ?_
              refine told_ret w hrb (by omega) hz0 (by omega) _ _ _ _ _ _ _ _ _ _ _ _ _ _ _ _ _ _ _ _ _ _ _ K0 (by assumption) KX (by assumption) T rfl (by decide) (by decide) ?_
              intro v32 h32 tk32 hv32 F32 N32
              k_steps
              refine told_eq hv31 hv32 (by ke_room) ?_
              k_steps
              refine evalS_Compare (CallS ?_)
              k_steps
              refine callWithS_K (K := Mine.hd.heap_39 w.params) (by k_dflt k_is) ?_
              k_steps
              refine Stop.go ⟨by k_in, ?_⟩
              refine heard_ret w hdb (by omega) hz0 (by omega) _ _ _ _ _ _ _ _ _ _ _ _ _ _ _ _ _ _ _ _ K0 (by assumption) KX (by assumption) T rfl (by decide) (by decide) ?_
              intro v33 h33 tk33 hv33 F33 N33
              k_steps
              refine Stop.go ?_
              refine told_ret w hdb (by omega) hz0 (by omega) _ _ _ _ _ _ _ _ _ _ _ _ _ _ _ _ _ _ _ _ _ _ _ K0 (by assumption) KX (by assumption) T rfl (by decide) (by decide) ?_
              intro v34 h34 tk34 hv34 F34 N34
              k_steps
              refine told_eq hv33 hv34 (by ke_room) ?_
              refine GoodW.toG (good_true F34.keep hg (raisesW_false ?_) ?_ rfl)
              · wrow_none_raised
              · wrow_post
end Mine

theorem PySem.Challenge.cw_np0172_01_holds : PySem.Challenge.rw_np0172_01.Holds := by
  exact Mine.law_holds

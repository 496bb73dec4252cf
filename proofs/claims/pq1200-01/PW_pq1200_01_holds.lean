import PyProof.Rows.All
import Wide.All
import OpenK.AllK
import Wide.FinOn
import Lean
import PySem.Challenge.RW_pq1200_01
set_option Elab.async false
set_option maxRecDepth 100000
set_option linter.unusedSimpArgs false
set_option linter.unusedVariables false
set_option maxHeartbeats 4000000
open PySem PySem.W PyProof.Rows
namespace Mine
local macro_rules | `(tactic| walk_at $s:str) => `(tactic| k_extra $s)
section
open PySem PySem.W PySem.Calls PySem.Spec PyProof.Rows

/-- a code that no decoder is -/
noncomputable def noDec : Code → Bool
  | .builtin id _ => !(Builtin.Bytes.decodersThatHold.contains id)
  | _ => true
noncomputable def Clean (Γ : PySem.Ctx) : Prop := noDec Γ.code = true ∧ ∀ q ∈ Γ.below, noDec q.1 = true

noncomputable def wpX {α : Type} (M : Model) (A : Around) (t : Sem α) (Q : α → Shared → Prop) (s : Shared) : Prop :=
  ∀ Γ p, Γ.In A → Clean Γ → Sem.wp M Γ t (fun a _ s' => Q a s') (fun _ _ _ => False) p s
noncomputable def codeX (M : Model) (A : Around) (c : Code) (R : Result → Shared → Prop) (s : Shared) : Prop :=
  ∀ Γ p, Γ.code = c → Γ.Below A → Clean Γ → wpCode M Γ R p s

section
variable {α β : Type} {M : Model} {A : Around} {s : Shared}
theorem X_any {t : Sem α} {Q : α → Shared → Prop} (h : wpAny M A t Q (fun _ _ => False) s) : wpX M A t Q s := fun Γ p hΓ _ => h Γ p hΓ
theorem X_pure {a : α} {Q : α → Shared → Prop} (h : Q a s) : wpX M A (pure a) Q s := fun _ _ _ _ => h
theorem X_mono {t : Sem α} {Q Q' : α → Shared → Prop} (h : wpX M A t Q s) (hQ : ∀ a s, Q a s → Q' a s) : wpX M A t Q' s :=
  fun Γ p hΓ hc => Sem.wp_mono M Γ t (fun a _ s => hQ a s) (fun _ _ _ h => h) p s (h Γ p hΓ hc)
theorem X_bind {m : Sem α} {f : α → Sem β} {Q : β → Shared → Prop} (h : wpX M A m (fun a s' => wpX M A (f a) Q s') s) : wpX M A (m >>= f) Q s := fun Γ p hΓ hc => by
  rw [Sem.wp_bind']
  exact Sem.wp_mono M Γ m (fun a p' s' h' => h' Γ p' hΓ hc) (fun _ _ _ h' => h') p s (h Γ p hΓ hc)
theorem X_abind {m : Sem α} {f : α → Sem β} {Q : β → Shared → Prop} (h : wpAny M A m (fun a s' => wpX M A (f a) Q s') (fun _ _ => False) s) : wpX M A (m >>= f) Q s := X_bind (X_any h)
theorem X_map {m : Sem α} {f : α → β} {Q : β → Shared → Prop} (h : wpX M A m (fun a s' => Q (f a) s') s) : wpX M A (f <$> m) Q s := fun Γ p hΓ hc => by rw [Sem.wp_map]; exact h Γ p hΓ hc
theorem X_onRaise {m : Sem α} {k : Value → Sem Unit} {Q : α → Shared → Prop} (h : wpX M A m Q s) : wpX M A (m.onRaise k) Q s := fun Γ p hΓ hc => by
  rw [Sem.wp_onRaise]
  exact Sem.wp_mono M Γ m (fun _ _ _ h' => h') (fun _ _ _ h' => h'.elim) p s (h Γ p hΓ hc)
theorem X_holding {vs : List Value} {m : Sem α} {Q : α → Shared → Prop} (h : wpX M A m Q s) : wpX M A (holding vs m) Q s := fun Γ p hΓ hc => by rw [Sem.wp_holding]; exact h Γ p hΓ hc
theorem X_keep {vs : List Value} {m : Sem α} {Q : α → Shared → Prop} (h : wpX M A m Q s) : wpX M A (m.keep vs) Q s := fun Γ p hΓ hc => by rw [Sem.wp_keep]; exact h Γ p hΓ hc
theorem X_standAt {pos : Pos} {Q : Unit → Shared → Prop} (h : Q () s) : wpX M A (standAt pos) Q s := fun _ _ _ _ => h
theorem X_point {Q : Unit → Shared → Prop} (h : Q () s) : wpX M A point Q s := fun _ _ _ _ => h
theorem X_of_in1 {t : Sem α} {Q : α → Shared → Prop} (h : wpX M A.in1 t Q s) : wpX M A t Q s :=
  fun Γ p hΓ => h Γ p ⟨hΓ.1, hΓ.2.1, hΓ.2.2.1, hΓ.2.2.2.1, Nat.le_succ_of_le hΓ.2.2.2.2⟩

theorem codeX_mono {c : Code} {R R' : Result → Shared → Prop} (h : codeX M A c R s) (hR : ∀ r s, R r s → R' r s) : codeX M A c R' s :=
  fun Γ p hc hΓ hC => wpCode_mono hR (h Γ p hc hΓ hC)
theorem clean_goto {Γ : PySem.Ctx} {c : Code} (h : Clean Γ) (hn : noDec c = true) : Clean (Γ.goto c) := ⟨hn, h.2⟩
theorem clean_enter {Γ : PySem.Ctx} {c : Code} {hd : Option Value} {p : Pos} (h : Clean Γ) (hn : noDec c = true) : Clean (Γ.enter c hd p) := ⟨hn, fun q hq => by
  rcases List.mem_cons.mp hq with rfl | hq
  · exact h.1
  · exact h.2 q hq⟩
theorem codeX_of_tree {c : Code} {R : Result → Shared → Prop}
    (h : wpX M (A.under c) (M.den c) (fun fin s' => match fin with | .done f => R (.ok f) s' | .again c' => noDec c' = true ∧ c'.quiet = true ∧ codeX M A c' R s') s) : codeX M A c R s := fun Γ p hc hΓ hC => by
  rw [wpCode_iff_wp, hc]
  refine Sem.wp_mono M Γ _ (fun fin p' s' h' => ?_) (fun _ _ _ h' => h'.elim) p s (h Γ p (hc ▸ hΓ.in) hC)
  cases fin with
  | done f => exact h'
  | again c' => exact ⟨h'.2.1, h'.2.2 (Γ.goto c') p' rfl (hΓ.goto c') (clean_goto hC h'.1)⟩
theorem X_run {c : Code} {h : Option Value} {Q : Flow → Shared → Prop} (hn : noDec c = true)
    (hc : codeX M (A.mark h) c (fun r s' => match r with | .ok f => Q f s' | .error _ => False) s) (hnb : h ≠ some byPass := by intro x; cases x) : wpX M A (run c h) Q s :=
  fun Γ p hΓ hC => by
    rw [Sem.wp_run]
    exact wpCode_mono (fun r s' h' => by cases r <;> exact h') (hc _ p rfl (hΓ.enter c h p hnb) (clean_enter hC hn))
theorem X_call {f : Value} {pos : List Value} {kw : List (Str × Value)} {Q : Value → Shared → Prop}
    (hc : codeX M A (.call f ⟨pos, kw⟩) (fun r s' => match r with | .ok (.ret v) => Q v s' | _ => False) s) : wpX M A (call f pos kw) Q s := fun Γ p hΓ hC => by
  rw [Sem.wp_cmd_call]
  exact wpCode_mono (fun r s' h' => by
    cases r with
    | error e => exact h'
    | ok f => cases f <;> exact h') (hc _ p rfl (hΓ.enter _ none p (by intro x; cases x)) (clean_enter hC rfl))
theorem X_runValue {c : Code} {Q : Value → Shared → Prop} (hn : noDec c = true)
    (hc : codeX M A c (fun r s' => match r with | .ok (.ret v) => Q v s' | _ => False) s) : wpX M A (runValue c) Q s := fun Γ p hΓ hC => by
  rw [Sem.wp_runValue]
  exact wpCode_mono (fun r s' h' => by
    cases r with
    | error e => exact h'
    | ok f => cases f <;> exact h') (hc _ p rfl (hΓ.enter _ none p (by intro x; cases x)) (clean_enter hC hn))

/-- nobody on the stack holds the bytearray -/
theorem X_exported {self : Value} {Q : Bool → Shared → Prop} (hg : A.guards = some []) (h : Q false s) : wpX M A (Builtin.Bytes.exported self) Q s := fun Γ p hΓ hC => by
  unfold Builtin.Bytes.exported
  show Q (((Γ.code, p) :: Γ.below).any _) s
  have hgs : guardsOf ((Γ.code, p) :: Γ.below) = [] := by rw [guardsOf_cons]; exact hΓ.2.2.2.1 [] hg
  have key : ∀ q ∈ ((Γ.code, p) :: Γ.below), noDec q.1 = true ∧ q.1.isGuard = false := fun q hq => by
    refine ⟨?_, ?_⟩
    · rcases List.mem_cons.mp hq with rfl | hq
      · exact hC.1
      · exact hC.2 q hq
    · cases hx : q.1.isGuard with
      | false => rfl
      | true =>
        have : q.1 ∈ guardsOf ((Γ.code, p) :: Γ.below) := by
          unfold guardsOf
          exact List.mem_filter.mpr ⟨List.mem_map_of_mem hq, hx⟩
        rw [hgs] at this; cases this
  rw [List.any_eq_false.mpr fun q hq => ?_]
  · exact h
  · obtain ⟨h1, h2⟩ := key q hq
    obtain ⟨c, pp⟩ := q
    dsimp only at h1 h2
    have gd : ∀ n : String, guardIds.contains n = true → ∀ args, c = .builtin n args → False := fun n hn args e => by
      subst e
      have : Code.isGuard (.builtin n args) = guardIds.contains n := rfl
      rw [this, hn] at h2; cases h2
    cases c with
    | builtin id args =>
      obtain ⟨pos, kw⟩ := args
      by_cases e1 : id = "bytearray.__contains__"
      · exact (gd "bytearray.__contains__" (by decide +kernel) _ (by rw [e1])).elim
      by_cases e2 : id = "bytearray.__mod__"
      · exact (gd "bytearray.__mod__" (by decide +kernel) _ (by rw [e2])).elim
      by_cases e3 : id = "bytearray.__rmod__"
      · exact (gd "bytearray.__rmod__" (by decide +kernel) _ (by rw [e3])).elim
      by_cases e4 : id = "_struct.pack_into.held"
      · exact (gd "_struct.pack_into.held" (by decide +kernel) _ (by rw [e4])).elim
      by_cases e5 : id = "bytearray.find.held"
      · exact (gd "bytearray.find.held" (by decide +kernel) _ (by rw [e5])).elim
      delta Builtin.Bytes.exported.match_1
      dsimp only
      show ¬ (dite (id = "bytearray.__contains__") _ _) = true
      rw [dif_neg e1, dif_neg e2, dif_neg e3, dif_neg e4, dif_neg e5]
      cases pos with
      | nil => exact Bool.false_ne_true
      | cons v tl =>
        have h3 : Builtin.Bytes.decodersThatHold.contains id = false := by
          have : (!(Builtin.Bytes.decodersThatHold.contains id)) = true := h1
          cases h : Builtin.Bytes.decodersThatHold.contains id with
          | false => rfl
          | true => rw [h] at this; cases this
        show ¬ (Builtin.Bytes.sameRef v self && Builtin.Bytes.decodersThatHold.contains id) = true
        rw [h3, Bool.and_false]; exact Bool.false_ne_true
    | _ => exact Bool.false_ne_true
end
end
section
open PySem PySem.W PySem.Calls PySem.Spec PyProof.Rows
open Builtin

theorem ba_mro : mroOf (.type "bytearray") = pure [.type "bytearray", .type "object"] := by rw [mroOf_type]; kernel_rfl
theorem ba_sub : isSubtype (.type "bytearray") (.type "bytearray") = pure true := by rw [isSubtype_type]; kernel_rfl
theorem ba_look_new : typeLookup (.type "bytearray") "__new__" = pure (some (.builtin "bytearray.__new__")) := by rw [typeLookup_type, builtinLookup_eq_fast]; kernel_rfl
theorem ba_slot_init : Slot "bytearray" "__init__" "bytearray.__init__" :=
  .of (owner := "bytearray") (n := "__init__") (by rw [typeLookup_type, builtinLookup_eq_fast]; kernel_rfl) (by decide +kernel) (by decide +kernel) (by decide +kernel)
    (by first | exact .inl (by decide +kernel) | exact .inr (by decide +kernel)) ba_sub
theorem ba_entry_init : entryFor table "bytearray.__init__" = some Builtin.«bytearray.__init__» := entryFor_of_tree (by kernel_rfl)
theorem ba_entry_new : entryFor table "bytearray.__new__" = some Builtin.«list.__new__» := by
  have : entryFor treeTable "bytearray.__new__" = some Builtin.«list.__new__» := by kernel_rfl
  rw [table_eq_tree]; exact this
theorem ba_plain_new : plainId "bytearray.__new__" = true := by decide +kernel
theorem ba_called : TypeCalled "bytearray" "bytearray.__new__" "bytearray.__init__" :=
  ⟨by decide +kernel, by decide +kernel, ⟨_, _, ba_mro⟩, madeBy_type ba_mro ba_look_new (by decide +kernel), by decide +kernel, ba_sub, ba_slot_init⟩
theorem ba_typeCall : checkTypeCall "bytearray" ⟨[], []⟩ = pure () := by kernel_rfl
theorem ba_newCall : checkBuiltinCall "bytearray.__new__" ⟨[.type "bytearray"], []⟩ = pure () := by kernel_rfl
set_option maxRecDepth 1000000 in
set_option maxHeartbeats 4000000 in
theorem ba_owner_new : ("bytearray.__new__".splitOn ".__new__").headD "" = "bytearray" := by simp +decide [String.splitOn, String.splitOnAux]
theorem ba_owner : Manifest.owners.lookup (String.ofList ['y','a','r','r','a','e','t','y','b'].reverse) = some Manifest.sig_bytearray := by kernel_rfl
theorem ba_args_init (a : Value) : argsOk "bytearray.__init__" ⟨[a], []⟩ := by
  unfold argsOk; rw [signature?_of (id := "bytearray.__init__") (n := ['_', '_', 't', 'i', 'n', 'i', '_', '_']) (o := ['y','a','r','r','a','e','t','y','b']) (by kernel_rfl) ba_owner]; kernel_rfl
theorem ba_slot_len : Slot "bytearray" "__len__" "bytearray.__len__" :=
  .of (owner := "bytearray") (n := "__len__") (by rw [typeLookup_type, builtinLookup_eq_fast]; kernel_rfl) (by decide +kernel) (by decide +kernel) (by decide +kernel)
    (by first | exact .inl (by decide +kernel) | exact .inr (by decide +kernel)) ba_sub
theorem ba_entry_len : entryFor table "bytearray.__len__" = some Builtin.«bytearray.__len__» := entryFor_of_tree (by kernel_rfl)
theorem ba_args_len (a : Value) : argsOk "bytearray.__len__" ⟨[a], []⟩ := by
  unfold argsOk; rw [signature?_of (id := "bytearray.__len__") (n := ['_', '_', 'n', 'e', 'l', '_', '_']) (o := ['y','a','r','r','a','e','t','y','b']) (by kernel_rfl) ba_owner]; kernel_rfl
theorem ba_slot_getitem : Slot "bytearray" "__getitem__" "bytearray.__getitem__" :=
  .of (owner := "bytearray") (n := "__getitem__") (by rw [typeLookup_type, builtinLookup_eq_fast]; kernel_rfl) (by decide +kernel) (by decide +kernel) (by decide +kernel)
    (by first | exact .inl (by decide +kernel) | exact .inr (by decide +kernel)) ba_sub
theorem ba_entry_getitem : entryFor table "bytearray.__getitem__" = some Builtin.«bytearray.__getitem__» := entryFor_of_tree (by kernel_rfl)
theorem ba_args_getitem (a b : Value) : argsOk "bytearray.__getitem__" ⟨[a, b], []⟩ := by
  unfold argsOk; rw [signature?_of (id := "bytearray.__getitem__") (n := ['_', '_', 'm', 'e', 't', 'i', 't', 'e', 'g', '_', '_']) (o := ['y','a','r','r','a','e','t','y','b']) (by kernel_rfl) ba_owner]; kernel_rfl
theorem ba_slot_extend : Slot "bytearray" "extend" "bytearray.extend" :=
  .of (owner := "bytearray") (n := "extend") (by rw [typeLookup_type, builtinLookup_eq_fast]; kernel_rfl) (by decide +kernel) (by decide +kernel) (by decide +kernel)
    (by first | exact .inl (by decide +kernel) | exact .inr (by decide +kernel)) ba_sub
theorem ba_entry_extend : entryFor table "bytearray.extend" = some Builtin.«bytearray.extend» := entryFor_of_tree (by kernel_rfl)
theorem ba_args_extend (a b : Value) : argsOk "bytearray.extend" ⟨[a, b], []⟩ := by
  unfold argsOk; rw [signature?_of (id := "bytearray.extend") (n := ['d','n','e','t','x','e']) (o := ['y','a','r','r','a','e','t','y','b']) (by kernel_rfl) ba_owner]; kernel_rfl
theorem ba_type_extend : typeOf (.builtin "bytearray.extend") = pure (.type "method_descriptor") := by show builtinType _ = _; rw [builtinType_eq_fast]; kernel_rfl
theorem ba_plainAttrs : PlainAttrs "bytearray" :=
  ⟨⟨"bytearray.__getattribute__", by rw [typeLookup_type, builtinLookup_eq_fast]; kernel_rfl, by decide +kernel⟩, by rw [typeLookup_type, builtinLookup_eq_fast]; kernel_rfl⟩
theorem ba_look_buffer : typeLookup (.type "bytearray") "__buffer__" = pure (some (.builtin "bytearray.__buffer__")) := by rw [typeLookup_type, builtinLookup_eq_fast]; kernel_rfl
theorem ba_look_release : typeLookup (.type "bytearray") "__release_buffer__" = pure (some (.builtin "bytearray.__release_buffer__")) := by rw [typeLookup_type, builtinLookup_eq_fast]; kernel_rfl
end
section
open PySem PySem.W PySem.Calls PySem.Spec PyProof.Rows
open Builtin
section
variable {prog : Program} {w : World} {A : Around} {E : Value → Shared → Prop} {s : Shared}

theorem int_no_bytes : typeLookup (.type "int") "__bytes__" = pure none := by rw [typeLookup_type, builtinLookup_eq_fast]; kernel_rfl
theorem bytes_has_bytes : typeLookup (.type "bytes") "__bytes__" = pure (some (.builtin "bytes.__bytes__")) := by rw [typeLookup_type, builtinLookup_eq_fast]; kernel_rfl
theorem ba_no_bytes : typeLookup (.type "bytearray") "__bytes__" = pure none := by rw [typeLookup_type, builtinLookup_eq_fast]; kernel_rfl
theorem ba_no_index : typeLookup (.type "bytearray") "__index__" = pure none := by rw [typeLookup_type, builtinLookup_eq_fast]; kernel_rfl

theorem new_head {a : Value} {Q : Value → Shared → Prop}
    (h : wpAny (model prog w) A.in1 (Builtin.«bytes.__new__» ⟨[.type "bytes", a], []⟩) (fun fin s' => match fin with | .done f => wants Q E (.ok f) s' | .again c' => c'.quiet = true ∧ codeAny (model prog w) A c' (wants Q E) s') (fun e s' => wants Q E (.error e) s') s) :
    codeAny (model prog w) A (.call (.builtin "bytes.__new__") ⟨[.type "bytes", a], []⟩) (wants Q E) s := by
  refine codeAny_of_tree ?_
  show wpAny _ A.in1 (do checkBuiltinCall "bytes.__new__" ⟨[.type "bytes", a], []⟩; again (.builtin "bytes.__new__" ⟨[.type "bytes", a], []⟩)) _ _ s
  refine wpAny_bind (wpAny_of_eq (F.bm_newCall _) (wpAny_pure ⟨plainId_quiet F.bm_plain _, codeAny_builtin F.bm_entry ?_⟩))
  rw [Around.under_plainId F.bm_plain _]
  exact h

theorem bytes_of_int {n : Int} {t : Tok} {Q : Value → Shared → Prop} (h0 : 0 ≤ n) (h1 : n ≤ 1048576)
    (h : Q (.bytes (Array.replicate n.toNat 0) s.toks) { s with toks := s.toks + 1 }) : wpAny (model prog w) A (call (.type "bytes") [.int n t]) Q E s := by
  refine callType_codes (Q₁ := fun obj s₁ => s₁.TypeIs obj "bytes" ∧ Q obj s₁) F.bm_called (F.bm_typeCall _) F.entry_object_init (new_head ?_) fun obj s₁ h₁ => ?_
  · unfold Builtin.«bytes.__new__»
    refine wpAny_bind (wpAny_of_eq (a := true) rfl ?_)
    refine bm_if_false rfl ?_
    refine wpAny_bind (wpAny_of_eq F.bm_sub ?_)
    refine bm_if_false rfl ?_
    refine wpAny_bind (wpAny_of_eq (F.bm_bind _) ?_)
    refine wpAny_bind (wpAny_of_eq (a := ()) rfl ?_)
    refine wpAny_bind (wpAny_of_eq (a := ()) rfl ?_)
    refine bm_if_false rfl ?_
    refine wpAny_bind (wpAny_specialOf (T := "int") (typeIs_int _ _ _) int_no_bytes ?_)
    refine wpAny_bind (wpAny_of_eq (a := false) rfl ?_)
    refine bm_if_false rfl ?_
    refine wpAny_bind (wpAny_specialOf (T := "int") (typeIs_int _ _ _) F.slot_int_index.lookup ?_)
    refine bm_if_false rfl ?_
    refine wpAny_bind (wpAny_of_eq (a := Except.ok n) rfl ?_)
    have hf : Bytes.fitsIndex n = true := by simp only [Bytes.fitsIndex, Bool.and_eq_true, decide_eq_true_eq]; omega
    dsimp only
    rw [hf]
    refine bm_if_false rfl ?_
    refine wpAny_ite ?_
    rw [if_neg (by omega)]
    refine wpAny_ite ?_
    rw [if_neg (by omega)]
    refine bm_if_false (by unfold Bytes.tooLong; rw [sizeLine_eq]; exact decide_eq_false (by omega)) ?_
    refine wpAny_bind (wpAny_rule ?_)
    refine wpAny_bind (wpAny_mkBytes (wpAny_pure ?_) ?_)
    · exact ⟨typeIs_bytes _ _ _, h⟩
    · rw [Array.size_replicate, sizeLine_eq]; omega
  · exact ⟨h₁.1, F.args_object_init_2 obj _, object_init_meets F.bm_called.init.lookup F.bm_called.made (by decide) prog w A.in1 _ s₁ ⟨h₁.1, rfl, h₁.2⟩⟩

theorem bytes_of_bytes {b : Array UInt8} {t : Tok} {Q : Value → Shared → Prop} (h : Q (.bytes b t) s) : wpAny (model prog w) A (call (.type "bytes") [.bytes b t]) Q E s := by
  refine callType_codes (Q₁ := fun obj s₁ => s₁.TypeIs obj "bytes" ∧ Q obj s₁) F.bm_called (F.bm_typeCall _) F.entry_object_init (new_head ?_) fun obj s₁ h₁ => ?_
  · unfold Builtin.«bytes.__new__»
    refine wpAny_bind (wpAny_of_eq (a := true) rfl ?_)
    refine bm_if_false rfl ?_
    refine wpAny_bind (wpAny_of_eq F.bm_sub ?_)
    refine bm_if_false rfl ?_
    refine wpAny_bind (wpAny_of_eq (F.bm_bind _) ?_)
    refine wpAny_bind (wpAny_of_eq (a := ()) rfl ?_)
    refine wpAny_bind (wpAny_of_eq (a := ()) rfl ?_)
    refine bm_if_false rfl ?_
    refine wpAny_bind (wpAny_specialOf (T := "bytes") (typeIs_bytes _ _ _) bytes_has_bytes ?_)
    dsimp only
    refine wpAny_bind (wpAny_rule ?_)
    refine wpAny_bind (wpAny_typeOf (T := "bytes") (typeIs_bytes _ _ _) ?_)
    refine bm_if_true rfl ?_
    refine wpAny_pure ?_
    exact ⟨typeIs_bytes _ _ _, h⟩
  · exact ⟨h₁.1, F.args_object_init_2 obj _, object_init_meets F.bm_called.init.lookup F.bm_called.made (by decide) prog w A.in1 _ s₁ ⟨h₁.1, rfl, h₁.2⟩⟩

theorem ba_slotIsOwn_buffer {a : Addr} {Q : Bool → Shared → Prop} (hT : s.TypeIs (.ref a) "bytearray") (h : Q true s) : wpAny (model prog w) A (Bytes.slotIsOwn (.ref a) "__buffer__") Q E s := by
  unfold Bytes.slotIsOwn
  refine wpAny_bind (wpAny_specialOf hT ba_look_buffer ?_)
  dsimp only
  refine bm_if_false (by decide +kernel) ?_
  have key : ∀ x : String, x = "bytearray" → wpAny (model prog w) A (isInstance (.ref a) (.type x)) Q E s := fun x hx => by rw [hx]; exact wpAny_isInstance hT ba_sub h
  exact key _ (by decide +kernel)
theorem ba_slotIsOwn_release {a : Addr} {Q : Bool → Shared → Prop} (hT : s.TypeIs (.ref a) "bytearray") (h : Q true s) : wpAny (model prog w) A (Bytes.slotIsOwn (.ref a) "__release_buffer__") Q E s := by
  unfold Bytes.slotIsOwn
  refine wpAny_bind (wpAny_specialOf hT ba_look_release ?_)
  dsimp only
  refine bm_if_false (by decide +kernel) ?_
  have key : ∀ x : String, x = "bytearray" → wpAny (model prog w) A (isInstance (.ref a) (.type x)) Q E s := fun x hx => by rw [hx]; exact wpAny_isInstance hT ba_sub h
  exact key _ (by decide +kernel)
theorem ba_ownRelease {a : Addr} {Q : Bool → Shared → Prop} (hT : s.TypeIs (.ref a) "bytearray") (h : Q false s) : wpAny (model prog w) A (Bytes.ownRelease (.ref a)) Q E s := by
  unfold Bytes.ownRelease
  exact wpAny_bind (ba_slotIsOwn_release hT (wpAny_pure h))
theorem ba_payload {a : Addr} {o : Obj} {b : Array UInt8} {n : Nat} {Q : Array UInt8 → Shared → Prop} (ho : s.heap.get? a = some o) (hd : o.data = .bytearray b n) (h : Q b s) : wpAny (model prog w) A (Bytes.payload (.ref a)) Q E s := by
  unfold Bytes.payload Bytes.payload?
  refine wpAny_bind (wpAny_bind (wpAny_load ho ?_))
  rw [hd]
  exact wpAny_pure (wpAny_pure h)
theorem ba_buffer {id : String} {full : Bool} {a : Addr} {o : Obj} {b : Array UInt8} {n : Nat} {Q : Option (Array UInt8) → Shared → Prop} (ho : s.heap.get? a = some o) (hc : o.cls = .type "bytearray") (hd : o.data = .bytearray b n) (h : Q (some b) s) :
    wpAny (model prog w) A (Bytes.buffer? id (.ref a) full) Q E s := by
  have hT : s.TypeIs (.ref a) "bytearray" := ⟨o, ho, hc⟩
  unfold Bytes.buffer?
  refine wpAny_bind (wpAny_specialOf hT ba_look_buffer ?_)
  refine wpAny_bind (ba_slotIsOwn_buffer hT ?_)
  refine bm_if_false rfl ?_
  refine wpAny_bind (wpAny_specialOf hT ba_look_buffer ?_)
  refine wpAny_bind (ba_ownRelease hT ?_)
  refine bm_if_false rfl ?_
  exact wpAny_bind (ba_payload ho hd (wpAny_pure h))

theorem bytes_of_ba {a : Addr} {o : Obj} {b : Array UInt8} {n : Nat} {Q : Value → Shared → Prop} (ho : s.heap.get? a = some o) (hc : o.cls = .type "bytearray") (hd : o.data = .bytearray b n) (hz : b.size ≤ 1048576)
    (h : Q (.bytes b s.toks) { s with toks := s.toks + 1 }) : wpAny (model prog w) A (call (.type "bytes") [.ref a]) Q E s := by
  have hT : s.TypeIs (.ref a) "bytearray" := ⟨o, ho, hc⟩
  refine callType_codes (Q₁ := fun obj s₁ => s₁.TypeIs obj "bytes" ∧ Q obj s₁) F.bm_called (F.bm_typeCall _) F.entry_object_init (new_head ?_) fun obj s₁ h₁ => ?_
  · unfold Builtin.«bytes.__new__»
    refine wpAny_bind (wpAny_of_eq (a := true) rfl ?_)
    refine bm_if_false rfl ?_
    refine wpAny_bind (wpAny_of_eq F.bm_sub ?_)
    refine bm_if_false rfl ?_
    refine wpAny_bind (wpAny_of_eq (F.bm_bind _) ?_)
    refine wpAny_bind (wpAny_of_eq (a := ()) rfl ?_)
    refine wpAny_bind (wpAny_of_eq (a := ()) rfl ?_)
    refine bm_if_false rfl ?_
    refine wpAny_bind (wpAny_specialOf hT ba_no_bytes ?_)
    refine wpAny_bind (wpAny_bind ?_)
    show wpAny _ _ (load a >>= _) _ _ _
    refine wpAny_bind (wpAny_load ho ?_)
    rw [hd]
    refine wpAny_pure (wpAny_pure ?_)
    refine bm_if_false rfl ?_
    refine wpAny_bind (wpAny_specialOf hT ba_no_index ?_)
    refine bm_if_true rfl ?_
    first
      | show wpAny _ _ (Builtin.Bytes.buffer? "bytes.__new__" (.ref a) true >>= _) _ _ _
      | (refine wpAny_bind ?_; show wpAny _ _ (Builtin.Bytes.buffer? "bytes.__new__" (.ref a) true >>= _) _ _ _)
    refine wpAny_bind (ba_buffer ho hc hd ?_)
    dsimp only
    refine wpAny_bind (wpAny_rule ?_)
    refine wpAny_bind (wpAny_mkBytes (b := b) ?_ (by rw [sizeLine_eq]; omega))
    first | exact ⟨typeIs_bytes _ _ _, h⟩ | exact wpAny_pure ⟨typeIs_bytes _ _ _, h⟩ | exact wpAny_pure (wpAny_pure ⟨typeIs_bytes _ _ _, h⟩)
  · exact ⟨h₁.1, F.args_object_init_2 obj _, object_init_meets F.bm_called.init.lookup F.bm_called.made (by decide) prog w A.in1 _ s₁ ⟨h₁.1, rfl, h₁.2⟩⟩
end
end
section
open PySem PySem.W PySem.Calls PySem.Spec PyProof.Rows
open Builtin
section
variable {prog : Program} {w : World} {A : Around} {s : Shared}

theorem X_if_false {α : Type} {M : Model} {c : Bool} {a b : Sem α} {Q : α → Shared → Prop} (hc : c = false) (h : wpX M A b Q s) : wpX M A (if c = true then a else b) Q s := by
  subst hc
  exact h
theorem X_if_true {α : Type} {M : Model} {c : Bool} {a b : Sem α} {Q : α → Shared → Prop} (hc : c = true) (h : wpX M A a Q s) : wpX M A (if c = true then a else b) Q s := by
  subst hc
  exact h
theorem codeX_builtin {id : String} {args : Args} {b : Builtin} {R : Result → Shared → Prop} (hb : entryFor table id = some b)
    (h : wpX (model prog w) (A.under (.builtin id args)) (b args)
      (fun fin s' => match fin with | .done f => R (.ok f) s' | .again c' => noDec c' = true ∧ c'.quiet = true ∧ codeX (model prog w) A c' R s') s) :
    codeX (model prog w) A (.builtin id args) R s := by
  refine codeX_of_tree ?_
  show wpX _ _ (match entryFor table id with | some b => b args | none => unsupported ((withoutEnding? id "#data").getD id)) _ s
  rw [hb]; exact h
theorem codeX_call_builtin {id : String} {args : Args} {b : Builtin} {R : Result → Shared → Prop} (hq : plainId id = true) (hn : noDec (.builtin id args) = true) (hb : entryFor table id = some b)
    (h : wpAny (model prog w) A.in1 (checkBuiltinCall id args) (fun _ s₁ => wpX (model prog w) A.in1 (b args)
      (fun fin s' => match fin with | .done f => R (.ok f) s' | .again c' => noDec c' = true ∧ c'.quiet = true ∧ codeX (model prog w) A c' R s') s₁)
      (fun _ _ => False) s) : codeX (model prog w) A (.call (.builtin id) args) R s := by
  refine codeX_of_tree ?_
  show wpX _ A.in1 (do checkBuiltinCall id args; again (.builtin id args)) _ s
  refine X_abind (wpAny_mono h (fun _ s₁ h₁ => X_pure ⟨hn, plainId_quiet hq _, codeX_builtin hb ?_⟩) fun _ _ h' => h')
  rw [Around.under_plainId hq args]; exact h₁
theorem codeX_any {M : Model} {c : Code} {R : Result → Shared → Prop} (h : codeAny M A c R s) : codeX M A c R s := fun Γ p hc hΓ _ => h Γ p hc hΓ

/-- the bytearray object -/
noncomputable abbrev baObj (b : Array UInt8) : Obj := { cls := .type "bytearray", data := .bytearray b }

theorem ba_write {M : Model} {E : Value → Shared → Prop} {a : Addr} {b : Array UInt8} {f : Array UInt8 → Array UInt8} {Q : Unit → Shared → Prop} (ho : s.heap.get? a = some (baObj b)) (hz : (f b).size ≤ 1048576)
    (h : Q () { s with heap := s.heap.update a (Obj.mapBytearray f) }) : wpAny M A (Bytes.write (.ref a) f) Q E s := by
  unfold Bytes.write updateBytearray
  refine wpAny_bind (wpAny_load ho ?_)
  dsimp only
  refine wpAny_bind (wpAny_update ho ?_)
  refine wpAny_lookBehind (o := baObj (f b)) (Heap.get?_update_self (Obj.mapBytearray f) ho rfl) ?_ h
  show (if (f b).size > sizeLine then some "bytearray:memory" else none) = none
  rw [if_neg]; rw [sizeLine_eq]; omega

theorem X_notExported {a : Addr} {b : Array UInt8} {Q : Bool → Shared → Prop} (hg : A.guards = some []) (ho : s.heap.get? a = some (baObj b)) (h : Q false s) :
    wpX (model prog w) A (Bytes.exported (.ref a) <||> (do return (← Bytes.exportsOf (.ref a)) > 0)) Q s := by
  unfold orM
  refine X_bind (X_exported hg ?_)
  show wpX _ _ (do return decide ((← Bytes.exportsOf (.ref a)) > 0)) _ _
  refine X_abind ?_
  unfold Bytes.exportsOf
  refine wpAny_bind (wpAny_load ho ?_)
  dsimp only
  exact wpAny_pure (X_pure h)

theorem ba_noDec_init (args : Args) : noDec (.builtin "bytearray.__init__" args) = true := by
  have : Bytes.decodersThatHold.contains "bytearray.__init__" = false := by decide +kernel
  show (!(Bytes.decodersThatHold.contains "bytearray.__init__")) = true
  rw [this]; rfl
theorem ba_bind_opt : Bytes.bindOptional "bytearray.__init__" "bytearray" ["source", "encoding", "errors"] [] [] = pure [none, none, none] := by kernel_rfl

theorem ba_init {a : Addr} {Q : Value → Shared → Prop} (hg : A.guards = some []) (ho : s.heap.get? a = some (baObj #[]))
    (h : Q .none { s with heap := s.heap.update a (Obj.mapBytearray fun _ => #[]) }) :
    codeX (model prog w) A (.call (.builtin "bytearray.__init__") ⟨[.ref a], []⟩) (fun r s' => match r with | .ok (.ret v) => Q v s' | _ => False) s := by
  have hT : s.TypeIs (.ref a) "bytearray" := ⟨_, ho, rfl⟩
  refine codeX_call_builtin ba_slot_init.plain (ba_noDec_init _) ba_entry_init (ba_slot_init.check _ _ _ _ _ _ _ _ hT (ba_args_init _) ?_)
  unfold Builtin.«bytearray.__init__»
  dsimp only
  refine X_abind (ba_ownRelease hT ?_)
  refine X_if_false rfl ?_
  refine X_abind (wpAny_of_eq ba_bind_opt ?_)
  dsimp only
  refine X_abind (wpAny_of_eq (a := ()) rfl ?_)
  refine X_abind (wpAny_of_eq (a := ()) rfl ?_)
  refine X_bind (X_notExported (by exact hg) ho ?_)
  refine X_if_false rfl ?_
  refine X_abind (ba_write ho (Nat.zero_le _) ?_)
  refine X_abind (wpAny_of_eq (a := ()) rfl ?_)
  exact X_pure h
theorem code_ba_new {E : Value → Shared → Prop} {Q₁ : Value → Shared → Prop} (h : Q₁ (.ref s.heap.objs.size) { s with heap := s.heap.push (baObj #[]) }) :
    codeAny (model prog w) A (.call (.builtin "bytearray.__new__") ⟨[.type "bytearray"], []⟩) (wants Q₁ E) s := by
  refine codeAny_of_tree ?_
  show wpAny _ A.in1 (do checkBuiltinCall "bytearray.__new__" ⟨[.type "bytearray"], []⟩; again (.builtin "bytearray.__new__" ⟨[.type "bytearray"], []⟩)) _ _ s
  refine wpAny_bind (wpAny_of_eq ba_newCall (wpAny_pure ⟨plainId_quiet ba_plain_new _, codeAny_builtin_stack ba_entry_new rfl fun p st => ?_⟩))
  rw [Around.under_plainId ba_plain_new _]
  have hsub := ba_sub
  have hown := ba_owner_new
  obtain ⟨hp, g, d, tk, os⟩ := s
  simp only [hown]
  wp_walk
  exact h

theorem new_bytearray {Q : Value → Shared → Prop} (hg : A.guards = some [])
    (h : Q (.ref s.heap.objs.size) { s with heap := (s.heap.push (baObj #[])).update s.heap.objs.size (Obj.mapBytearray fun _ => #[]) }) :
    wpX (model prog w) A (call (.type "bytearray") []) Q s := by
  refine X_call (codeX_of_tree ?_)
  show wpX _ _ (callAny (.type "bytearray") _) _ _
  refine X_pure ⟨rfl, Code.quiet_builtin _ (by decide +kernel), codeX_builtin F.entry_type_call ?_⟩
  rw [Around.under_plain (weight_type_call_type "bytearray" [] []) rfl]
  obtain ⟨c, tl, hmro⟩ := ba_called.mro
  unfold Builtin.«type.__call__»
  dsimp only
  refine X_if_false ba_called.notType ?_
  refine X_if_false ba_called.canCreate ?_
  refine X_abind (wpAny_of_eq ba_typeCall ?_)
  refine X_abind (wpAny_of_eq hmro ?_)
  refine X_if_false rfl ?_
  refine X_abind (wpAny_of_eq ba_called.made ?_)
  dsimp only
  refine X_abind (wpAny_pure ?_)
  refine X_abind (wpAny_holding (wpAny_call (codeAny_mono (code_ba_new (E := fun _ _ => False) (Q₁ := fun obj s₁ => obj = .ref s.heap.objs.size ∧ s₁ = { s with heap := s.heap.push (baObj #[]) }) ⟨rfl, rfl⟩) fun r s₁ hr => ?_)))
  cases r with
  | error e => exact hr.elim
  | ok fl =>
    cases fl with
    | ret obj =>
      obtain ⟨rfl, rfl⟩ := hr
      have ho : (s.heap.push (baObj #[])).get? s.heap.objs.size = some (baObj #[]) := Heap.get?_push_size _ rfl
      have hT : Shared.TypeIs { s with heap := s.heap.push (baObj #[]) } (.ref s.heap.objs.size) "bytearray" := ⟨_, ho, rfl⟩
      refine X_abind (wpAny_isInstance hT ba_sub ?_)
      refine X_if_false rfl ?_
      refine X_bind (X_holding ?_)
      unfold callSpecial?
      refine X_abind (wpAny_specialOf hT ba_slot_init.lookup ?_)
      dsimp only
      refine X_holding (X_abind (wpAny_of_eq (ba_slot_init.bind _) ?_))
      dsimp only
      refine X_bind (X_call (codeX_mono (ba_init (Q := fun v s' => v = .none ∧ Q (.ref s.heap.objs.size) s') (by exact hg) ho ⟨rfl, h⟩) fun r₂ s₂ hr₂ => ?_))
      cases r₂ with
      | error e => exact hr₂.elim
      | ok fl₂ =>
        cases fl₂ with
        | ret r =>
          obtain ⟨rfl, hq⟩ := hr₂
          refine X_pure ?_
          dsimp only
          refine X_if_false rfl ?_
          exact X_pure hq
        | _ => exact hr₂.elim
    | _ => exact hr.elim

theorem bytes_buffer {id : String} {full : Bool} {c : Array UInt8} {t : Tok} : Bytes.buffer? id (.bytes c t) full = pure (some c) := by
  unfold Bytes.buffer?
  rw [KBy.special_eq KBy.look_buffer, KBy.own_buffer, KBy.own_release]
  kernel_rfl
theorem X_checkResize {a : Addr} {b : Array UInt8} {Q : Unit → Shared → Prop} (hg : A.guards = some []) (ho : s.heap.get? a = some (baObj b)) (h : Q () s) : wpX (model prog w) A (Bytes.checkResize (.ref a)) Q s := by
  unfold Bytes.checkResize
  refine X_bind (X_notExported hg ho ?_)
  exact X_if_false rfl (X_pure h)

theorem ba_noDec_extend (args : Args) : noDec (.builtin "bytearray.extend" args) = true := by
  have : Bytes.decodersThatHold.contains "bytearray.extend" = false := by decide +kernel
  show (!(Bytes.decodersThatHold.contains "bytearray.extend")) = true
  rw [this]; rfl

theorem call_extend {a : Addr} {b c : Array UInt8} {t : Tok} {Q : Value → Shared → Prop} (hg : A.guards = some []) (ho : s.heap.get? a = some (baObj b)) (hz : b.size + c.size ≤ 1048576)
    (h : Q .none { s with heap := s.heap.update a (Obj.mapBytearray (· ++ c)) }) :
    wpX (model prog w) A (call (.builtin "bytearray.extend") [.ref a, .bytes c t]) Q s := by
  have hT : s.TypeIs (.ref a) "bytearray" := ⟨_, ho, rfl⟩
  refine X_call (codeX_call_builtin ba_slot_extend.plain (ba_noDec_extend _) ba_entry_extend (ba_slot_extend.check _ _ _ _ _ _ _ _ hT (ba_args_extend _ _) ?_))
  unfold Builtin.«bytearray.extend»
  refine X_abind (wpAny_of_eq (a := ((Value.ref a, Value.bytes c t) : Value × Value)) rfl ?_)
  dsimp only
  refine X_abind (wpAny_specialOf (T := "bytes") (typeIs_bytes _ _ _) KBy.look_buffer ?_)
  refine X_if_true rfl ?_
  refine X_abind (wpAny_rule ?_)
  refine X_abind (ba_payload ho rfl ?_)
  have htake : Bytes.takeBufferQuiet? "bytearray.extend" (.bytes c t) 0 = pure (some (c, none)) := by
    unfold Bytes.takeBufferQuiet? Bytes.takeBuffer?
    rw [KBy.special_eq KBy.look_buffer, KBy.own_buffer]
    simp only [pure_bind]
    rw [bytes_buffer]
    kernel_rfl
  refine X_abind (wpAny_of_eq htake ?_)
  dsimp only
  refine X_if_true rfl ?_
  show wpX _ _ (if (!c.isEmpty) = true then (Bytes.checkResize (.ref a) >>= fun _ => Bytes.write (.ref a) (· ++ c) >>= fun _ => ret .none) else (Bytes.write (.ref a) (· ++ c) >>= fun _ => ret .none)) _ _
  have fin : ∀ {R : Fin → Shared → Prop}, (∀ s', Q .none s' → R (.done (.ret .none)) s') → wpX (model prog w) A.in1 (Bytes.write (.ref a) (· ++ c) >>= fun _ => ret .none) R s := fun hR =>
    X_abind (ba_write ho (by rw [Array.size_append]; exact hz) (X_pure (hR _ h)))
  cases c.isEmpty with
  | true => exact X_if_false rfl (fin fun s' hq => hq)
  | false => exact X_if_true rfl (X_bind (X_checkResize hg ho (fin fun s' hq => hq)))
end
end
section
open PySem PySem.W PySem.Calls PySem.Spec PyProof.Rows
open Builtin
section
variable {prog : Program} {w : World} {A : Around} {E : Value → Shared → Prop} {s : Shared}

theorem len_ba {a : Addr} {b : Array UInt8} {Q : Value → Shared → Prop} (ho : s.heap.get? a = some (baObj b)) (hfit : b.size ≤ 1048576)
    (h : Q (.int b.size (s.toks + 1)) { s with toks := s.toks + 1 + 1 }) : wpAny (model prog w) A (call (.builtin "len") [.ref a]) Q E s := by
  have hT : s.TypeIs (.ref a) "bytearray" := ⟨_, ho, rfl⟩
  refine call_function_entry kind_len plain_len entry_len (args_len1 _) ?_
  unfold Builtin.«len»
  refine wpAny_bind (m := oneArg "len" _) (wpAny_pure ?_)
  refine wpAny_bind (m := callSpecial? (.ref a) (Str.ofString "__len__")) (wpAny_callSpecial?_slot (name := Str.ofString "__len__") hT ba_slot_len
    (wpAny_call_entry ba_slot_len hT ba_entry_len ?_ (ba_args_len _)))
  show wpAny _ _ (do retInt (← Bytes.payload (.ref a)).size) _ _ s
  refine wpAny_bind (ba_payload ho rfl ?_)
  refine (wpAny_bind (wpAny_mkInt (wpAny_pure ⟨_, rfl, ?_⟩)))
  refine wpAny_bind (wpAny_holding (wpAny_pure ?_))
  refine wpAny_bind (wpAny_letGo ?_)
  show wpAny _ _ (if ((b.size : Nat) : Int) < 0 then _ else _) _ _ _
  rw [if_neg (by omega)]
  show wpAny _ _ (if ((b.size : Nat) : Int) ≥ 2 ^ 63 then _ else _) _ _ _
  rw [if_neg (by omega)]
  exact wpAny_bind (wpAny_mkInt (wpAny_pure ⟨_, rfl, h⟩))

theorem ba_sliceParts {sl : Addr} {l u : Value} {lo hi : Option Int} (hl : IsPart l lo) (hu : IsPart u hi) (hS : s.heap.IsSliceOf sl l u .none) {Q : Value × Value × Value → Shared → Prop}
    (h : Q (rawPart lo, rawPart hi, rawPart none) s) : wpAny (model prog w) A (Bytes.sliceParts (.ref sl)) Q E s := by
  obtain ⟨o, ho, hc, hd⟩ := hS
  unfold Bytes.sliceParts
  refine wpAny_bind (wpAny_field (x := .none) ho hd rfl ?_)
  kby_none
  refine wpAny_ite (KBy.ite_no (show ¬ ((Value.none == rawInt 0) = true) from Bool.false_ne_true) ?_)
  refine wpAny_bind (wpAny_field (x := l) ho hd rfl ?_)
  cases hl <;> cases hu <;> (first
    | (kby_none; (refine wpAny_bind (wpAny_field (x := .none) ho hd rfl ?_)); kby_none)
    | (kby_none; (refine wpAny_bind (wpAny_field (x := .int _ _) ho hd rfl ?_)); kby_int)
    | (kby_int; (refine wpAny_bind (wpAny_field (x := .none) ho hd rfl ?_)); kby_none)
    | (kby_int; (refine wpAny_bind (wpAny_field (x := .int _ _) ho hd rfl ?_)); kby_int)) <;> exact wpAny_pure h

theorem ba_meets_slice (b : Array UInt8) (a sl : Addr) {l u : Value} {lo hi : Option Int} (hl : IsPart l lo) (hu : IsPart u hi) :
    Meets («bytearray.__getitem__» ⟨[.ref a, .ref sl], []⟩) (fun _ R s => s.heap.get? a = some (baObj b) ∧ s.heap.IsSliceOf sl l u .none ∧ b.size ≤ 1048576 ∧
      R (.ok (.ret (.ref s.heap.objs.size))) { s with heap := s.heap.push (baObj (KBy.picked b lo hi)) }) := by
  refine .of_wp fun prog w A R s hS => ?_
  obtain ⟨hb, hSl, hsz, h⟩ := hS
  have hT : s.TypeIs (.ref sl) "slice" := by obtain ⟨o, ho, hc, hd⟩ := hSl; exact ⟨o, ho, hc⟩
  show wpAny _ _ (Bytes.subscript? (.ref sl) >>= fun r => _) _ _ s
  refine wpAny_bind ?_
  unfold Bytes.subscript?
  refine wpAny_bind (wpAny_specialOf hT slice_no_index (wpAny_pure ?_))
  refine wpAny_bind (wpAny_typeOf hT ?_)
  refine bm_if_false rfl ?_
  show wpAny _ _ (Bytes.sliceParts (.ref sl) >>= fun r => _) _ _ s
  refine wpAny_bind (ba_sliceParts hl hu hSl ?_)
  refine wpAny_bind (ba_payload hb rfl ?_)
  have go : wpAny (model prog w) A.in1 (sliceIndices (rawPart lo) (rawPart hi) (rawPart none) b.size) (fun r s' => r = sliceBounds lo hi none b.size ∧ s' = s) (fun _ _ => False) s :=
    wpAny_of_eq (sliceIndices_raw lo hi none b.size (fun e => nomatch e)) ⟨rfl, rfl⟩
  refine wpAny_bind (wpAny_mono go (fun r s' hr => ?_) fun _ _ e => e.elim)
  obtain ⟨hr1, hr2⟩ := hr
  subst hr1 hr2
  refine wpAny_bind ?_
  have key : sizeOk (.bytearray (KBy.picked b lo hi)) := Nat.le_trans (KBc.size_picked_le b lo hi) (by rw [sizeLine_eq]; omega)
  unfold Bytes.newBytearray
  refine wpAny_newObj_type (wpAny_pure ?_) key
  first | exact h | exact ⟨_, rfl, h⟩

theorem ba_slice {h₀ : Heap} {L : Addr} {m : Str → Option Value} {news : List (Addr × Obj)} {value slice : PySem.Expr} {a : Addr} {b : Array UInt8} {l u : Value} {lo hi : Option Int} {Q : Value → Shared → Prop}
    (F : Fr h₀ L s.heap m) (N : News h₀ L s.heap news) (ho : s.heap.get? a = some (baObj b)) (hz : b.size ≤ 1048576) (hl : IsPart l lo) (hu : IsPart u hi)
    (h : ∀ D h', Fr h₀ L h' m → News h₀ L h' ((D, baObj (KBy.picked b lo hi)) :: news) → (∀ p ∈ news, p.1 < D) → Q (.ref D) { s with heap := h' })
    (hs : subscripted slice false (.ref a) (.ref s.heap.objs.size) = operate [.ref s.heap.objs.size, .ref a] (getItem (.ref a) (.ref s.heap.objs.size)) := by with_unfolding_all rfl) :
    wpAny (model prog w) A (subscriptTail value slice (.ref a) (.ref s.heap.objs.size)) Q E { s with heap := s.heap.push { cls := .type "slice", data := .fields #[l, u, .none] } } := by
  have ho' : (s.heap.push { cls := .type "slice", data := .fields #[l, u, .none] }).get? a = some (baObj b) := Heap.get?_push_of_some _ ho
  have hT : Shared.TypeIs { s with heap := s.heap.push { cls := .type "slice", data := .fields #[l, u, .none] } } (.ref a) "bytearray" := ⟨_, ho', rfl⟩
  have g : wpAny (model prog w) A (getItem (.ref a) (.ref s.heap.objs.size)) Q E { s with heap := s.heap.push { cls := .type "slice", data := .fields #[l, u, .none] } } := by
    refine getItem_meets hT (by decide) ba_slot_getitem ba_entry_getitem (ba_args_getitem _ _) (ba_meets_slice b a _ hl hu) ⟨ho', Heap.IsSliceOf.new _ _ _ _, hz, ?_⟩
    exact h _ _ ((F.push _).push _) (News.push (F.push _) (fun p hp => ⟨Heap.get?_push_of_some _ (N p hp).1, (N p hp).2⟩) _) (fun p hp => by
      show p.1 < (s.heap.push _).objs.size
      rw [Heap.size_push]; exact Nat.lt_succ_of_lt (Heap.lt_size (N p hp).1))
  unfold subscriptTail
  refine wpAny_bind ?_
  rw [getitemInPython_of_ne hT.not_modules]
  refine wpAny_bind (wpAny_specialOf hT ba_slot_getitem.lookup ?_)
  refine wpAny_pure ?_
  refine wpAny_bind ?_
  rw [hs]
  exact wpAny_operating (wpAny_mono g (fun r s₃ h₃ => wpAny_bind (wpAny_letTemporaryGo (wpAny_pure h₃))) fun _ _ x => x)
end
end
section
open PySem PySem.W PySem.Calls PySem.Spec PyProof.Rows

theorem caller_clean : Clean ⟨.builtin "claim.caller" {}, none, none, [], none⟩ := by
  refine ⟨?_, fun q hq => (nomatch hq)⟩
  have : Builtin.Bytes.decodersThatHold.contains "claim.caller" = false := by decide +kernel
  show (!(Builtin.Bytes.decodersThatHold.contains "claim.caller")) = true
  rw [this]; rfl

theorem thread_ends_X {prog : Program} {w : World} {t : Sem Fin} {s : Shared} {R : Result → Shared → Prop} (hreg : s.asleep)
    (h : wpX (model prog w) callerA t (fun fin s' => ∃ f, fin = .done f ∧ (R (.ok f) s' ∧ leftWithCleanup s'.gens = false)) s) :
    ∃ n r s' s'', runN (denote table) prog w n s ⟨t, .builtin "claim.caller" {}, default, []⟩ = .halted (outcomeOf r) s' ∧
      schedN (denote table) prog w n (.single s ⟨t, .builtin "claim.caller" {}, default, []⟩) = .halted (outcomeOf r) s' ∧ s'.forget = s''.forget ∧ R r s'' := by
  obtain ⟨n, r, s₁, s₂, hs, hn, hfo, hR⟩ := wp_halts_full (M := model prog w) (R := R) hreg
    (Sem.wp_mono _ _ _ (fun fin p' s' h' => by obtain ⟨f, rfl, hf⟩ := h'; exact hf) (fun _ _ _ h' => h'.elim) _ _ (h _ default caller_in caller_clean))
  exact ⟨n, r, s₂, s₁, hn, hs, hfo, hR⟩

theorem callFrom_X {c : ClaimW} {tree : List Value → Sem Fin} {w : World} {s : Shared} {free : Addr → Prop} {gens : Prop} {kept : Heap → Prop} (hz : s.asleep) (hgens : s.gens = #[])
    (hspec : ∀ args, c.pre args = true → WData.layableAll args = true → ∀ ord : List DictEntry → List DictEntry, (∀ l, (ord l).Perm l) →
      ∃ vs s₁, layAllW c.records (classAt s.heap) w.params ord args s = some (vs, s₁) ∧
        wpX (model c.prog w) callerA (tree vs) (fun fin s' => ∃ f, fin = .done f ∧ (c.Ends s args vs s₁ (.ok f) s' ∧ s'.os = s.os ∧ AllBare s'.gens ∧ kept s'.heap)) s₁) :
    c.CallFrom (fun vs => ⟨tree vs, .builtin "claim.caller" {}, default, []⟩) w free gens kept s := by
  intro args hpre hlay ord hord
  obtain ⟨vs, s₁, hlaid, hcode⟩ := hspec args hpre hlay ord hord
  have hal := layAllW_rest _ _ _ hlaid
  obtain ⟨k, x, s₂, s₃, hrun, hsched, hfo, hE, hos, hkp⟩ := thread_ends_X (prog := c.prog) (w := w) (t := tree vs) (s := s₁)
    (R := fun x s' => c.Ends s args vs s₁ x s' ∧ s'.os = s.os ∧ kept s'.heap) (Shared.asleep_of_life hal.2.2.2 hz)
    (X_mono hcode fun fin s' h => by
      obtain ⟨f, e, h1, h2, h3, h4⟩ := h
      exact ⟨f, e, ⟨h1, h2, h4⟩, leftWithCleanup_false_of_bare h3⟩)
  obtain ⟨eh, _, _, eo, _⟩ := Shared.forget_eq hfo
  have hE := hE.congr eh
  have hkp : kept s₂.heap := by rw [eh]; exact hkp
  have hlife : s₂.heap.life = s.heap.life := (runN_life _ _ _ hrun).trans hal.2.2.2
  refine ⟨vs, s₁, hlaid, k, _, s₂, hsched, ?_, (fun _ i x hx => by rw [hgens] at hx; simp at hx), hkp, by rw [hlife], Shared.rest_eq (eo.trans hos)⟩
  rcases hE with ⟨v, rfl, d1, d2, d3, d4, d5⟩ | ⟨e, ob, cls, rfl, d1, d2, d3, d4, d5⟩
  · exact .inl ⟨v, rfl, d1, d2, d3, fun b o y _ => d4 b o y, d5⟩
  · exact .inr ⟨e, ob, cls, rfl, d1, d2, d3, d4, fun b o y _ => d5 b o y⟩

/-- what a walk of ours is to give: the library's WalkO with wpX in the place of wpAny -/
noncomputable abbrev WalkOX (q : Program) (loose : List Str) (XP : (Str → Option Value) → Heap → Prop) (YP : World → Heap → Prop) (r : RowW) (d : DefRec) (kwd : List (Str × Expr)) : Prop :=
  ∀ (w : World) (s₀ s₁ : Shared) (mg mb : Str → Option Value), Ground q loose r.records XP w s₀ mg mb s₁.heap → YP w s₁.heap → ∀ (a : Addr) (o : Obj) (pm cd doc dV kV : Value), s₁.heap.get? a = some o →
    o.data = .func { docDef d.name d.params d.body d.scope pm cd doc with defaults := dV, kwdefaults := kV } → s₁.heap.CodeRec cd d.name → Dflts mg s₁.heap d.params kwd dV kV → mg d.name = some (.ref a) → s₁.gens = #[] →
    ∀ (args : List WData) (vals : List Value) (as : List Addr), r.claim.pre args = true → WData.layableAll args = true → ReadsAllW r.records (classAt s₀.heap) s₁.heap vals args as → WellAll w.params s₁.heap vals args → (∀ a ∈ as, (a == sysModules) = false) →
      wpX (model r.prog w) callerA (PySem.call (.ref a) vals) (fun v s' => GoodWG r.claim (classAt s₀.heap) (ExcName.means s₀.heap) args s₁ (.ok (.ret v)) s') s₁

theorem holdsX_open {r : OpenRow} {q : Program} {loose : List Str} {Xt : Shared → Bool} {XP : (Str → Option Value) → Heap → Prop} {α : Type} {Yf : Shared → α} {Ya : World → α} {YP : World → Heap → Prop} {d : DefRec} {kwd : List (Str × Expr)} {N : Nat}
    (left : LeftO r.prog q loose Xt Yf Ya N) (hY : ∀ w s, Yf s = Ya w → YP w s.heap) (hYk : ∀ w h h', YP w h → (∀ b o, h.get? b = some o → h'.get? b = some o) → YP w h')
    (hX : ∀ s, Xt s = true → XP (s.heap.nsMap mainGlobals) s.heap) (hXk : ∀ mg h h', XP mg h → (∀ b o, h.get? b = some o → h'.get? b = some o) → XP mg h')
    (hdef : defOf q r.name = some (d, kwd)) (hp : r.prog.theDef r.name = some (d.params, d.body, d.scope)) (hk : kwWritten? d.params.kwonlyargs d.params.kw_defaults = some kwd) (hRf : ∀ s, Xt s = true → RecFacts r.records s.heap) (hwr : (!r.writes || r.records.isEmpty) = true)
    (k1 : r.wellSaid = true) (ok : (chainsOk q && opensWell r.prog && (frees r.toRowW && r.within.isEmpty)) = true) (hb : r.prog.bare) (hw : r.toRowW.promised)
    (call : WalkOX q loose XP YP r.toRowW d kwd) : r.Holds := by
  obtain ⟨ok, k5⟩ := Bool.and_eq_true_iff.mp ok
  obtain ⟨hch, o1⟩ := Bool.and_eq_true_iff.mp ok
  obtain ⟨k5, k6⟩ := Bool.and_eq_true_iff.mp k5
  obtain ⟨hsame, hu, ha, hap, hm⟩ := frees_parts k5
  have hi := ident_freeW hu ha hap
  have hwi : r.toRowW.claim.within = [] := List.isEmpty_iff.mp k6
  refine ⟨k1, hw, ⟨hb, o1, by show r.makers.map _ = []; rw [hm]; rfl⟩, hw.witness, fun w => ⟨(left.behind hX hch w).1, fun s' hs' => ?_⟩⟩
  obtain ⟨s₀, hf, hg0, s, hT, hz, hgens, hg, G00, y⟩ := (left.behind (XP := fun mg h => XP mg h ∧ RecFacts r.records h) (fun s hs => ⟨hX s hs, hRf s hs⟩) hch w).2 s' hs'
  have G0 : Ground q loose [] XP w s (s.heap.nsMap mainGlobals) (s.heap.nsMap builtinsNs) s.heap := ⟨G00.T, G00.B, G00.D, G00.TE, G00.TD, G00.W, G00.X.1, G00.cls, G00.has, G00.apart, G00.once, G00.K⟩
  have RF := G00.X.2
  have hgens : s.gens = #[] := Array.eq_empty_of_size_eq_zero (by simpa using hgens)
  have G : Ground q loose r.records XP w s _ _ s.heap := RF.ground G0
  refine ⟨s₀, hf, hg0, s, hT, fun n hn => ?_, RF.1, RF.2.1, ?_⟩
  · obtain rfl : n = r.name := by split at hn <;> simp_all
    exact pinned_of_view hg G0 hdef hp hk
  refine callFrom_X (c := r.toRowW.claim) hz hgens fun args hpre hlay ord hord => ?_
  obtain ⟨⟨vs, s₁⟩, hlaid⟩ := Option.isSome_iff_exists.mp (layAllW_isSome (P := w.params) (ord := ord) G.has args r.args s (pre_splitW hpre).1)
  have keeps := layAllW_keeps _ _ _ hlaid
  have hal := layAllW_rest _ _ _ hlaid
  obtain ⟨as, hrd, hin, hold⟩ := reads_layAllW hord _ _ _ hlaid hlay s₁.heap (fun _ _ e => e)
  have L : Laid r.records w s s₁ args vs as := ⟨⟨ord, hord, hlaid⟩, hrd, hin, hold, keeps, hal.1.trans hgens, hal.2.2.1⟩
  have G₁ := G.keeps hXk keeps
  obtain ⟨a, o, pm, cd, doc, dV, kV, h1, h2, h3, h4, h5⟩ := G₁.fn hdef
  have body := call w s s₁ _ _ G₁ (hYk _ _ _ (hY w s y) keeps) a o pm cd doc dV kV h2 h3 h4 h5 (defOf_name hdef ▸ h1) L.gens args vs as hpre hlay L.reads L.well (L.low G.low)
  have hns := G₁.T.g
  refine ⟨vs, s₁, hlaid, X_abind (wpAny_nsGet hns ?_)⟩
  rw [h1]
  refine X_bind (X_mono body fun v s' g => X_pure ⟨_, rfl, ?_⟩)
  have z := g.laid (c := r.toRowW.claim) hsame hwi hi L
  exact ⟨z.1, z.2.1, z.2.2, fun q => ⟨namesKept_of hT hg _ keeps fun b o e => g.2.1.old b o e, noTable hwr q⟩⟩
end
section
open PySem PySem.W PySem.Calls PySem.Spec PyProof.Rows

/-- the end of a walked def: what the callee's frame and ledger are there -/
noncomputable def EndS (g : Heap) (P : Value → List (Addr × Obj) → Shared → Prop) (v : Value) (s' : Shared) : Prop :=
  ∃ L' m' news', Fr g L' s'.heap m' ∧ News g L' s'.heap news' ∧ P v news' s'
theorem endS {g : Heap} {P : Value → List (Addr × Obj) → Shared → Prop} {v : Value} {s' : Shared} {L' : Addr} {m' : Str → Option Value} {news' : List (Addr × Obj)} (F : Fr g L' s'.heap m') (N : News g L' s'.heap news') (h : P v news' s') : EndS g P v s' := ⟨L', m', news', F, N, h⟩

theorem news_sub {h₀ h : Heap} {L : Addr} {l l' : List (Addr × Obj)} (N : News h₀ L h l) (hs : ∀ p ∈ l', p ∈ l) : News h₀ L h l' := fun p hp => N p (hs p hp)

/-- what the caller gets back -/
noncomputable abbrev BackS (h₀ : Heap) (L : Addr) (m : Str → Option Value) (rest : List (Addr × Obj)) (R : Result → Shared → Prop) (v : Value) (news' : List (Addr × Obj)) (s' : Shared) : Prop :=
  Fr h₀ L s'.heap m → News h₀ L s'.heap (news' ++ rest) → R (.ok (.ret v)) s'

section
variable {prog : Program} {w : World} {A A₀ : Around} {s : Shared} {K : Frag} {L : Addr} {h₀ base : Heap} {m : Str → Option Value} {sub rest : List (Addr × Obj)} {env : Env} {outer : List Env} {R : Result → Shared → Prop}

theorem groundS (B : Below A₀ base outer h₀) (F : Fr h₀ L s.heap m) (N : News h₀ L s.heap (sub ++ rest)) (hdis : ∀ p ∈ rest, p.1 ∉ sub.map (·.1)) (hA : A.frames = some (env :: outer)) (hf : env.frame = some L) (hke : env.scope.kind = .function) :
    Fr h₀ L (hideAll s.heap (sub.map (·.1))) m ∧ Below A base (env :: outer) (hideAll s.heap (sub.map (·.1))) ∧ h₀.StaysIn (hideAll s.heap (sub.map (·.1))) ∧
      ∀ v s', EndS (hideAll s.heap (sub.map (·.1))) (BackS h₀ L m rest R) v s' → R (.ok (.ret v)) s' := by
  have N1 : News h₀ L s.heap sub := fun p hp => N p (List.mem_append_left _ hp)
  obtain ⟨FG, BG, st, _⟩ := groundX (R := R) B F N1 hA hf hke
  refine ⟨FG, BG, st, fun v s' he => ?_⟩
  obtain ⟨L', m', news', F', N', k⟩ := he
  obtain ⟨oL, es, ep, hL, hLd, hLk, hLf⟩ := FG.ns
  refine k ⟨⟨oL, es, ep, F'.keep L oL hL, hLd, hLk, hLf⟩, fun b o e => F'.keep b o (st b o e), FG.above⟩ fun p hp => ?_
  rcases List.mem_append.mp hp with hp | hp
  · refine ⟨(N' p hp).1, fun q => ?_, ?_⟩
    · have := (N' p hp).2.2; rw [q, hL] at this; cases this
    · cases q : h₀.get? p.1 with
      | none => rfl
      | some o => have := (N' p hp).2.2; rw [st _ _ q] at this; cases this
  · have q := N p (List.mem_append_right _ hp)
    exact ⟨F'.keep _ _ (hideAll_get _ q.1 (hdis p hp)), q.2⟩

variable {name qual : Str} {params : Arguments} {body : List Stmt} {scope : Scope} {dV kV doc pm cdv ct oc : Value} {an od : Option Addr} {osl : Array (Option Value)} {f : Addr} {args : Args} {binds : List (Str × Value)} {p : Program} {loose : List Str} {mean : ExcName → Option Value} {mg mb : Str → Option Value}

theorem enterS (B : Below A₀ base outer h₀) (F : Fr h₀ L s.heap m) (X₀ : K.In h₀) (N : News h₀ L s.heap (sub ++ rest)) (hdis : ∀ p ∈ rest, p.1 ∉ sub.map (·.1)) (T : Top p loose mean mg mb h₀) (hA : A.frames = some (env :: outer)) (hf : env.frame = some L) (hke : env.scope.kind = .function)
    (ho : K.lookup f = some ⟨oc, od, .func (fnOf name qual params body scope dV kV doc pm an cdv ct), osl⟩) (hcd : codeIn K cdv qual = true) (hroom : A.depth < recursionLimit)
    (hbind : BindsTo s (fnOf name qual params body scope dV kV doc pm an cdv ct) args binds) (hloc : ∀ y ∈ binds, scope.names.lookup y.1 = some .local)
    (h : ∀ g L' h₁, Fr g L' h₁ (fun y => binds.reverse.lookup y) → News g L' h₁ sub → Below A base (env :: outer) g → K.In g → Top p loose mean mg mb g →
      wpAny (model prog w) (A.deeper (envOf qual scope L' f cdv)) (execs body (envOf qual scope L' f cdv))
        (fun fl s' => EndS g (BackS h₀ L m rest R) (match fl with | .ret v => v | _ => .none) s') (fun _ _ => False)
        { s with heap := h₁, toks := s.toks + binds.length })
    (hco : scope.isCoroutine = false) (hgen : scope.isGenerator = false) (hk : scope.kind = .function) (hcell : ∀ x ∈ scope.names, x.2 ≠ .cell) : codeAny (model prog w) A (.call (.ref f) args) R s := by
  obtain ⟨FG, BG, st, lv⟩ := groundS (R := R) B F N hdis hA hf hke
  refine codeAny_call_def (fd := fnOf name qual params body scope dV kV doc pm an cdv ct) (body := body) (binds := binds) hroom ((X₀.keeps F.keep) _ _ ho) rfl (T.nolimit.keeps F.keep) (codeRec_of (X₀.keeps F.keep) hcd) rfl hbind hcell hloc (fun h₁ hns hk₁ => ?_) hco hgen hk
  exact wpAny_mono (h _ s.heap.objs.size h₁ ⟨hns, fun b o e => hk₁ b o (of_hideAll _ e), Nat.le_of_eq (hideAll_size _ _)⟩
    (fun p hp => ⟨hk₁ _ _ (N p (List.mem_append_left _ hp)).1, Nat.ne_of_lt (Heap.lt_size (N p (List.mem_append_left _ hp)).1), hideAll_none _ (List.mem_map_of_mem hp)⟩) BG (X₀.keeps st) (T.keeps st)) (fun fl s' hl => lv _ _ hl) fun _ _ y => y.elim

theorem codeX_func {env : Env} {body : List Stmt} (h : wpX (model prog w) (A.deeper env) (execs body env) (fun f s' => R (.ok (.ret (match f with | .ret v => v | _ => .none))) s') s) : codeX (model prog w) A (.func body env) R s := by
  refine codeX_of_tree ?_
  show wpX _ (A.deeper env) (do point; match ← (execs body env).onRaise (leaving env) with | .ret v => ret v | _ => ret .none) _ s
  refine X_bind (X_point (X_bind (X_onRaise (X_mono h fun f s' h' => ?_))))
  cases f <;> exact X_pure h'

theorem enterX (B : Below A₀ base outer h₀) (F : Fr h₀ L s.heap m) (X₀ : K.In h₀) (N : News h₀ L s.heap (sub ++ rest)) (hdis : ∀ p ∈ rest, p.1 ∉ sub.map (·.1)) (T : Top p loose mean mg mb h₀) (hA : A.frames = some (env :: outer)) (hf : env.frame = some L) (hke : env.scope.kind = .function)
    (ho : K.lookup f = some ⟨oc, od, .func (fnOf name qual params body scope dV kV doc pm an cdv ct), osl⟩) (hcd : codeIn K cdv qual = true) (hroom : A.depth < recursionLimit)
    (hbind : BindsTo s (fnOf name qual params body scope dV kV doc pm an cdv ct) args binds) (hloc : ∀ y ∈ binds, scope.names.lookup y.1 = some .local)
    (h : ∀ g L' h₁, Fr g L' h₁ (fun y => binds.reverse.lookup y) → News g L' h₁ sub → Below A base (env :: outer) g → K.In g → Top p loose mean mg mb g →
      wpX (model prog w) (A.deeper (envOf qual scope L' f cdv)) (execs body (envOf qual scope L' f cdv))
        (fun fl s' => EndS g (BackS h₀ L m rest R) (match fl with | .ret v => v | _ => .none) s')
        { s with heap := h₁, toks := s.toks + binds.length })
    (hco : scope.isCoroutine = false) (hgen : scope.isGenerator = false) (hk : scope.kind = .function) (hcell : ∀ x ∈ scope.names, x.2 ≠ .cell) : codeX (model prog w) A (.call (.ref f) args) R s := by
  obtain ⟨FG, BG, st, lv⟩ := groundS (R := R) B F N hdis hA hf hke
  refine codeX_of_tree ?_
  show wpX _ A.in1 (callAny (.ref f) args) _ s
  simp only [callAny]
  refine X_abind (wpAny_load ((X₀.keeps F.keep) _ _ ho) ?_)
  obtain ⟨c, oc', vs, tq, hc, hoc, hdc, hq⟩ := codeRec_of (X₀.keeps F.keep) hcd
  simp only [callFunction, hco, hgen, hc]
  refine X_abind (m := field (.ref c) 1) (wpAny_field hoc hdc hq ?_)
  refine X_abind (wpAny_pure ?_)
  rw [hc] at hbind h
  refine X_abind (hbind _ _ _ _ ?_)
  refine X_abind (wpAny_newFunctionEnv hcell hloc (fun h₁ hns hsb => ?_) hk)
  have hk₁ : ∀ b o, s.heap.get? b = some o → h₁.get? b = some o := fun b o e => hsb.extBut b o (Nat.ne_of_lt (Heap.lt_size e)) (Heap.get?_push_of_some _ e)
  refine X_abind (wpAny_enterFrame ((T.nolimit.keeps F.keep).fresh _ hsb) (by exact hroom) ?_)
  refine X_pure ⟨rfl, rfl, codeX_func ?_⟩
  exact X_mono (h _ s.heap.objs.size h₁ ⟨hns, fun b o e => hk₁ b o (of_hideAll _ e), Nat.le_of_eq (hideAll_size _ _)⟩
    (fun p hp => ⟨hk₁ _ _ (N p (List.mem_append_left _ hp)).1, Nat.ne_of_lt (Heap.lt_size (N p (List.mem_append_left _ hp)).1), hideAll_none _ (List.mem_map_of_mem hp)⟩) BG (X₀.keeps st) (T.keeps st)) (fun fl s' hl => lv _ _ hl)
end
end
section
open PySem PySem.W PySem.Calls PySem.Spec PyProof.Rows
open Builtin

theorem tc_noDec (args : Args) : noDec (.builtin "type.__call__" args) = true := by
  have : Bytes.decodersThatHold.contains "type.__call__" = false := by decide +kernel
  show (!(Bytes.decodersThatHold.contains "type.__call__")) = true
  rw [this]; rfl

section
variable {prog : Program} {w : World} {A : Around} {K : Frag} {C : Addr} {R : Result → Shared → Prop} {h : Heap} {g : Array GenState} {d : Drawn} {t : Nat} {os : OsState}
theorem makeX_core {rest : List Value} {init : Value} (Y : Makes (model prog w) h C) (hi : Looks (model prog w) h (typeLookup (.ref C) "__init__") (some init))
    (hb : ∀ self, Looks (model prog w) h (bindSpecial init self) (init, [self])) (hne : (some init != some (Value.builtin "object.__init__")) = true ∨ (rest = [] ∧ ([] : List (Str × Value)) = []))
    (hq : codeX (model prog w) (A.under (.builtin "type.__call__" ⟨.ref C :: rest, []⟩)) (.call init ⟨.ref (h.objs.size + 1) :: rest, []⟩) (fun r s' => r = .ok (.ret .none) ∧ R (.ok (.ret (.ref (h.objs.size + 1)))) s') ⟨(h.push emptyDict).push (instObj C h.objs.size), g, d, t, os⟩) :
    codeX (model prog w) A (.call (.ref C) ⟨rest, []⟩) R ⟨h, g, d, t, os⟩ := by
  have Y' := Y
  obtain ⟨⟨oc, od, cd, sl, hC, e1, e2, e4⟩, made, base, self, top, call, typ⟩ := Y
  refine codeX_of_tree ?_
  show wpX _ _ (callAny (.ref C) _) _ _
  simp only [callAny]
  refine X_abind (wpAny_load hC ?_)
  dsimp only
  unfold callAny.viaDunder
  refine X_abind (call.at ?_)
  dsimp only
  rw [tc_bind]
  refine X_abind (wpAny_pure ?_)
  dsimp only
  refine X_abind (wpAny_of_eq (a := true) rfl ?_)
  refine X_if_true rfl (X_pure ⟨rfl, rfl, ?_⟩)
  refine codeX_of_tree ?_
  show wpX _ A.in1 (do checkBuiltinCall "type.__call__" ⟨.ref C :: rest, []⟩; again (.builtin "type.__call__" ⟨.ref C :: rest, []⟩)) _ _
  refine X_abind (check_slot tc_kind tc_split typ (tc_args _ _ _) ?_)
  refine X_pure ⟨tc_noDec _, Code.quiet_builtin _ (by decide +kernel), codeX_builtin entry_typeCall ?_⟩
  unfold Builtin.«type.__call__»
  have hm : Looks (model prog w) h (mroOf (.ref C)) cd.mro := ((Looks.ld (part := none) hC).andThen .now).andThen .now
  dsimp only
  refine X_if_false rfl ?_
  refine X_abind (hm.at ?_)
  refine X_if_false e4 ?_
  refine X_abind (made.at ?_)
  dsimp only
  refine X_abind (wpAny_pure ?_)
  have k : ∀ b o, h.get? b = some o → ((h.push emptyDict).push (instObj C h.objs.size)).get? b = some o := fun b o e => Heap.get?_push_of_some _ (Heap.get?_push_of_some _ e)
  have hx : ((h.push emptyDict).push (instObj C h.objs.size)).get? (h.objs.size + 1) = some (instObj C h.objs.size) := by heap_get
  have t1 : Looks (model prog w) ((h.push emptyDict).push (instObj C h.objs.size)) (typeOf (.ref (h.objs.size + 1))) (.ref C) := (Looks.ld hx).andThen .now
  have s1 := self.keeps k
  have i1 := hi.keeps k
  have b1 := (hb (.ref (h.objs.size + 1))).keeps k
  refine X_abind (wpAny_holding (wpAny_call (new_K Y' hi hne ?_)))
  dsimp only
  unfold isInstance
  refine X_abind (wpAny_bind (t1.at (s1.at ?_)))
  refine X_if_false rfl ?_
  refine X_bind (X_holding ?_)
  unfold callSpecial? specialOf
  refine X_abind (wpAny_bind (t1.at (i1.at ?_)))
  dsimp only
  refine X_holding (X_abind (b1.at ?_))
  dsimp only
  refine X_bind (X_call (codeX_mono hq fun r s' z => ?_))
  obtain ⟨rfl, z⟩ := z
  refine X_pure ?_
  dsimp only
  refine X_if_false rfl ?_
  exact X_pure z
end

section
variable {prog : Program} {w : World} {A : Around} {K : Frag} {C : Addr} {s : Shared} {h₀ : Heap} {L : Addr} {m : Str → Option Value} {news : List (Addr × Obj)} {R : Result → Shared → Prop}
theorem makeX {rest : List Value} {fI : Addr} (F : Fr h₀ L s.heap m) (N : News h₀ L s.heap news) (X : K.In h₀) (hm : makesIn K C = true)
    (hi : findIn K (.ref C) "__init__" = some (some (.ref fI))) (hf : typeIn K (.ref fI) = some (.type "function"))
    (h : ∀ x dx h', Fr h₀ L h' m → News h₀ L h' ((x, instObj C dx) :: (dx, emptyDict) :: news) → (∀ p ∈ news, p.1 < dx) → dx < x →
      codeX (model prog w) (A.under (.builtin "type.__call__" ⟨.ref C :: rest, []⟩)) (.call (.ref fI) ⟨.ref x :: rest, []⟩) (fun r s' => r = .ok (.ret .none) ∧ R (.ok (.ret (.ref x))) s') { s with heap := h' }) :
    codeX (model prog w) A (.call (.ref C) ⟨rest, []⟩) R s := by
  have X := X.keeps F.keep
  obtain ⟨hh, g, d, t, os⟩ := s
  refine makeX_core (makes_of X hm) (looks_findIn X hi) (fun self => bind_fn X self hf) (.inl rfl) (h _ hh.objs.size _ ((F.push _).push _) ?_ (fun p hp => Heap.lt_size (N p hp).1) (Nat.lt_succ_self _))
  have := (N.push F emptyDict).push (F.push _) (instObj C hh.objs.size)
  rwa [Heap.size_push] at this
end
end
section
open PySem PySem.W PySem.Calls PySem.Spec PyProof.Rows
section
variable {M : Model} {A : Around} {s : Shared} {env : Env} {K : Frag}
noncomputable abbrev Nev : Value → Shared → Prop := fun _ _ => False

theorem X_cons {st : Stmt} {rest : List Stmt} {Q : Flow → Shared → Prop} (h : wpX M A (exec st env) (fun f s' => match f with | .next => wpX M A (execs rest env) Q s' | f => Q f s') s) : wpX M A (execs (st :: rest) env) Q s := by
  rw [execs_cons]
  refine X_bind (X_mono h fun f s' h' => ?_)
  cases f <;> first | exact h' | exact X_pure h'
theorem X_nil {Q : Flow → Shared → Prop} (h : Q .next s) : wpX M A (execs [] env) Q s := fun _ _ _ _ => h
/-- a statement that the library's walk goes through -/
theorem X_step {st : Stmt} {rest : List Stmt} {Q : Flow → Shared → Prop} (h : wpAny M A (exec st env) (fun f s' => match f with | .next => wpX M A (execs rest env) Q s' | f => Q f s') Nev s) : wpX M A (execs (st :: rest) env) Q s := X_cons (X_any h)
theorem X_operate {vs : List Value} {m : Sem Value} {Q : Value → Shared → Prop} (h : wpX M A m Q s) : wpX M A (operate vs m) Q s := fun Γ p hΓ hc => by rw [Sem.wp_operate]; exact h Γ p hΓ hc
theorem X_Assign_Name {x pos' value pos} {Q : Flow → Shared → Prop} (h : wpX M A (eval value env) (fun v s₁ => wpAny M A (storeName env x v) (fun _ => Q .next) Nev s₁) s)
    (hs : swapsWith value (some (.Name x pos')) pos.line env = pure false := by rfl) : wpX M A (exec (.Assign [.Name x pos'] value pos) env) Q s := by
  rw [exec_Assign_Name env x pos' value pos hs]
  refine X_bind (X_standAt (X_bind (X_mono h fun v s₁ h₁ => X_bind (X_standAt (X_abind (wpAny_bindName (wpAny_mono h₁ (fun _ _ q => X_pure q) fun _ _ q => q))))))) 
theorem X_Assign_Tuple {elts k tpos value pos} {Q : Flow → Shared → Prop} (h : wpX M A (eval value env) (fun v s₁ => wpAny M A (assign (.Tuple elts k tpos) env v) (fun _ => Q .next) Nev s₁) s)
    (hs : swapsWithSole [.Tuple elts k tpos] value pos.line env = pure false := by rfl)
    (hw : swappedStores [.Tuple elts k tpos] value env = pure none := by rfl) : wpX M A (exec (.Assign [.Tuple elts k tpos] value pos) env) Q s := by
  rw [exec_Assign]
  refine X_bind (X_standAt ?_)
  rw [hs]
  refine X_abind (wpAny_pure ?_)
  rw [if_neg (by decide)]
  refine X_bind (X_mono h fun v s₁ h₁ => ?_)
  rw [hw]
  refine X_abind (wpAny_pure ?_)
  show wpX M A (do assignAll v [assign (.Tuple elts k tpos) env]; pure .next) Q s₁
  exact X_abind (wpAny_mono h₁ (fun _ _ q => X_pure q) fun _ _ q => q)
theorem X_Assign_Attr {o attr pos' value pos} {Q : Flow → Shared → Prop}
    (h : wpX M A (eval value env) (fun v s₁ => wpAny M A (eval o env) (fun ov s₂ => wpAny M A (setAttr ov attr v) (fun _ => Q .next) Nev s₂) Nev s₁) s)
    (hs : swapsWith value (some (.Attribute o attr pos')) pos.line env = pure false := by rfl) :
    wpX M A (exec (.Assign [.Attribute o attr pos'] value pos) env) Q s := fun Γ p hΓ hc => by
  simp only [plainObj_exec_Assign_Attribute o attr pos' value pos hs, assign_Attribute, Sem.wp_bind', Sem.wp_holding, Sem.wp_cmd_standAt, Sem.wp_release, Sem.wp_pure']
  exact Sem.wp_mono M Γ _ (fun v p₁ s₁ h₁ => Sem.wp_mono M Γ _ (fun ov _ s₂ h₂ => h₂ Γ _ hΓ) (fun _ _ _ h' => h'.elim) _ _ (h₁ Γ p₁ hΓ)) (fun _ _ _ h' => h'.elim) _ _ (h Γ _ hΓ hc)
theorem X_If {test body orelse pos} {Q : Flow → Shared → Prop} (h : wpX M A (isTrue test env (eval test env)) (fun b s₂ => if b then wpX M A (execs body env) Q s₂ else wpX M A (execs orelse env) Q s₂) s) :
    wpX M A (exec (.If test body orelse pos) env) Q s := by
  rw [exec_If]
  refine X_bind (X_standAt (X_bind (X_mono h fun b s₂ h₂ => ?_)))
  cases b <;> exact h₂
theorem X_Expr {e pos} {Q : Flow → Shared → Prop} (h : wpX M A (eval e env) (fun v s' => match v with | .ref _ => False | _ => Q .next s') s)
    (hi : interactive env = false := by rfl) (hs : swapsWith e none pos.line env = pure false := by rfl) : wpX M A (exec (.Expr e pos) env) Q s := by
  rw [exec_Expr env e pos hi hs]
  refine X_bind (X_standAt (X_bind (X_mono h fun v s' h' => ?_)))
  have hv : ∀ a, v ≠ .ref a := fun a hva => by subst hva; exact h'
  rw [dropValue_plain hv]
  refine X_pure ?_
  cases v <;> first | exact h' | exact (hv _ rfl).elim
theorem X_Call {func : Expr} {args : List Expr} {pos : Pos} {Q : Value → Shared → Prop} (h : wpAny M A (eval func env) (fun f s₁ => wpX M A (callWith pos f [] (backTo pos (starEach args env)) []) Q s₁) Nev s)
    (he : eval (.Call func args [] pos) env = (do callWith pos (← eval func env) [] (backTo pos (starEach args env)) (backToKw pos (keywordEach [] env))) := by rfl) :
    wpX M A (eval (.Call func args [] pos) env) Q s := by
  rw [he]; exact X_abind h
theorem X_MethodCall {o : Expr} {name : Str} {apos pos : Pos} {args : List Expr} {pl : Sem Bool} {Q : Value → Shared → Prop}
    (h : wpAny M A (eval o env) (fun ov s₁ => wpAny M A (getMethod ov name pl) (fun fx s₂ => wpX M A (callWith pos fx.1 fx.2 (backTo pos (starEach args env)) []) Q s₂) Nev s₁) Nev s)
    (he : eval (.Call (.Attribute o name apos) args [] pos) env = (do
      let ov ← eval o env
      standAt apos.atName
      let (f, first) ← holding [ov] (getMethod ov name pl)
      callWith pos f first (backTo pos (starEach args env)) []) := by rfl) :
    wpX M A (eval (.Call (.Attribute o name apos) args [] pos) env) Q s := by
  rw [he]
  exact X_abind (wpAny_mono h (fun ov s₁ h₁ => X_bind (X_standAt (X_abind (wpAny_holding (wpAny_mono h₁ (fun fx s₂ h₂ => h₂) fun _ _ x => x))))) fun _ _ x => x)

theorem X_callWith {P : Heap → Prop} {pos : Pos} {f : Value} {first : List Value} {args : List (Bool × Sem Value)} {Q : Value → Shared → Prop} (hplain : (args.any (·.1) || ([] : List (Option Str × Sem Value)).any (·.1.isNone)) = false)
    (hk : ∀ h, P h → ∃ k, (k = Keeper.frame ∨ k = Keeper.machine ∨ k = Keeper.boundFrame) ∧ Looks M h (keeperOf f) k)
    (h : wpAny M A (evalArgs f true args []) (fun a s₁ => P s₁.heap ∧ wpX M A (call f (first ++ a.pos) a.kw) Q s₁) Nev s) : wpX M A (callWith pos f first args []) Q s := by
  unfold callWith
  refine X_abind (wpAny_holding (wpAny_mono h (fun a s₁ h₁ => X_bind (X_standAt ?_)) fun _ _ x => x))
  obtain ⟨k, hk', L⟩ := hk _ h₁.1
  simp only [hplain]
  refine X_abind (L.here ?_)
  have tail : ∀ {t : Sem Value}, wpX M A t Q s₁ → wpX M A (t >>= fun r => holding [r] point >>= fun _ => pure r) Q s₁ :=
    fun ht => X_bind (X_mono ht fun r s₂ hr => X_bind (X_holding (X_point (X_pure hr))))
  have marked (mk : Value) : wpX M A (callMarked mk f (first ++ a.pos) a.kw) Q s₁ := by unfold callMarked; exact X_keep h₁.2
  rcases hk' with rfl | rfl | rfl <;> dsimp only <;> first | exact tail h₁.2 | (split <;> first | exact tail h₁.2 | exact tail (marked _))
theorem X_callK {h₀ : Heap} {pos : Pos} {f : Value} {first : List Value} {e : Expr} {rest : List Expr} {Q : Value → Shared → Prop} (_X : K.In h₀) (hk : keepIn K f = true)
    (h : wpAny M A (spliced (backTo pos (starEach (e :: rest) env))) (fun vs s₁ => K.In s₁.heap ∧ wpX M A (call f (first ++ vs)) Q s₁) Nev s)
    (he : starEach (e :: rest) env = (false, eval e env) :: starEach rest env := by rfl) (hplain : (backTo pos (starEach rest env)).any (·.1) = false := by rfl) :
    wpX M A (callWith pos f first (backTo pos (starEach (e :: rest) env)) []) Q s := by
  rw [he] at h ⊢
  exact X_callWith (by show ((false || (backTo pos (starEach rest env)).any (·.1)) || false) = false; rw [hplain]; rfl) (keeps_K hk) (evalArgs_plain h)
theorem X_callK0 {pos : Pos} {f : Value} {first : List Value} {Q : Value → Shared → Prop} (X : K.In s.heap) (hk : keepIn K f = true) (h : wpX M A (call f (first ++ [])) Q s) : wpX M A (callWith pos f first (backTo pos (starEach [] env)) []) Q s :=
  X_callWith rfl (keeps_K hk) (evalArgs_nil3 ⟨X, h⟩)
theorem keeps_builtin {f : Value} (hf : ∀ a, f ≠ .ref a) (h : Heap) (_ : True) : ∃ k, (k = Keeper.frame ∨ k = Keeper.machine ∨ k = Keeper.boundFrame) ∧ Looks M h (keeperOf f) k := by
  refine ⟨.machine, .inr (.inl rfl), Looks.of_pure ?_⟩
  unfold keeperOf
  cases f <;> first | rfl | exact absurd rfl (hf _)
theorem X_callB {pos : Pos} {f : Value} {first : List Value} {e : Expr} {rest : List Expr} {Q : Value → Shared → Prop} (hf : ∀ a, f ≠ .ref a)
    (h : wpAny M A (spliced (backTo pos (starEach (e :: rest) env))) (fun vs s₁ => wpX M A (call f (first ++ vs)) Q s₁) Nev s)
    (he : starEach (e :: rest) env = (false, eval e env) :: starEach rest env := by rfl) (hplain : (backTo pos (starEach rest env)).any (·.1) = false := by rfl) :
    wpX M A (callWith pos f first (backTo pos (starEach (e :: rest) env)) []) Q s := by
  rw [he] at h ⊢
  exact X_callWith (by show ((false || (backTo pos (starEach rest env)).any (·.1)) || false) = false; rw [hplain]; rfl) (keeps_builtin hf) (evalArgs_plain (wpAny_mono h (fun _ _ z => ⟨trivial, z⟩) fun _ _ z => z))
theorem X_callB0 {pos : Pos} {f : Value} {first : List Value} {Q : Value → Shared → Prop} (hf : ∀ a, f ≠ .ref a) (h : wpX M A (call f (first ++ [])) Q s) : wpX M A (callWith pos f first (backTo pos (starEach [] env)) []) Q s :=
  X_callWith (P := fun _ => True) rfl (keeps_builtin hf) (evalArgs_nil3 ⟨trivial, h⟩)
end
end
section
open PySem PySem.W PySem.Calls PySem.Spec PyProof.Rows
section
variable {prog : Program} {w : World} {A : Around} {s : Shared} {env : Env} {R : Result → Shared → Prop}

theorem codeX_loop {c : Code} (hq : c.quiet = true) (hn : noDec c = true) (I : Nat → Shared → Prop)
    (turn : ∀ n s, I n s → wpX (model prog w) (A.under c) ((model prog w).den c)
      (fun fin s' => match fin with | .done f => R (.ok f) s' | .again c' => (c' = c ∧ ∃ m, m < n ∧ I m s') ∨ (noDec c' = true ∧ c'.quiet = true ∧ codeX (model prog w) A c' R s')) s)
    (n : Nat) (h : I n s) : codeX (model prog w) A c R s := by
  induction n using Nat.strongRecOn generalizing s with
  | ind n ih =>
    refine codeX_of_tree (X_mono (turn n s h) fun fin s' hf => ?_)
    cases fin with
    | done f => exact hf
    | again c' =>
      rcases hf with ⟨rfl, m, hm, hI⟩ | hf
      · exact ⟨hn, hq, ih m hm hI⟩
      · exact hf

theorem codeX_forLoop {x : Str} {px : Pos} {it : Value} {body : List Stmt} (I : Nat → Shared → Prop)
    (turn : ∀ n s, I n s → wpAny (model prog w) A (pyNext it) (fun r s₁ => match r with
      | none => R (.ok .next) s₁
      | some v => wpAny (model prog w) A (storeName env x v) (fun _ s₂ => wpX (model prog w) A (execs body env) (fun f s₃ => match f with
          | .next | .cont => ∃ m, m < n ∧ I m s₃
          | .brk => R (.ok .next) s₃
          | .ret v => R (.ok (.ret v)) s₃) s₂) Nev s₁) Nev s)
    (n : Nat) (h : I n s) : codeX (model prog w) A (.forLoop (.Name x px) it body [] env) R s := by
  refine codeX_loop rfl rfl I (fun n s hI => ?_) n h
  show wpX _ _ ((forTurn (.Name x px) it body [] env).onRaise (fun x => do noteFrame x env; theTreesLotGoes x)) _ s
  refine X_onRaise ?_
  have hA : A.under (.forLoop (.Name x px) it body [] env) = A := Around.under_of_weight (by rfl)
  rw [hA]
  simp only [forTurn]
  refine X_bind (X_standAt (X_bind (X_onRaise (X_any (wpAny_mono (turn n s hI) (fun r s₁ h₁ => ?_) fun _ _ h' => h')))))
  cases r with
  | none =>
    refine X_pure (.inr ⟨rfl, rfl, codeX_of_tree ?_⟩)
    show wpX _ _ (do return Fin.done (← (execs [] env).onRaise (fun x => do noteFrame x env; theTreesLotGoes x))) _ _
    exact X_bind (X_onRaise (X_nil (X_pure h₁)))
  | some v =>
    refine X_abind (wpAny_of_eq (a := ()) rfl ?_)
    rw [PySem.assign_Name]
    refine X_bind (X_bind (X_standAt (X_any (wpAny_bindName (wpAny_mono h₁ (fun _ s₂ h₂ => X_bind (X_mono h₂ fun f s₃ h₃ => ?_)) fun _ _ q => q)))))
    cases f with
    | next => exact X_pure (.inl ⟨rfl, h₃⟩)
    | cont => exact X_pure (.inl ⟨rfl, h₃⟩)
    | brk => exact X_pure h₃
    | ret v => exact X_pure h₃

theorem X_runOwn {M : Model} {c : Code} {Q : Flow → Shared → Prop} (hn : noDec c = true) (h : codeX M A c (fun r s' => match r with | .ok f => Q f s' | .error _ => False) s) : wpX M A (runOwn c env) Q s :=
  X_onRaise (X_run (h := none) hn (by exact h))

theorem X_For {target iter body orelse pos} {Q : Flow → Shared → Prop}
    (h : wpAny (model prog w) A (eval iter env) (fun x s₁ => wpAny (model prog w) A (pyIter x) (fun it s₂ =>
      codeX (model prog w) A (.forLoop target it body orelse env) (fun r s' => match r with | .ok f => Q f s' | .error _ => False) s₂) Nev s₁) Nev s)
    (hs : ∀ x, foldedSetIterable iter env x = pure x := by intro _; rfl) : wpX (model prog w) A (exec (.For target iter body orelse pos) env) Q s := by
  rw [exec_For]
  refine X_bind (X_standAt (X_abind (wpAny_mono h (fun x s₁ h₁ => X_abind (wpAny_of_eq (hs x) (X_bind (X_standAt (X_abind (wpAny_holding (wpAny_mono h₁ (fun it s₂ h₂ => ?_) fun _ _ q => q))))))) fun _ _ q => q)))
  exact X_runOwn rfl h₂

/-- a loop over a range, by an invariant over the frame's map and the ledger -/
theorem X_rangeLoop {x : Str} {px : Pos} {body : List Stmt} {h₀ : Heap} {r : Addr} {b₀ : Int} {t₀ u₀ v₀ : Tok} {n : Nat} {m₀ : Str → Option Value} {news : List (Addr × Obj)}
    (J : Nat → (Str → Option Value) → List (Addr × Obj) → Prop) (hx : env.kindOf x = some .local)
    (hp : (env.scope.kind == .class || (env.scope.kind == .module && env.locals != env.globals)) = false) (hh : A.handled = none)
    (hr : IsRange s.heap r 0 b₀ 1 t₀ u₀ v₀) (hsmall : Builtin.Range.small 0 b₀ 1 = true) (hn : Builtin.Range.rangeSize 0 b₀ 1 = (n : Int))
    (F : Fr h₀ env.locals s.heap m₀) (N : News h₀ env.locals s.heap news) (hj : J 0 m₀ news)
    (turn : ∀ i t m₁ news₁ I o h tk, i < n → J i m₁ news₁ → (∀ p ∈ news₁, p.1 ≠ I) → Fr h₀ env.locals h (fun y => if y = x then some (.int i t) else m₁ y) → News h₀ env.locals h ((I, o) :: news₁) →
      wpX (model prog w) A (execs body env) (fun f s' => match f with
        | .ret v => R (.ok (.ret v)) s'
        | .brk => False
        | _ => ∃ h' tk' m' news', s' = { s with heap := h', toks := tk' } ∧ Fr h₀ env.locals h' m' ∧ News h₀ env.locals h' ((I, o) :: news') ∧ (∀ p ∈ news', p.1 ≠ I) ∧ J (i + 1) m' news') { s with heap := h, toks := tk })
    (done : ∀ m₁ news₁ h tk, J n m₁ news₁ → Fr h₀ env.locals h m₁ → News h₀ env.locals h news₁ → R (.ok .next) { s with heap := h, toks := tk }) :
    wpAny (model prog w) A (pyIter (.ref r)) (fun it s₂ => codeX (model prog w) A (.forLoop (.Name x px) it body [] env) R s₂) Nev s := by
  refine wpAny_pyIter_range hr hsmall ?_
  have W : Walks prog w A s.heap.objs.size [s.heap.objs.size] [s.heap.objs.size] n (fun i v => ∃ t, v = .int (0 + i * 1) t)
      (fun i h => IsRangeIter h s.heap.objs.size (0 + (i : Nat) * 1) ((n : Int) - (i : Nat)) 1) := Walks.range hh _ 0 1 n
  generalize hI : s.heap.objs.size = I at W ⊢
  have hLI : env.locals ≠ I := by rw [← hI]; exact Nat.ne_of_lt F.ns.lt
  have hI0 : h₀.get? I = none := by rw [← hI]; exact next_is_new F
  refine codeX_forLoop (fun k s' => ∃ h tk m₁ news₁ i, s' = { s with heap := h, toks := tk } ∧ IsRangeIter h I (0 + (i : Nat) * 1) ((n : Int) - (i : Nat)) 1 ∧ Fr h₀ env.locals h m₁ ∧ News h₀ env.locals h news₁ ∧ (∀ p ∈ news₁, p.1 ≠ I) ∧ J i m₁ news₁ ∧ i ≤ n ∧ k = n + 1 - i) ?_ (n + 1) ?_
  · rintro k s' ⟨h, tk, m₁, news₁, i, rfl, hst, F₁, N₁, hne, hJ, hi, rfl⟩
    have next : ∀ h₁ : Heap, (∀ b o, b ∉ [I] → h.get? b = some o → h₁.get? b = some o) → Fr h₀ env.locals h₁ m₁ ∧ News h₀ env.locals h₁ news₁ := fun h₁ hk₁ =>
      ⟨⟨F₁.ns.at' fun o e => hk₁ _ o (by simpa using hLI) e, fun b o e => hk₁ b o (by
        intro hb
        have hb := List.mem_singleton.mp hb
        rw [hb, hI0] at e; cases e) (F₁.keep b o e), F₁.above⟩, fun p hp => ⟨hk₁ _ _ (by simpa using hne p hp) (N₁ p hp).1, (N₁ p hp).2⟩⟩
    by_cases hlt : i < n
    · refine W.item i _ _ _ hlt hst fun v h₁ tk₁ hP hst₁ hk₁ => ?_
      obtain ⟨t, rfl⟩ := hP
      obtain ⟨F₂, N₂⟩ := next h₁ hk₁
      refine wpAny_storeName_local hx F₂.ns (fun h₂ hn₂ hs₂ => ?_) hp
      have F₃ := F₂.set hn₂ hs₂
      have hst₂ : IsRangeIter h₂ I (0 + ((i + 1 : Nat) : Int) * 1) ((n : Int) - ((i + 1 : Nat) : Int)) 1 := W.frame _ _ _ hst₁ fun b hb o e => by
        have hb := List.mem_singleton.mp hb
        exact (hs₂.2 b (by rw [hb]; exact Ne.symm hLI)).trans e
      have N₃ : News h₀ env.locals h₂ ((I, _) :: news₁) := fun p hp => by
        rcases List.mem_cons.mp hp with rfl | hp
        · exact ⟨hst₂, Ne.symm hLI, hI0⟩
        · exact (N₂.set hs₂) p hp
      have e0 : (0 : Int) + (i : Int) * 1 = (i : Int) := by omega
      rw [e0] at F₃
      refine X_mono (turn i t m₁ news₁ I _ h₂ _ hlt hJ hne F₃ N₃) fun f s₃ h₃ => ?_
      cases f with
      | ret v => exact h₃
      | brk => exact h₃.elim
      | next =>
        obtain ⟨h', tk', m', news', rfl, F', N', hne', hJ'⟩ := h₃
        refine ⟨n + 1 - (i + 1), by omega, h', tk', m', news', i + 1, rfl, ?_, F', fun p hp => N' p (.tail _ hp), hne', hJ', hlt, rfl⟩
        exact W.frame _ _ _ hst₂ fun b hb o e => by
          have hb := List.mem_singleton.mp hb
          have := (N' _ (.head _)).1
          rw [hb] at e ⊢
          have hst₃ : h₂.get? I = some _ := hst₂
          exact this.trans (hst₃.symm.trans e)
      | cont =>
        obtain ⟨h', tk', m', news', rfl, F', N', hne', hJ'⟩ := h₃
        refine ⟨n + 1 - (i + 1), by omega, h', tk', m', news', i + 1, rfl, ?_, F', fun p hp => N' p (.tail _ hp), hne', hJ', hlt, rfl⟩
        exact W.frame _ _ _ hst₂ fun b hb o e => by
          have hb := List.mem_singleton.mp hb
          have := (N' _ (.head _)).1
          rw [hb] at e ⊢
          have hst₃ : h₂.get? I = some _ := hst₂
          exact this.trans (hst₃.symm.trans e)
    · obtain rfl : i = n := by omega
      refine W.done _ _ _ hst fun h₁ tk₁ hk₁ => ?_
      obtain ⟨F₂, N₂⟩ := next h₁ hk₁
      exact done m₁ news₁ h₁ tk₁ hJ F₂ N₂
  · refine ⟨_, _, m₀, news, 0, rfl, ?_, F.push _, (fun p hp => ⟨Heap.get?_push_of_some _ (N p hp).1, (N p hp).2⟩), ?_, hj, Nat.zero_le _, rfl⟩
    · show IsRangeIter _ _ _ _ _
      rw [hn, ← hI]
      simpa using Heap.get?_push_size _ rfl
    · intro p hp e
      exact absurd (Heap.lt_size (N p hp).1) (by rw [e, ← hI]; exact Nat.lt_irrefl _)
end
end
section
open PySem PySem.W PyProof.Rows
noncomputable abbrev pw : Program := PySem.Challenge.pw_pq1200_01
noncomputable def st (i : Nat) : Stmt := pw.main.body.getD i (.Pass default)
noncomputable def me (i j : Nat) : Stmt := match st i with | .ClassDef _ _ _ b .. => b.getD j (.Pass default) | _ => .Pass default
noncomputable def fP : Stmt → Arguments | .FunctionDef _ a .. => a | _ => ⟨[], [], none, [], [], none, []⟩
noncomputable def fB : Stmt → List Stmt | .FunctionDef _ _ b .. => b | _ => []
noncomputable def fS : Stmt → Scope | .FunctionDef _ _ _ _ _ _ sc .. => sc | _ => default
noncomputable abbrev s (x : String) : Str := Str.ofString x
noncomputable abbrev T (x : String) (n : Nat) : Value := .str (Str.ofString x) n
noncomputable abbrev Z (i : Int) (n : Nat) : Value := .int i n
noncomputable abbrev e (P : Params) (x : String) (t : Nat) (v : Value) : DictEntry := ⟨PyData.keyHash P (Str.ofString x), T x t, v⟩

noncomputable def o2 (P : Params) : Obj := ⟨.none, none, (.dict #[e P "type.__subclasses__.Exception.0" 1002 (Z 598 0), e P "type.__subclasses__.Exception.n" 1003 (Z 1 0)] 2), #[]⟩
noncomputable def o3 (P : Params) : Obj := ⟨(.type "dict"), none, (.dict #[e P "__name__" 165 (T "law_pq1200_01" 1742), e P "__doc__" 166 .none, e P "__package__" 167 .none, e P "__loader__" 168 (.builtin "__main__.__loader__#opaque"), e P "__spec__" 169 .none, e P "__annotations__" 170 (.ref 6), e P "__builtins__" 171 (.ref 4), e P "__file__" 173 (T "/claim/cut.py" 172), e P "__cached__" 174 .none, e P "_wall" 193 (.ref 21), e P "plus" 204 (.ref 28), e P "distance" 213 (.ref 35), e P "is_before" 223 (.ref 42), e P "is_at_most" 232 (.ref 49), e P "is_within" 242 (.ref 56), e P "latest" 251 (.ref 63), e P "is_acceptable" 264 (.ref 70), e P "is_let_in" 276 (.ref 77), e P "Assembly" 434 (.ref 169), e P "Receiver" 608 (.ref 303), e P "EVERY" 612 (Z 2 611), e P "AckPolicy" 684 (.ref 360), e P "Congestion" 795 (.ref 444), e P "MOST_SHIFT" 799 (Z 7 798), e P "RetransmitClock" 898 (.ref 521), e P "RttEstimate" 974 (.ref 577), e P "StackError" 1005 (.ref 598), e P "SizeError" 1021 (.ref 611), e P "StateError" 1037 (.ref 623), e P "SendQueue" 1109 (.ref 677), e P "PeerWindow" 1164 (.ref 712), e P "Sender" 1401 (.ref 903), e P "put16" 1410 (.ref 914), e P "FIN" 1414 (Z 1 1413), e P "SYN" 1416 (Z 2 1415), e P "ACK" 1418 (Z 16 1417), e P "OPTION_MSS" 1420 (Z 2 1419), e P "MSS_SIZE" 1422 (Z 4 1421), e P "Segment" 1494 (.ref 953), e P "check_number" 1502 (.ref 964), e P "mss_option" 1509 (.ref 971), e P "CLOSED" 1511 (T "closed" 1510), e P "Wheel" 1605 (.ref 1034), e P "DELAYED" 1609 (Z 3 1608), e P "MOST_WINDOW" 1611 (Z 65535 1610), e P "Limits" 1658 (.ref 1055), e P "clock_of" 1666 (.ref 1066), e P "Tcb" 1732 (.ref 1098), e P "ack_segment" 1741 (.ref 1109), e P "_law_pool" 1754 (.ref 1116), e P "_law_take" 1763 (.ref 1123), e P "_law_one" 1771 (.ref 1130), e P "_law_made" 1781 (.ref 1137), e P "_law_window" 1788 (.ref 1144), e P "_law_come" 1798 (.ref 1151), e P "_law_read" 1807 (.ref 1158), e P "_law_acked_right" 1817 (.ref 1165), e P "_law_sent" 1826 (.ref 1172), e P "_law_back" 1835 (.ref 1179), e P "_law_let_right" 1841 (.ref 1184), e P "_law_told_first" 1849 (.ref 1191), e P "law" 1865 (.ref 1198)] 62), #[]⟩
noncomputable def oE (P : Params) : Obj := ⟨(.type "tuple"), none, (.seq #[] 0), #[]⟩
noncomputable def oF (P : Params) : Obj := ⟨.none, none, (.fields #[]), #[]⟩
noncomputable def o12 (P : Params) : Obj := ⟨.none, none, (.fields #[(Z 1 0), (Z 0 0), (.ref 20), (Z 5 0), (Z 0 0), (.ref 27), (Z 7 0), (Z 0 0), (.ref 34), (Z 9 0), (Z 0 0), (.ref 41), (Z 12 0), (Z 0 0), (.ref 48), (Z 14 0), (Z 0 0), (.ref 55), (Z 16 0), (Z 0 0), (.ref 62), (Z 19 0), (Z 0 0), (.ref 69), (Z 28 0), (Z 0 0), (.ref 76), (Z 35 0), (Z 0 0), (.ref 83), (Z 134 0), (Z 0 0), (.ref 179), (Z 232 0), (Z 0 0), (.ref 313), (Z 264 0), (Z 0 0), (.ref 370), (Z 323 0), (Z 0 0), (.ref 454), (Z 367 0), (Z 0 0), (.ref 531), (Z 405 0), (Z 0 0), (.ref 587), (Z 409 0), (Z 0 0), (.ref 607), (Z 411 0), (Z 0 0), (.ref 619), (Z 414 0), (Z 0 0), (.ref 631), (Z 443 0), (Z 0 0), (.ref 687), (Z 468 0), (Z 0 0), (.ref 722), (Z 599 0), (Z 0 0), (.ref 913), (Z 607 0), (Z 0 0), (.ref 920), (Z 634 0), (Z 0 0), (.ref 963), (Z 637 0), (Z 0 0), (.ref 970), (Z 642 0), (Z 0 0), (.ref 977), (Z 698 0), (Z 0 0), (.ref 1044), (Z 711 0), (Z 0 0), (.ref 1065), (Z 714 0), (Z 0 0), (.ref 1072), (Z 748 0), (Z 0 0), (.ref 1108), (Z 751 0), (Z 0 0), (.ref 1115), (Z 758 0), (Z 0 0), (.ref 1122), (Z 765 0), (Z 0 0), (.ref 1129), (Z 767 0), (Z 0 0), (.ref 1136), (Z 775 0), (Z 0 0), (.ref 1143), (Z 777 0), (Z 0 0), (.ref 1150), (Z 784 0), (Z 0 0), (.ref 1157), (Z 788 0), (Z 0 0), (.ref 1164), (Z 794 0), (Z 0 0), (.ref 1171), (Z 800 0), (Z 0 0), (.ref 1178), (Z 804 0), (Z 0 0), (.ref 1183), (Z 812 0), (Z 0 0), (.ref 1190), (Z 817 0), (Z 0 0), (.ref 1197)]), #[]⟩
noncomputable def o13 (P : Params) : Obj := ⟨(.type "code"), none, (.fields #[(T "<module>" 182), (T "<module>" 183), (T "/claim/cut.py" 184), (Z 1 0), (Z 0 0), (Z 0 0), (Z 0 0), (Z 0 0), (.ref 11), (.bool false), (Z 181 0), (.ref 12), .none, .none, .none, .none, (Z 185 0), (Z 1 0), (T "/claim/cut.py" 186)]), #[]⟩
noncomputable def o14 (P : Params) : Obj := ⟨(.type "frame"), none, .plain, #[(some (.ref 13)), (some (.ref 3)), (some (.ref 3)), none, (some (T "__main__" 164)), none, (some (.ref 0))]⟩
noncomputable def o17 (P : Params) : Obj := ⟨(.type "tuple"), none, (.seq #[(T "k" 190)] 0), #[]⟩
noncomputable def o19 (P : Params) : Obj := ⟨.none, none, (.func { name := s "_wall", qualname := s "_wall", params := fP (st 0), body := .stmts (fB (st 0)), scope := fS (st 0), globals := 0, closure := [], defaults := .none, kwdefaults := .none, doc := .none, pyModule := .none, annotations := none, code := .none, closureTuple := .none, builtins := 0 }), #[]⟩
noncomputable def o20 (P : Params) : Obj := ⟨(.type "code"), none, (.fields #[(T "_wall" 187), (T "_wall" 188), (T "/claim/cut.py" 189), (Z 1 0), (Z 1 0), (Z 0 0), (Z 0 0), (Z 3 0), (.ref 15), (.bool true), (Z 181 0), (.ref 16), .none, (.ref 17), (.ref 18), (.ref 19), (Z 191 0), (Z 1 0), (T "/claim/cut.py" 192)]), #[]⟩
noncomputable def o21 (P : Params) : Obj := ⟨(.type "function"), none, (.func { name := s "_wall", qualname := s "_wall", params := fP (st 0), body := .stmts (fB (st 0)), scope := fS (st 0), globals := 3, closure := [], defaults := .none, kwdefaults := .none, doc := .none, pyModule := (T "__main__" 164), annotations := none, code := (.ref 20), closureTuple := .none, builtins := 0 }), #[]⟩
noncomputable def o24 (P : Params) : Obj := ⟨(.type "tuple"), none, (.seq #[(T "a" 199), (T "n" 200), (T "ring" 201)] 0), #[]⟩
noncomputable def o26 (P : Params) : Obj := ⟨.none, none, (.func { name := s "plus", qualname := s "plus", params := fP (st 2), body := .stmts (fB (st 2)), scope := fS (st 2), globals := 0, closure := [], defaults := .none, kwdefaults := .none, doc := .none, pyModule := .none, annotations := none, code := .none, closureTuple := .none, builtins := 0 }), #[]⟩
noncomputable def o27 (P : Params) : Obj := ⟨(.type "code"), none, (.fields #[(T "plus" 196), (T "plus" 197), (T "/claim/cut.py" 198), (Z 5 0), (Z 3 0), (Z 0 0), (Z 0 0), (Z 3 0), (.ref 22), (.bool true), (Z 181 0), (.ref 23), .none, (.ref 24), (.ref 25), (.ref 26), (Z 202 0), (Z 5 0), (T "/claim/cut.py" 203)]), #[]⟩
noncomputable def o28 (P : Params) : Obj := ⟨(.type "function"), none, (.func { name := s "plus", qualname := s "plus", params := fP (st 2), body := .stmts (fB (st 2)), scope := fS (st 2), globals := 3, closure := [], defaults := .none, kwdefaults := .none, doc := .none, pyModule := (T "thinstack.sequence" 194), annotations := none, code := (.ref 27), closureTuple := .none, builtins := 0 }), #[]⟩
noncomputable def o31 (P : Params) : Obj := ⟨(.type "tuple"), none, (.seq #[(T "a" 208), (T "b" 209), (T "ring" 210)] 0), #[]⟩
noncomputable def o33 (P : Params) : Obj := ⟨.none, none, (.func { name := s "distance", qualname := s "distance", params := fP (st 3), body := .stmts (fB (st 3)), scope := fS (st 3), globals := 0, closure := [], defaults := .none, kwdefaults := .none, doc := .none, pyModule := .none, annotations := none, code := .none, closureTuple := .none, builtins := 0 }), #[]⟩
noncomputable def o34 (P : Params) : Obj := ⟨(.type "code"), none, (.fields #[(T "distance" 205), (T "distance" 206), (T "/claim/cut.py" 207), (Z 7 0), (Z 3 0), (Z 0 0), (Z 0 0), (Z 3 0), (.ref 29), (.bool true), (Z 181 0), (.ref 30), .none, (.ref 31), (.ref 32), (.ref 33), (Z 211 0), (Z 7 0), (T "/claim/cut.py" 212)]), #[]⟩
noncomputable def o35 (P : Params) : Obj := ⟨(.type "function"), none, (.func { name := s "distance", qualname := s "distance", params := fP (st 3), body := .stmts (fB (st 3)), scope := fS (st 3), globals := 3, closure := [], defaults := .none, kwdefaults := .none, doc := .none, pyModule := (T "thinstack.sequence" 194), annotations := none, code := (.ref 34), closureTuple := .none, builtins := 0 }), #[]⟩
noncomputable def o38 (P : Params) : Obj := ⟨(.type "tuple"), none, (.seq #[(T "a" 217), (T "b" 218), (T "ring" 219), (T "gap" 220)] 0), #[]⟩
noncomputable def o40 (P : Params) : Obj := ⟨.none, none, (.func { name := s "is_before", qualname := s "is_before", params := fP (st 4), body := .stmts (fB (st 4)), scope := fS (st 4), globals := 0, closure := [], defaults := .none, kwdefaults := .none, doc := .none, pyModule := .none, annotations := none, code := .none, closureTuple := .none, builtins := 0 }), #[]⟩
noncomputable def o41 (P : Params) : Obj := ⟨(.type "code"), none, (.fields #[(T "is_before" 214), (T "is_before" 215), (T "/claim/cut.py" 216), (Z 9 0), (Z 3 0), (Z 0 0), (Z 0 0), (Z 3 0), (.ref 36), (.bool true), (Z 181 0), (.ref 37), .none, (.ref 38), (.ref 39), (.ref 40), (Z 221 0), (Z 9 0), (T "/claim/cut.py" 222)]), #[]⟩
noncomputable def o42 (P : Params) : Obj := ⟨(.type "function"), none, (.func { name := s "is_before", qualname := s "is_before", params := fP (st 4), body := .stmts (fB (st 4)), scope := fS (st 4), globals := 3, closure := [], defaults := .none, kwdefaults := .none, doc := .none, pyModule := (T "thinstack.sequence" 194), annotations := none, code := (.ref 41), closureTuple := .none, builtins := 0 }), #[]⟩
noncomputable def o45 (P : Params) : Obj := ⟨(.type "tuple"), none, (.seq #[(T "a" 227), (T "b" 228), (T "ring" 229)] 0), #[]⟩
noncomputable def o47 (P : Params) : Obj := ⟨.none, none, (.func { name := s "is_at_most", qualname := s "is_at_most", params := fP (st 5), body := .stmts (fB (st 5)), scope := fS (st 5), globals := 0, closure := [], defaults := .none, kwdefaults := .none, doc := .none, pyModule := .none, annotations := none, code := .none, closureTuple := .none, builtins := 0 }), #[]⟩
noncomputable def o48 (P : Params) : Obj := ⟨(.type "code"), none, (.fields #[(T "is_at_most" 224), (T "is_at_most" 225), (T "/claim/cut.py" 226), (Z 12 0), (Z 3 0), (Z 0 0), (Z 0 0), (Z 3 0), (.ref 43), (.bool true), (Z 181 0), (.ref 44), .none, (.ref 45), (.ref 46), (.ref 47), (Z 230 0), (Z 12 0), (T "/claim/cut.py" 231)]), #[]⟩
noncomputable def o49 (P : Params) : Obj := ⟨(.type "function"), none, (.func { name := s "is_at_most", qualname := s "is_at_most", params := fP (st 5), body := .stmts (fB (st 5)), scope := fS (st 5), globals := 3, closure := [], defaults := .none, kwdefaults := .none, doc := .none, pyModule := (T "thinstack.sequence" 194), annotations := none, code := (.ref 48), closureTuple := .none, builtins := 0 }), #[]⟩
noncomputable def o52 (P : Params) : Obj := ⟨(.type "tuple"), none, (.seq #[(T "x" 236), (T "low" 237), (T "size" 238), (T "ring" 239)] 0), #[]⟩
noncomputable def o54 (P : Params) : Obj := ⟨.none, none, (.func { name := s "is_within", qualname := s "is_within", params := fP (st 6), body := .stmts (fB (st 6)), scope := fS (st 6), globals := 0, closure := [], defaults := .none, kwdefaults := .none, doc := .none, pyModule := .none, annotations := none, code := .none, closureTuple := .none, builtins := 0 }), #[]⟩
noncomputable def o55 (P : Params) : Obj := ⟨(.type "code"), none, (.fields #[(T "is_within" 233), (T "is_within" 234), (T "/claim/cut.py" 235), (Z 14 0), (Z 4 0), (Z 0 0), (Z 0 0), (Z 3 0), (.ref 50), (.bool true), (Z 181 0), (.ref 51), .none, (.ref 52), (.ref 53), (.ref 54), (Z 240 0), (Z 14 0), (T "/claim/cut.py" 241)]), #[]⟩
noncomputable def o56 (P : Params) : Obj := ⟨(.type "function"), none, (.func { name := s "is_within", qualname := s "is_within", params := fP (st 6), body := .stmts (fB (st 6)), scope := fS (st 6), globals := 3, closure := [], defaults := .none, kwdefaults := .none, doc := .none, pyModule := (T "thinstack.sequence" 194), annotations := none, code := (.ref 55), closureTuple := .none, builtins := 0 }), #[]⟩
noncomputable def o59 (P : Params) : Obj := ⟨(.type "tuple"), none, (.seq #[(T "a" 246), (T "b" 247), (T "ring" 248)] 0), #[]⟩
noncomputable def o61 (P : Params) : Obj := ⟨.none, none, (.func { name := s "latest", qualname := s "latest", params := fP (st 7), body := .stmts (fB (st 7)), scope := fS (st 7), globals := 0, closure := [], defaults := .none, kwdefaults := .none, doc := .none, pyModule := .none, annotations := none, code := .none, closureTuple := .none, builtins := 0 }), #[]⟩
noncomputable def o62 (P : Params) : Obj := ⟨(.type "code"), none, (.fields #[(T "latest" 243), (T "latest" 244), (T "/claim/cut.py" 245), (Z 16 0), (Z 3 0), (Z 0 0), (Z 0 0), (Z 3 0), (.ref 57), (.bool true), (Z 181 0), (.ref 58), .none, (.ref 59), (.ref 60), (.ref 61), (Z 249 0), (Z 16 0), (T "/claim/cut.py" 250)]), #[]⟩
noncomputable def o63 (P : Params) : Obj := ⟨(.type "function"), none, (.func { name := s "latest", qualname := s "latest", params := fP (st 7), body := .stmts (fB (st 7)), scope := fS (st 7), globals := 3, closure := [], defaults := .none, kwdefaults := .none, doc := .none, pyModule := (T "thinstack.sequence" 194), annotations := none, code := (.ref 62), closureTuple := .none, builtins := 0 }), #[]⟩
noncomputable def o66 (P : Params) : Obj := ⟨(.type "tuple"), none, (.seq #[(T "seq" 257), (T "length" 258), (T "expected" 259), (T "window" 260), (T "ring" 261)] 0), #[]⟩
noncomputable def o68 (P : Params) : Obj := ⟨.none, none, (.func { name := s "is_acceptable", qualname := s "is_acceptable", params := fP (st 9), body := .stmts (fB (st 9)), scope := fS (st 9), globals := 0, closure := [], defaults := .none, kwdefaults := .none, doc := .none, pyModule := .none, annotations := none, code := .none, closureTuple := .none, builtins := 0 }), #[]⟩
noncomputable def o69 (P : Params) : Obj := ⟨(.type "code"), none, (.fields #[(T "is_acceptable" 254), (T "is_acceptable" 255), (T "/claim/cut.py" 256), (Z 19 0), (Z 5 0), (Z 0 0), (Z 0 0), (Z 3 0), (.ref 64), (.bool true), (Z 181 0), (.ref 65), .none, (.ref 66), (.ref 67), (.ref 68), (Z 262 0), (Z 19 0), (T "/claim/cut.py" 263)]), #[]⟩
noncomputable def o70 (P : Params) : Obj := ⟨(.type "function"), none, (.func { name := s "is_acceptable", qualname := s "is_acceptable", params := fP (st 9), body := .stmts (fB (st 9)), scope := fS (st 9), globals := 3, closure := [], defaults := .none, kwdefaults := .none, doc := .none, pyModule := (T "thinstack.windows" 252), annotations := none, code := (.ref 69), closureTuple := .none, builtins := 0 }), #[]⟩
noncomputable def o73 (P : Params) : Obj := ⟨(.type "tuple"), none, (.seq #[(T "tcb" 270), (T "segment" 271), (T "receiver" 272), (T "window" 273)] 0), #[]⟩
noncomputable def o75 (P : Params) : Obj := ⟨.none, none, (.func { name := s "is_let_in", qualname := s "is_let_in", params := fP (st 11), body := .stmts (fB (st 11)), scope := fS (st 11), globals := 0, closure := [], defaults := .none, kwdefaults := .none, doc := .none, pyModule := .none, annotations := none, code := .none, closureTuple := .none, builtins := 0 }), #[]⟩
noncomputable def o76 (P : Params) : Obj := ⟨(.type "code"), none, (.fields #[(T "is_let_in" 267), (T "is_let_in" 268), (T "/claim/cut.py" 269), (Z 28 0), (Z 2 0), (Z 0 0), (Z 0 0), (Z 3 0), (.ref 71), (.bool true), (Z 181 0), (.ref 72), .none, (.ref 73), (.ref 74), (.ref 75), (Z 274 0), (Z 28 0), (T "/claim/cut.py" 275)]), #[]⟩
noncomputable def o77 (P : Params) : Obj := ⟨(.type "function"), none, (.func { name := s "is_let_in", qualname := s "is_let_in", params := fP (st 11), body := .stmts (fB (st 11)), scope := fS (st 11), globals := 3, closure := [], defaults := .none, kwdefaults := .none, doc := .none, pyModule := (T "thinstack.tcp_input" 265), annotations := none, code := (.ref 76), closureTuple := .none, builtins := 0 }), #[]⟩
noncomputable def o79 (P : Params) : Obj := ⟨(.type "builtin_function_or_method"), none, (.fields #[(.builtin "type.__prepare__"), (.type "type")]), #[]⟩
noncomputable def o80 (P : Params) : Obj := ⟨(.type "dict"), none, (.dict #[e P "__module__" 286 (T "thinstack.assembly" 277), e P "__qualname__" 288 (T "Assembly" 287), e P "__firstlineno__" 290 (Z 35 289), e P "__init__" 298 (.ref 91), e P "size" 304 (.ref 96), e P "is_empty" 311 (.ref 103), e P "offset" 320 (.ref 110), e P "put" 332 (.ref 117), e P "missing" 349 (.ref 124), e P "merged" 363 (.ref 131), e P "joined" 378 (.ref 138), e P "forget" 389 (.ref 145), e P "take" 397 (.ref 152), e P "holes" 410 (.ref 159), e P "cut_behind" 424 (.ref 166), e P "__static_attributes__" 427 (.ref 167)] 16), #[]⟩
noncomputable def o82 (P : Params) : Obj := ⟨.none, none, (.fields #[(Z 37 0), (Z 4 0), (.ref 90), (Z 41 0), (Z 4 0), (.ref 95), (Z 44 0), (Z 4 0), (.ref 102), (Z 47 0), (Z 4 0), (.ref 109), (Z 52 0), (Z 4 0), (.ref 116), (Z 62 0), (Z 4 0), (.ref 123), (Z 79 0), (Z 4 0), (.ref 130), (Z 88 0), (Z 4 0), (.ref 137), (Z 99 0), (Z 4 0), (.ref 144), (Z 110 0), (Z 4 0), (.ref 151), (Z 116 0), (Z 4 0), (.ref 158), (Z 125 0), (Z 4 0), (.ref 165)]), #[]⟩
noncomputable def o83 (P : Params) : Obj := ⟨(.type "code"), none, (.fields #[(T "Assembly" 281), (T "Assembly" 282), (T "/claim/cut.py" 283), (Z 35 0), (Z 0 0), (Z 0 0), (Z 0 0), (Z 0 0), (.ref 81), (.bool false), (Z 181 0), (.ref 82), .none, .none, .none, .none, (Z 284 0), (Z 35 0), (T "/claim/cut.py" 285)]), #[]⟩
noncomputable def o84 (P : Params) : Obj := ⟨(.type "frame"), none, .plain, #[(some (.ref 83)), (some (.ref 3)), (some (.ref 80)), none, (some (T "thinstack.assembly" 277)), none, (some (.ref 0))]⟩
noncomputable def o87 (P : Params) : Obj := ⟨(.type "tuple"), none, (.seq #[(T "self" 294), (T "ring" 295)] 0), #[]⟩
noncomputable def o89 (P : Params) : Obj := ⟨.none, none, (.func { name := s "__init__", qualname := s "Assembly.__init__", params := fP (me 13 0), body := .stmts (fB (me 13 0)), scope := fS (me 13 0), globals := 0, closure := [], defaults := .none, kwdefaults := .none, doc := .none, pyModule := .none, annotations := none, code := .none, closureTuple := .none, builtins := 0 }), #[]⟩
noncomputable def o90 (P : Params) : Obj := ⟨(.type "code"), none, (.fields #[(T "__init__" 291), (T "Assembly.__init__" 292), (T "/claim/cut.py" 293), (Z 37 0), (Z 2 0), (Z 0 0), (Z 0 0), (Z 3 0), (.ref 85), (.bool true), (Z 181 0), (.ref 86), .none, (.ref 87), (.ref 88), (.ref 89), (Z 296 0), (Z 37 0), (T "/claim/cut.py" 297)]), #[]⟩
noncomputable def o91 (P : Params) : Obj := ⟨(.type "function"), none, (.func { name := s "__init__", qualname := s "Assembly.__init__", params := fP (me 13 0), body := .stmts (fB (me 13 0)), scope := fS (me 13 0), globals := 3, closure := [], defaults := .none, kwdefaults := .none, doc := .none, pyModule := (T "thinstack.assembly" 277), annotations := none, code := (.ref 90), closureTuple := .none, builtins := 0 }), #[]⟩
noncomputable def o94 (P : Params) : Obj := ⟨.none, none, (.func { name := s "size", qualname := s "Assembly.size", params := fP (me 13 1), body := .stmts (fB (me 13 1)), scope := fS (me 13 1), globals := 0, closure := [], defaults := .none, kwdefaults := .none, doc := .none, pyModule := .none, annotations := none, code := .none, closureTuple := .none, builtins := 0 }), #[]⟩
noncomputable def o95 (P : Params) : Obj := ⟨(.type "code"), none, (.fields #[(T "size" 299), (T "Assembly.size" 300), (T "/claim/cut.py" 301), (Z 41 0), (Z 1 0), (Z 0 0), (Z 0 0), (Z 3 0), (.ref 92), (.bool true), (Z 181 0), (.ref 93), .none, .none, .none, (.ref 94), (Z 302 0), (Z 41 0), (T "/claim/cut.py" 303)]), #[]⟩
noncomputable def o96 (P : Params) : Obj := ⟨(.type "function"), none, (.func { name := s "size", qualname := s "Assembly.size", params := fP (me 13 1), body := .stmts (fB (me 13 1)), scope := fS (me 13 1), globals := 3, closure := [], defaults := .none, kwdefaults := .none, doc := .none, pyModule := (T "thinstack.assembly" 277), annotations := none, code := (.ref 95), closureTuple := .none, builtins := 0 }), #[]⟩
noncomputable def o99 (P : Params) : Obj := ⟨(.type "tuple"), none, (.seq #[(T "self" 308)] 0), #[]⟩
noncomputable def o101 (P : Params) : Obj := ⟨.none, none, (.func { name := s "is_empty", qualname := s "Assembly.is_empty", params := fP (me 13 2), body := .stmts (fB (me 13 2)), scope := fS (me 13 2), globals := 0, closure := [], defaults := .none, kwdefaults := .none, doc := .none, pyModule := .none, annotations := none, code := .none, closureTuple := .none, builtins := 0 }), #[]⟩
noncomputable def o102 (P : Params) : Obj := ⟨(.type "code"), none, (.fields #[(T "is_empty" 305), (T "Assembly.is_empty" 306), (T "/claim/cut.py" 307), (Z 44 0), (Z 1 0), (Z 0 0), (Z 0 0), (Z 3 0), (.ref 97), (.bool true), (Z 181 0), (.ref 98), .none, (.ref 99), (.ref 100), (.ref 101), (Z 309 0), (Z 44 0), (T "/claim/cut.py" 310)]), #[]⟩
noncomputable def o103 (P : Params) : Obj := ⟨(.type "function"), none, (.func { name := s "is_empty", qualname := s "Assembly.is_empty", params := fP (me 13 2), body := .stmts (fB (me 13 2)), scope := fS (me 13 2), globals := 3, closure := [], defaults := .none, kwdefaults := .none, doc := .none, pyModule := (T "thinstack.assembly" 277), annotations := none, code := (.ref 102), closureTuple := .none, builtins := 0 }), #[]⟩
noncomputable def o106 (P : Params) : Obj := ⟨(.type "tuple"), none, (.seq #[(T "self" 315), (T "seq" 316), (T "next" 317)] 0), #[]⟩
noncomputable def o108 (P : Params) : Obj := ⟨.none, none, (.func { name := s "offset", qualname := s "Assembly.offset", params := fP (me 13 3), body := .stmts (fB (me 13 3)), scope := fS (me 13 3), globals := 0, closure := [], defaults := .none, kwdefaults := .none, doc := .none, pyModule := .none, annotations := none, code := .none, closureTuple := .none, builtins := 0 }), #[]⟩
noncomputable def o109 (P : Params) : Obj := ⟨(.type "code"), none, (.fields #[(T "offset" 312), (T "Assembly.offset" 313), (T "/claim/cut.py" 314), (Z 47 0), (Z 3 0), (Z 0 0), (Z 0 0), (Z 3 0), (.ref 104), (.bool true), (Z 181 0), (.ref 105), .none, (.ref 106), (.ref 107), (.ref 108), (Z 318 0), (Z 47 0), (T "/claim/cut.py" 319)]), #[]⟩
noncomputable def o110 (P : Params) : Obj := ⟨(.type "function"), none, (.func { name := s "offset", qualname := s "Assembly.offset", params := fP (me 13 3), body := .stmts (fB (me 13 3)), scope := fS (me 13 3), globals := 3, closure := [], defaults := .none, kwdefaults := .none, doc := .none, pyModule := (T "thinstack.assembly" 277), annotations := none, code := (.ref 109), closureTuple := .none, builtins := 0 }), #[]⟩
noncomputable def o113 (P : Params) : Obj := ⟨(.type "tuple"), none, (.seq #[(T "self" 324), (T "seq" 325), (T "octets" 326), (T "next" 327), (T "begin" 328), (T "fresh" 329)] 0), #[]⟩
noncomputable def o115 (P : Params) : Obj := ⟨.none, none, (.func { name := s "put", qualname := s "Assembly.put", params := fP (me 13 4), body := .stmts (fB (me 13 4)), scope := fS (me 13 4), globals := 0, closure := [], defaults := .none, kwdefaults := .none, doc := .none, pyModule := .none, annotations := none, code := .none, closureTuple := .none, builtins := 0 }), #[]⟩
noncomputable def o116 (P : Params) : Obj := ⟨(.type "code"), none, (.fields #[(T "put" 321), (T "Assembly.put" 322), (T "/claim/cut.py" 323), (Z 52 0), (Z 4 0), (Z 0 0), (Z 0 0), (Z 3 0), (.ref 111), (.bool true), (Z 181 0), (.ref 112), .none, (.ref 113), (.ref 114), (.ref 115), (Z 330 0), (Z 52 0), (T "/claim/cut.py" 331)]), #[]⟩
noncomputable def o117 (P : Params) : Obj := ⟨(.type "function"), none, (.func { name := s "put", qualname := s "Assembly.put", params := fP (me 13 4), body := .stmts (fB (me 13 4)), scope := fS (me 13 4), globals := 3, closure := [], defaults := .none, kwdefaults := .none, doc := .none, pyModule := (T "thinstack.assembly" 277), annotations := none, code := (.ref 116), closureTuple := .none, builtins := 0 }), #[]⟩
noncomputable def o120 (P : Params) : Obj := ⟨(.type "tuple"), none, (.seq #[(T "self" 336), (T "begin" 337), (T "octets" 338), (T "next" 339), (T "end" 340), (T "found" 341), (T "at" 342), (T "seq" 343), (T "kept" 344), (T "first" 345), (T "last" 346)] 0), #[]⟩
noncomputable def o122 (P : Params) : Obj := ⟨.none, none, (.func { name := s "missing", qualname := s "Assembly.missing", params := fP (me 13 5), body := .stmts (fB (me 13 5)), scope := fS (me 13 5), globals := 0, closure := [], defaults := .none, kwdefaults := .none, doc := .none, pyModule := .none, annotations := none, code := .none, closureTuple := .none, builtins := 0 }), #[]⟩
noncomputable def o123 (P : Params) : Obj := ⟨(.type "code"), none, (.fields #[(T "missing" 333), (T "Assembly.missing" 334), (T "/claim/cut.py" 335), (Z 62 0), (Z 4 0), (Z 0 0), (Z 0 0), (Z 3 0), (.ref 118), (.bool true), (Z 181 0), (.ref 119), .none, (.ref 120), (.ref 121), (.ref 122), (Z 347 0), (Z 62 0), (T "/claim/cut.py" 348)]), #[]⟩
noncomputable def o124 (P : Params) : Obj := ⟨(.type "function"), none, (.func { name := s "missing", qualname := s "Assembly.missing", params := fP (me 13 5), body := .stmts (fB (me 13 5)), scope := fS (me 13 5), globals := 3, closure := [], defaults := .none, kwdefaults := .none, doc := .none, pyModule := (T "thinstack.assembly" 277), annotations := none, code := (.ref 123), closureTuple := .none, builtins := 0 }), #[]⟩
noncomputable def o127 (P : Params) : Obj := ⟨(.type "tuple"), none, (.seq #[(T "self" 353), (T "fresh" 354), (T "next" 355), (T "found" 356), (T "rest" 357), (T "seq" 358), (T "kept" 359), (T "first" 360)] 0), #[]⟩
noncomputable def o129 (P : Params) : Obj := ⟨.none, none, (.func { name := s "merged", qualname := s "Assembly.merged", params := fP (me 13 6), body := .stmts (fB (me 13 6)), scope := fS (me 13 6), globals := 0, closure := [], defaults := .none, kwdefaults := .none, doc := .none, pyModule := .none, annotations := none, code := .none, closureTuple := .none, builtins := 0 }), #[]⟩
noncomputable def o130 (P : Params) : Obj := ⟨(.type "code"), none, (.fields #[(T "merged" 350), (T "Assembly.merged" 351), (T "/claim/cut.py" 352), (Z 79 0), (Z 3 0), (Z 0 0), (Z 0 0), (Z 3 0), (.ref 125), (.bool true), (Z 181 0), (.ref 126), .none, (.ref 127), (.ref 128), (.ref 129), (Z 361 0), (Z 79 0), (T "/claim/cut.py" 362)]), #[]⟩
noncomputable def o131 (P : Params) : Obj := ⟨(.type "function"), none, (.func { name := s "merged", qualname := s "Assembly.merged", params := fP (me 13 6), body := .stmts (fB (me 13 6)), scope := fS (me 13 6), globals := 3, closure := [], defaults := .none, kwdefaults := .none, doc := .none, pyModule := (T "thinstack.assembly" 277), annotations := none, code := (.ref 130), closureTuple := .none, builtins := 0 }), #[]⟩
noncomputable def o134 (P : Params) : Obj := ⟨(.type "tuple"), none, (.seq #[(T "self" 367), (T "pieces" 368), (T "next" 369), (T "found" 370), (T "end" 371), (T "first" 372), (T "octets" 373), (T "seq" 374), (T "ahead" 375)] 0), #[]⟩
noncomputable def o136 (P : Params) : Obj := ⟨.none, none, (.func { name := s "joined", qualname := s "Assembly.joined", params := fP (me 13 7), body := .stmts (fB (me 13 7)), scope := fS (me 13 7), globals := 0, closure := [], defaults := .none, kwdefaults := .none, doc := .none, pyModule := .none, annotations := none, code := .none, closureTuple := .none, builtins := 0 }), #[]⟩
noncomputable def o137 (P : Params) : Obj := ⟨(.type "code"), none, (.fields #[(T "joined" 364), (T "Assembly.joined" 365), (T "/claim/cut.py" 366), (Z 88 0), (Z 3 0), (Z 0 0), (Z 0 0), (Z 3 0), (.ref 132), (.bool true), (Z 181 0), (.ref 133), .none, (.ref 134), (.ref 135), (.ref 136), (Z 376 0), (Z 88 0), (T "/claim/cut.py" 377)]), #[]⟩
noncomputable def o138 (P : Params) : Obj := ⟨(.type "function"), none, (.func { name := s "joined", qualname := s "Assembly.joined", params := fP (me 13 7), body := .stmts (fB (me 13 7)), scope := fS (me 13 7), globals := 3, closure := [], defaults := .none, kwdefaults := .none, doc := .none, pyModule := (T "thinstack.assembly" 277), annotations := none, code := (.ref 137), closureTuple := .none, builtins := 0 }), #[]⟩
noncomputable def o141 (P : Params) : Obj := ⟨(.type "tuple"), none, (.seq #[(T "self" 382), (T "next" 383), (T "seq" 384), (T "octets" 385), (T "begin" 386)] 0), #[]⟩
noncomputable def o143 (P : Params) : Obj := ⟨.none, none, (.func { name := s "forget", qualname := s "Assembly.forget", params := fP (me 13 8), body := .stmts (fB (me 13 8)), scope := fS (me 13 8), globals := 0, closure := [], defaults := .none, kwdefaults := .none, doc := .none, pyModule := .none, annotations := none, code := .none, closureTuple := .none, builtins := 0 }), #[]⟩
noncomputable def o144 (P : Params) : Obj := ⟨(.type "code"), none, (.fields #[(T "forget" 379), (T "Assembly.forget" 380), (T "/claim/cut.py" 381), (Z 99 0), (Z 2 0), (Z 0 0), (Z 0 0), (Z 3 0), (.ref 139), (.bool true), (Z 181 0), (.ref 140), .none, (.ref 141), (.ref 142), (.ref 143), (Z 387 0), (Z 99 0), (T "/claim/cut.py" 388)]), #[]⟩
noncomputable def o145 (P : Params) : Obj := ⟨(.type "function"), none, (.func { name := s "forget", qualname := s "Assembly.forget", params := fP (me 13 8), body := .stmts (fB (me 13 8)), scope := fS (me 13 8), globals := 3, closure := [], defaults := .none, kwdefaults := .none, doc := .none, pyModule := (T "thinstack.assembly" 277), annotations := none, code := (.ref 144), closureTuple := .none, builtins := 0 }), #[]⟩
noncomputable def o148 (P : Params) : Obj := ⟨(.type "tuple"), none, (.seq #[(T "self" 393), (T "next" 394)] 0), #[]⟩
noncomputable def o150 (P : Params) : Obj := ⟨.none, none, (.func { name := s "take", qualname := s "Assembly.take", params := fP (me 13 9), body := .stmts (fB (me 13 9)), scope := fS (me 13 9), globals := 0, closure := [], defaults := .none, kwdefaults := .none, doc := .none, pyModule := .none, annotations := none, code := .none, closureTuple := .none, builtins := 0 }), #[]⟩
noncomputable def o151 (P : Params) : Obj := ⟨(.type "code"), none, (.fields #[(T "take" 390), (T "Assembly.take" 391), (T "/claim/cut.py" 392), (Z 110 0), (Z 2 0), (Z 0 0), (Z 0 0), (Z 3 0), (.ref 146), (.bool true), (Z 181 0), (.ref 147), .none, (.ref 148), (.ref 149), (.ref 150), (Z 395 0), (Z 110 0), (T "/claim/cut.py" 396)]), #[]⟩
noncomputable def o152 (P : Params) : Obj := ⟨(.type "function"), none, (.func { name := s "take", qualname := s "Assembly.take", params := fP (me 13 9), body := .stmts (fB (me 13 9)), scope := fS (me 13 9), globals := 3, closure := [], defaults := .none, kwdefaults := .none, doc := .none, pyModule := (T "thinstack.assembly" 277), annotations := none, code := (.ref 151), closureTuple := .none, builtins := 0 }), #[]⟩
noncomputable def o155 (P : Params) : Obj := ⟨(.type "tuple"), none, (.seq #[(T "self" 401), (T "next" 402), (T "found" 403), (T "at" 404), (T "seq" 405), (T "octets" 406), (T "missing" 407)] 0), #[]⟩
noncomputable def o157 (P : Params) : Obj := ⟨.none, none, (.func { name := s "holes", qualname := s "Assembly.holes", params := fP (me 13 10), body := .stmts (fB (me 13 10)), scope := fS (me 13 10), globals := 0, closure := [], defaults := .none, kwdefaults := .none, doc := .none, pyModule := .none, annotations := none, code := .none, closureTuple := .none, builtins := 0 }), #[]⟩
noncomputable def o158 (P : Params) : Obj := ⟨(.type "code"), none, (.fields #[(T "holes" 398), (T "Assembly.holes" 399), (T "/claim/cut.py" 400), (Z 116 0), (Z 2 0), (Z 0 0), (Z 0 0), (Z 3 0), (.ref 153), (.bool true), (Z 181 0), (.ref 154), .none, (.ref 155), (.ref 156), (.ref 157), (Z 408 0), (Z 116 0), (T "/claim/cut.py" 409)]), #[]⟩
noncomputable def o159 (P : Params) : Obj := ⟨(.type "function"), none, (.func { name := s "holes", qualname := s "Assembly.holes", params := fP (me 13 10), body := .stmts (fB (me 13 10)), scope := fS (me 13 10), globals := 3, closure := [], defaults := .none, kwdefaults := .none, doc := .none, pyModule := (T "thinstack.assembly" 277), annotations := none, code := (.ref 158), closureTuple := .none, builtins := 0 }), #[]⟩
noncomputable def o162 (P : Params) : Obj := ⟨(.type "tuple"), none, (.seq #[(T "self" 414), (T "edge" 415), (T "next" 416), (T "most" 417), (T "found" 418), (T "seq" 419), (T "octets" 420), (T "left" 421)] 0), #[]⟩
noncomputable def o164 (P : Params) : Obj := ⟨.none, none, (.func { name := s "cut_behind", qualname := s "Assembly.cut_behind", params := fP (me 13 11), body := .stmts (fB (me 13 11)), scope := fS (me 13 11), globals := 0, closure := [], defaults := .none, kwdefaults := .none, doc := .none, pyModule := .none, annotations := none, code := .none, closureTuple := .none, builtins := 0 }), #[]⟩
noncomputable def o165 (P : Params) : Obj := ⟨(.type "code"), none, (.fields #[(T "cut_behind" 411), (T "Assembly.cut_behind" 412), (T "/claim/cut.py" 413), (Z 125 0), (Z 3 0), (Z 0 0), (Z 0 0), (Z 3 0), (.ref 160), (.bool true), (Z 181 0), (.ref 161), .none, (.ref 162), (.ref 163), (.ref 164), (Z 422 0), (Z 125 0), (T "/claim/cut.py" 423)]), #[]⟩
noncomputable def o166 (P : Params) : Obj := ⟨(.type "function"), none, (.func { name := s "cut_behind", qualname := s "Assembly.cut_behind", params := fP (me 13 11), body := .stmts (fB (me 13 11)), scope := fS (me 13 11), globals := 3, closure := [], defaults := .none, kwdefaults := .none, doc := .none, pyModule := (T "thinstack.assembly" 277), annotations := none, code := (.ref 165), closureTuple := .none, builtins := 0 }), #[]⟩
noncomputable def o167 (P : Params) : Obj := ⟨(.type "tuple"), none, (.seq #[(T "parts" 425), (T "ring" 426)] 0), #[]⟩
noncomputable def o168 (P : Params) : Obj := ⟨(.type "dict"), none, (.dict #[e P "__module__" 286 (T "thinstack.assembly" 277), e P "__firstlineno__" 290 (Z 35 289), e P "__init__" 298 (.ref 91), e P "size" 304 (.ref 96), e P "is_empty" 311 (.ref 103), e P "offset" 320 (.ref 110), e P "put" 332 (.ref 117), e P "missing" 349 (.ref 124), e P "merged" 363 (.ref 131), e P "joined" 378 (.ref 138), e P "forget" 389 (.ref 145), e P "take" 397 (.ref 152), e P "holes" 410 (.ref 159), e P "cut_behind" 424 (.ref 166), e P "__static_attributes__" 427 (.ref 167), e P "__dict__" 429 (.ref 170), e P "__weakref__" 431 (.ref 171), e P "__doc__" 432 .none] 4), #[]⟩
noncomputable def o169 (P : Params) : Obj := ⟨(.type "type"), none, (.cls { name := s "Assembly", bases := [(.type "object")], mro := [(.ref 169), (.type "object")], ns := 168, qualname := s "Assembly", hasDict := true, slotNames := [], subclasses := [], abstract := false, collection := none, hasDel := false }), #[none, none, (some (T "Assembly" 279)), (some (T "Assembly" 287)), (some (.builtin "object.__new__")), (some (.bool true))]⟩
noncomputable def o170 (P : Params) : Obj := ⟨(.type "getset_descriptor"), none, (.fields #[(T "__dict__" 428), (.ref 169), (.builtin "function.__dict__"), (.builtin "function.__dict__#set")]), #[]⟩
noncomputable def o171 (P : Params) : Obj := ⟨(.type "getset_descriptor"), none, (.fields #[(T "__weakref__" 430), (.ref 169), (.builtin "ExceptionGroup.__weakref__"), .none]), #[]⟩
noncomputable def o172 (P : Params) : Obj := ⟨(.type "super"), none, (.fields #[(.ref 169), (.ref 169), (.ref 169)]), #[]⟩
noncomputable def o173 (P : Params) : Obj := ⟨(.type "builtin_function_or_method"), none, (.fields #[(.builtin "object.__init_subclass__"), (.ref 169)]), #[]⟩
noncomputable def o175 (P : Params) : Obj := ⟨(.type "builtin_function_or_method"), none, (.fields #[(.builtin "type.__prepare__"), (.type "type")]), #[]⟩
noncomputable def o176 (P : Params) : Obj := ⟨(.type "dict"), none, (.dict #[e P "__module__" 444 (T "thinstack.receiver" 435), e P "__qualname__" 446 (T "Receiver" 445), e P "__firstlineno__" 448 (Z 134 447), e P "__init__" 460 (.ref 188), e P "free_edge" 467 (.ref 195), e P "should_tell" 475 (.ref 202), e P "told_window" 482 (.ref 209), e P "window" 489 (.ref 216), e P "arrive" 502 (.ref 223), e P "let_in" 512 (.ref 230), e P "note_fin" 520 (.ref 237), e P "ahead_of_fin" 529 (.ref 244), e P "gather" 537 (.ref 251), e P "has_holes" 544 (.ref 258), e P "available" 551 (.ref 265), e P "read" 560 (.ref 272), e P "is_over" 567 (.ref 279), e P "read_place" 575 (.ref 286), e P "urgent" 583 (.ref 293), e P "urgent_left" 590 (.ref 300), e P "__static_attributes__" 601 (.ref 301)] 21), #[]⟩
noncomputable def o178 (P : Params) : Obj := ⟨.none, none, (.fields #[(Z 136 0), (Z 4 0), (.ref 187), (Z 148 0), (Z 4 0), (.ref 194), (Z 151 0), (Z 4 0), (.ref 201), (Z 156 0), (Z 4 0), (.ref 208), (Z 161 0), (Z 4 0), (.ref 215), (Z 166 0), (Z 4 0), (.ref 222), (Z 178 0), (Z 4 0), (.ref 229), (Z 184 0), (Z 4 0), (.ref 236), (Z 189 0), (Z 4 0), (.ref 243), (Z 194 0), (Z 4 0), (.ref 250), (Z 205 0), (Z 4 0), (.ref 257), (Z 208 0), (Z 4 0), (.ref 264), (Z 211 0), (Z 4 0), (.ref 271), (Z 216 0), (Z 4 0), (.ref 278), (Z 219 0), (Z 4 0), (.ref 285), (Z 223 0), (Z 4 0), (.ref 292), (Z 228 0), (Z 4 0), (.ref 299)]), #[]⟩
noncomputable def o179 (P : Params) : Obj := ⟨(.type "code"), none, (.fields #[(T "Receiver" 439), (T "Receiver" 440), (T "/claim/cut.py" 441), (Z 134 0), (Z 0 0), (Z 0 0), (Z 0 0), (Z 0 0), (.ref 177), (.bool false), (Z 181 0), (.ref 178), .none, .none, .none, .none, (Z 442 0), (Z 134 0), (T "/claim/cut.py" 443)]), #[]⟩
noncomputable def o180 (P : Params) : Obj := ⟨(.type "frame"), none, .plain, #[(some (.ref 179)), (some (.ref 3)), (some (.ref 176)), none, (some (T "thinstack.receiver" 435)), none, (some (.ref 0))]⟩
noncomputable def o181 (P : Params) : Obj := ⟨(.type "tuple"), none, (.seq #[(Z 1 449)] 0), #[]⟩
noncomputable def o184 (P : Params) : Obj := ⟨(.type "tuple"), none, (.seq #[(T "self" 453), (T "irs" 454), (T "ring" 455), (T "room" 456), (T "mss" 457)] 0), #[]⟩
noncomputable def o186 (P : Params) : Obj := ⟨.none, none, (.func { name := s "__init__", qualname := s "Receiver.__init__", params := fP (me 15 0), body := .stmts (fB (me 15 0)), scope := fS (me 15 0), globals := 0, closure := [], defaults := .none, kwdefaults := .none, doc := .none, pyModule := .none, annotations := none, code := .none, closureTuple := .none, builtins := 0 }), #[]⟩
noncomputable def o187 (P : Params) : Obj := ⟨(.type "code"), none, (.fields #[(T "__init__" 450), (T "Receiver.__init__" 451), (T "/claim/cut.py" 452), (Z 136 0), (Z 5 0), (Z 0 0), (Z 0 0), (Z 3 0), (.ref 182), (.bool true), (Z 181 0), (.ref 183), .none, (.ref 184), (.ref 185), (.ref 186), (Z 458 0), (Z 136 0), (T "/claim/cut.py" 459)]), #[]⟩
noncomputable def o188 (P : Params) : Obj := ⟨(.type "function"), none, (.func { name := s "__init__", qualname := s "Receiver.__init__", params := fP (me 15 0), body := .stmts (fB (me 15 0)), scope := fS (me 15 0), globals := 3, closure := [], defaults := (.ref 181), kwdefaults := .none, doc := .none, pyModule := (T "thinstack.receiver" 435), annotations := none, code := (.ref 187), closureTuple := .none, builtins := 0 }), #[]⟩
noncomputable def o191 (P : Params) : Obj := ⟨(.type "tuple"), none, (.seq #[(T "self" 464)] 0), #[]⟩
noncomputable def o193 (P : Params) : Obj := ⟨.none, none, (.func { name := s "free_edge", qualname := s "Receiver.free_edge", params := fP (me 15 1), body := .stmts (fB (me 15 1)), scope := fS (me 15 1), globals := 0, closure := [], defaults := .none, kwdefaults := .none, doc := .none, pyModule := .none, annotations := none, code := .none, closureTuple := .none, builtins := 0 }), #[]⟩
noncomputable def o194 (P : Params) : Obj := ⟨(.type "code"), none, (.fields #[(T "free_edge" 461), (T "Receiver.free_edge" 462), (T "/claim/cut.py" 463), (Z 148 0), (Z 1 0), (Z 0 0), (Z 0 0), (Z 3 0), (.ref 189), (.bool true), (Z 181 0), (.ref 190), .none, (.ref 191), (.ref 192), (.ref 193), (Z 465 0), (Z 148 0), (T "/claim/cut.py" 466)]), #[]⟩
noncomputable def o195 (P : Params) : Obj := ⟨(.type "function"), none, (.func { name := s "free_edge", qualname := s "Receiver.free_edge", params := fP (me 15 1), body := .stmts (fB (me 15 1)), scope := fS (me 15 1), globals := 3, closure := [], defaults := .none, kwdefaults := .none, doc := .none, pyModule := (T "thinstack.receiver" 435), annotations := none, code := (.ref 194), closureTuple := .none, builtins := 0 }), #[]⟩
noncomputable def o198 (P : Params) : Obj := ⟨(.type "tuple"), none, (.seq #[(T "self" 471), (T "mss" 472)] 0), #[]⟩
noncomputable def o200 (P : Params) : Obj := ⟨.none, none, (.func { name := s "should_tell", qualname := s "Receiver.should_tell", params := fP (me 15 2), body := .stmts (fB (me 15 2)), scope := fS (me 15 2), globals := 0, closure := [], defaults := .none, kwdefaults := .none, doc := .none, pyModule := .none, annotations := none, code := .none, closureTuple := .none, builtins := 0 }), #[]⟩
noncomputable def o201 (P : Params) : Obj := ⟨(.type "code"), none, (.fields #[(T "should_tell" 468), (T "Receiver.should_tell" 469), (T "/claim/cut.py" 470), (Z 151 0), (Z 2 0), (Z 0 0), (Z 0 0), (Z 3 0), (.ref 196), (.bool true), (Z 181 0), (.ref 197), .none, (.ref 198), (.ref 199), (.ref 200), (Z 473 0), (Z 151 0), (T "/claim/cut.py" 474)]), #[]⟩
noncomputable def o202 (P : Params) : Obj := ⟨(.type "function"), none, (.func { name := s "should_tell", qualname := s "Receiver.should_tell", params := fP (me 15 2), body := .stmts (fB (me 15 2)), scope := fS (me 15 2), globals := 3, closure := [], defaults := .none, kwdefaults := .none, doc := .none, pyModule := (T "thinstack.receiver" 435), annotations := none, code := (.ref 201), closureTuple := .none, builtins := 0 }), #[]⟩
noncomputable def o205 (P : Params) : Obj := ⟨(.type "tuple"), none, (.seq #[(T "self" 479)] 0), #[]⟩
noncomputable def o207 (P : Params) : Obj := ⟨.none, none, (.func { name := s "told_window", qualname := s "Receiver.told_window", params := fP (me 15 3), body := .stmts (fB (me 15 3)), scope := fS (me 15 3), globals := 0, closure := [], defaults := .none, kwdefaults := .none, doc := .none, pyModule := .none, annotations := none, code := .none, closureTuple := .none, builtins := 0 }), #[]⟩
noncomputable def o208 (P : Params) : Obj := ⟨(.type "code"), none, (.fields #[(T "told_window" 476), (T "Receiver.told_window" 477), (T "/claim/cut.py" 478), (Z 156 0), (Z 1 0), (Z 0 0), (Z 0 0), (Z 3 0), (.ref 203), (.bool true), (Z 181 0), (.ref 204), .none, (.ref 205), (.ref 206), (.ref 207), (Z 480 0), (Z 156 0), (T "/claim/cut.py" 481)]), #[]⟩
noncomputable def o209 (P : Params) : Obj := ⟨(.type "function"), none, (.func { name := s "told_window", qualname := s "Receiver.told_window", params := fP (me 15 3), body := .stmts (fB (me 15 3)), scope := fS (me 15 3), globals := 3, closure := [], defaults := .none, kwdefaults := .none, doc := .none, pyModule := (T "thinstack.receiver" 435), annotations := none, code := (.ref 208), closureTuple := .none, builtins := 0 }), #[]⟩
noncomputable def o212 (P : Params) : Obj := ⟨(.type "tuple"), none, (.seq #[(T "self" 486)] 0), #[]⟩
noncomputable def o214 (P : Params) : Obj := ⟨.none, none, (.func { name := s "window", qualname := s "Receiver.window", params := fP (me 15 4), body := .stmts (fB (me 15 4)), scope := fS (me 15 4), globals := 0, closure := [], defaults := .none, kwdefaults := .none, doc := .none, pyModule := .none, annotations := none, code := .none, closureTuple := .none, builtins := 0 }), #[]⟩
noncomputable def o215 (P : Params) : Obj := ⟨(.type "code"), none, (.fields #[(T "window" 483), (T "Receiver.window" 484), (T "/claim/cut.py" 485), (Z 161 0), (Z 1 0), (Z 0 0), (Z 0 0), (Z 3 0), (.ref 210), (.bool true), (Z 181 0), (.ref 211), .none, (.ref 212), (.ref 213), (.ref 214), (Z 487 0), (Z 161 0), (T "/claim/cut.py" 488)]), #[]⟩
noncomputable def o216 (P : Params) : Obj := ⟨(.type "function"), none, (.func { name := s "window", qualname := s "Receiver.window", params := fP (me 15 4), body := .stmts (fB (me 15 4)), scope := fS (me 15 4), globals := 3, closure := [], defaults := .none, kwdefaults := .none, doc := .none, pyModule := (T "thinstack.receiver" 435), annotations := none, code := (.ref 215), closureTuple := .none, builtins := 0 }), #[]⟩
noncomputable def o219 (P : Params) : Obj := ⟨(.type "tuple"), none, (.seq #[(T "self" 493), (T "seq" 494), (T "octets" 495), (T "has_fin" 496), (T "is_in_order" 497), (T "kept" 498), (T "fresh" 499)] 0), #[]⟩
noncomputable def o221 (P : Params) : Obj := ⟨.none, none, (.func { name := s "arrive", qualname := s "Receiver.arrive", params := fP (me 15 5), body := .stmts (fB (me 15 5)), scope := fS (me 15 5), globals := 0, closure := [], defaults := .none, kwdefaults := .none, doc := .none, pyModule := .none, annotations := none, code := .none, closureTuple := .none, builtins := 0 }), #[]⟩
noncomputable def o222 (P : Params) : Obj := ⟨(.type "code"), none, (.fields #[(T "arrive" 490), (T "Receiver.arrive" 491), (T "/claim/cut.py" 492), (Z 166 0), (Z 4 0), (Z 0 0), (Z 0 0), (Z 3 0), (.ref 217), (.bool true), (Z 181 0), (.ref 218), .none, (.ref 219), (.ref 220), (.ref 221), (Z 500 0), (Z 166 0), (T "/claim/cut.py" 501)]), #[]⟩
noncomputable def o223 (P : Params) : Obj := ⟨(.type "function"), none, (.func { name := s "arrive", qualname := s "Receiver.arrive", params := fP (me 15 5), body := .stmts (fB (me 15 5)), scope := fS (me 15 5), globals := 3, closure := [], defaults := .none, kwdefaults := .none, doc := .none, pyModule := (T "thinstack.receiver" 435), annotations := none, code := (.ref 222), closureTuple := .none, builtins := 0 }), #[]⟩
noncomputable def o226 (P : Params) : Obj := ⟨(.type "tuple"), none, (.seq #[(T "self" 506), (T "seq" 507), (T "octets" 508), (T "most" 509)] 0), #[]⟩
noncomputable def o228 (P : Params) : Obj := ⟨.none, none, (.func { name := s "let_in", qualname := s "Receiver.let_in", params := fP (me 15 6), body := .stmts (fB (me 15 6)), scope := fS (me 15 6), globals := 0, closure := [], defaults := .none, kwdefaults := .none, doc := .none, pyModule := .none, annotations := none, code := .none, closureTuple := .none, builtins := 0 }), #[]⟩
noncomputable def o229 (P : Params) : Obj := ⟨(.type "code"), none, (.fields #[(T "let_in" 503), (T "Receiver.let_in" 504), (T "/claim/cut.py" 505), (Z 178 0), (Z 3 0), (Z 0 0), (Z 0 0), (Z 3 0), (.ref 224), (.bool true), (Z 181 0), (.ref 225), .none, (.ref 226), (.ref 227), (.ref 228), (Z 510 0), (Z 178 0), (T "/claim/cut.py" 511)]), #[]⟩
noncomputable def o230 (P : Params) : Obj := ⟨(.type "function"), none, (.func { name := s "let_in", qualname := s "Receiver.let_in", params := fP (me 15 6), body := .stmts (fB (me 15 6)), scope := fS (me 15 6), globals := 3, closure := [], defaults := .none, kwdefaults := .none, doc := .none, pyModule := (T "thinstack.receiver" 435), annotations := none, code := (.ref 229), closureTuple := .none, builtins := 0 }), #[]⟩
noncomputable def o233 (P : Params) : Obj := ⟨(.type "tuple"), none, (.seq #[(T "self" 516), (T "place" 517)] 0), #[]⟩
noncomputable def o235 (P : Params) : Obj := ⟨.none, none, (.func { name := s "note_fin", qualname := s "Receiver.note_fin", params := fP (me 15 7), body := .stmts (fB (me 15 7)), scope := fS (me 15 7), globals := 0, closure := [], defaults := .none, kwdefaults := .none, doc := .none, pyModule := .none, annotations := none, code := .none, closureTuple := .none, builtins := 0 }), #[]⟩
noncomputable def o236 (P : Params) : Obj := ⟨(.type "code"), none, (.fields #[(T "note_fin" 513), (T "Receiver.note_fin" 514), (T "/claim/cut.py" 515), (Z 184 0), (Z 2 0), (Z 0 0), (Z 0 0), (Z 3 0), (.ref 231), (.bool true), (Z 181 0), (.ref 232), .none, (.ref 233), (.ref 234), (.ref 235), (Z 518 0), (Z 184 0), (T "/claim/cut.py" 519)]), #[]⟩
noncomputable def o237 (P : Params) : Obj := ⟨(.type "function"), none, (.func { name := s "note_fin", qualname := s "Receiver.note_fin", params := fP (me 15 7), body := .stmts (fB (me 15 7)), scope := fS (me 15 7), globals := 3, closure := [], defaults := .none, kwdefaults := .none, doc := .none, pyModule := (T "thinstack.receiver" 435), annotations := none, code := (.ref 236), closureTuple := .none, builtins := 0 }), #[]⟩
noncomputable def o240 (P : Params) : Obj := ⟨(.type "tuple"), none, (.seq #[(T "self" 524), (T "seq" 525), (T "octets" 526)] 0), #[]⟩
noncomputable def o242 (P : Params) : Obj := ⟨.none, none, (.func { name := s "ahead_of_fin", qualname := s "Receiver.ahead_of_fin", params := fP (me 15 8), body := .stmts (fB (me 15 8)), scope := fS (me 15 8), globals := 0, closure := [], defaults := .none, kwdefaults := .none, doc := .none, pyModule := .none, annotations := none, code := .none, closureTuple := .none, builtins := 0 }), #[]⟩
noncomputable def o243 (P : Params) : Obj := ⟨(.type "code"), none, (.fields #[(T "ahead_of_fin" 521), (T "Receiver.ahead_of_fin" 522), (T "/claim/cut.py" 523), (Z 189 0), (Z 3 0), (Z 0 0), (Z 0 0), (Z 3 0), (.ref 238), (.bool true), (Z 181 0), (.ref 239), .none, (.ref 240), (.ref 241), (.ref 242), (Z 527 0), (Z 189 0), (T "/claim/cut.py" 528)]), #[]⟩
noncomputable def o244 (P : Params) : Obj := ⟨(.type "function"), none, (.func { name := s "ahead_of_fin", qualname := s "Receiver.ahead_of_fin", params := fP (me 15 8), body := .stmts (fB (me 15 8)), scope := fS (me 15 8), globals := 3, closure := [], defaults := .none, kwdefaults := .none, doc := .none, pyModule := (T "thinstack.receiver" 435), annotations := none, code := (.ref 243), closureTuple := .none, builtins := 0 }), #[]⟩
noncomputable def o247 (P : Params) : Obj := ⟨(.type "tuple"), none, (.seq #[(T "self" 533), (T "fresh" 534)] 0), #[]⟩
noncomputable def o249 (P : Params) : Obj := ⟨.none, none, (.func { name := s "gather", qualname := s "Receiver.gather", params := fP (me 15 9), body := .stmts (fB (me 15 9)), scope := fS (me 15 9), globals := 0, closure := [], defaults := .none, kwdefaults := .none, doc := .none, pyModule := .none, annotations := none, code := .none, closureTuple := .none, builtins := 0 }), #[]⟩
noncomputable def o250 (P : Params) : Obj := ⟨(.type "code"), none, (.fields #[(T "gather" 530), (T "Receiver.gather" 531), (T "/claim/cut.py" 532), (Z 194 0), (Z 1 0), (Z 0 0), (Z 0 0), (Z 3 0), (.ref 245), (.bool true), (Z 181 0), (.ref 246), .none, (.ref 247), (.ref 248), (.ref 249), (Z 535 0), (Z 194 0), (T "/claim/cut.py" 536)]), #[]⟩
noncomputable def o251 (P : Params) : Obj := ⟨(.type "function"), none, (.func { name := s "gather", qualname := s "Receiver.gather", params := fP (me 15 9), body := .stmts (fB (me 15 9)), scope := fS (me 15 9), globals := 3, closure := [], defaults := .none, kwdefaults := .none, doc := .none, pyModule := (T "thinstack.receiver" 435), annotations := none, code := (.ref 250), closureTuple := .none, builtins := 0 }), #[]⟩
noncomputable def o254 (P : Params) : Obj := ⟨(.type "tuple"), none, (.seq #[(T "self" 541)] 0), #[]⟩
noncomputable def o256 (P : Params) : Obj := ⟨.none, none, (.func { name := s "has_holes", qualname := s "Receiver.has_holes", params := fP (me 15 10), body := .stmts (fB (me 15 10)), scope := fS (me 15 10), globals := 0, closure := [], defaults := .none, kwdefaults := .none, doc := .none, pyModule := .none, annotations := none, code := .none, closureTuple := .none, builtins := 0 }), #[]⟩
noncomputable def o257 (P : Params) : Obj := ⟨(.type "code"), none, (.fields #[(T "has_holes" 538), (T "Receiver.has_holes" 539), (T "/claim/cut.py" 540), (Z 205 0), (Z 1 0), (Z 0 0), (Z 0 0), (Z 3 0), (.ref 252), (.bool true), (Z 181 0), (.ref 253), .none, (.ref 254), (.ref 255), (.ref 256), (Z 542 0), (Z 205 0), (T "/claim/cut.py" 543)]), #[]⟩
noncomputable def o258 (P : Params) : Obj := ⟨(.type "function"), none, (.func { name := s "has_holes", qualname := s "Receiver.has_holes", params := fP (me 15 10), body := .stmts (fB (me 15 10)), scope := fS (me 15 10), globals := 3, closure := [], defaults := .none, kwdefaults := .none, doc := .none, pyModule := (T "thinstack.receiver" 435), annotations := none, code := (.ref 257), closureTuple := .none, builtins := 0 }), #[]⟩
noncomputable def o261 (P : Params) : Obj := ⟨(.type "tuple"), none, (.seq #[(T "self" 548)] 0), #[]⟩
noncomputable def o263 (P : Params) : Obj := ⟨.none, none, (.func { name := s "available", qualname := s "Receiver.available", params := fP (me 15 11), body := .stmts (fB (me 15 11)), scope := fS (me 15 11), globals := 0, closure := [], defaults := .none, kwdefaults := .none, doc := .none, pyModule := .none, annotations := none, code := .none, closureTuple := .none, builtins := 0 }), #[]⟩
noncomputable def o264 (P : Params) : Obj := ⟨(.type "code"), none, (.fields #[(T "available" 545), (T "Receiver.available" 546), (T "/claim/cut.py" 547), (Z 208 0), (Z 1 0), (Z 0 0), (Z 0 0), (Z 3 0), (.ref 259), (.bool true), (Z 181 0), (.ref 260), .none, (.ref 261), (.ref 262), (.ref 263), (Z 549 0), (Z 208 0), (T "/claim/cut.py" 550)]), #[]⟩
noncomputable def o265 (P : Params) : Obj := ⟨(.type "function"), none, (.func { name := s "available", qualname := s "Receiver.available", params := fP (me 15 11), body := .stmts (fB (me 15 11)), scope := fS (me 15 11), globals := 3, closure := [], defaults := .none, kwdefaults := .none, doc := .none, pyModule := (T "thinstack.receiver" 435), annotations := none, code := (.ref 264), closureTuple := .none, builtins := 0 }), #[]⟩
noncomputable def o268 (P : Params) : Obj := ⟨(.type "tuple"), none, (.seq #[(T "self" 555), (T "many" 556), (T "found" 557)] 0), #[]⟩
noncomputable def o270 (P : Params) : Obj := ⟨.none, none, (.func { name := s "read", qualname := s "Receiver.read", params := fP (me 15 12), body := .stmts (fB (me 15 12)), scope := fS (me 15 12), globals := 0, closure := [], defaults := .none, kwdefaults := .none, doc := .none, pyModule := .none, annotations := none, code := .none, closureTuple := .none, builtins := 0 }), #[]⟩
noncomputable def o271 (P : Params) : Obj := ⟨(.type "code"), none, (.fields #[(T "read" 552), (T "Receiver.read" 553), (T "/claim/cut.py" 554), (Z 211 0), (Z 2 0), (Z 0 0), (Z 0 0), (Z 3 0), (.ref 266), (.bool true), (Z 181 0), (.ref 267), .none, (.ref 268), (.ref 269), (.ref 270), (Z 558 0), (Z 211 0), (T "/claim/cut.py" 559)]), #[]⟩
noncomputable def o272 (P : Params) : Obj := ⟨(.type "function"), none, (.func { name := s "read", qualname := s "Receiver.read", params := fP (me 15 12), body := .stmts (fB (me 15 12)), scope := fS (me 15 12), globals := 3, closure := [], defaults := .none, kwdefaults := .none, doc := .none, pyModule := (T "thinstack.receiver" 435), annotations := none, code := (.ref 271), closureTuple := .none, builtins := 0 }), #[]⟩
noncomputable def o275 (P : Params) : Obj := ⟨(.type "tuple"), none, (.seq #[(T "self" 564)] 0), #[]⟩
noncomputable def o277 (P : Params) : Obj := ⟨.none, none, (.func { name := s "is_over", qualname := s "Receiver.is_over", params := fP (me 15 13), body := .stmts (fB (me 15 13)), scope := fS (me 15 13), globals := 0, closure := [], defaults := .none, kwdefaults := .none, doc := .none, pyModule := .none, annotations := none, code := .none, closureTuple := .none, builtins := 0 }), #[]⟩
noncomputable def o278 (P : Params) : Obj := ⟨(.type "code"), none, (.fields #[(T "is_over" 561), (T "Receiver.is_over" 562), (T "/claim/cut.py" 563), (Z 216 0), (Z 1 0), (Z 0 0), (Z 0 0), (Z 3 0), (.ref 273), (.bool true), (Z 181 0), (.ref 274), .none, (.ref 275), (.ref 276), (.ref 277), (Z 565 0), (Z 216 0), (T "/claim/cut.py" 566)]), #[]⟩
noncomputable def o279 (P : Params) : Obj := ⟨(.type "function"), none, (.func { name := s "is_over", qualname := s "Receiver.is_over", params := fP (me 15 13), body := .stmts (fB (me 15 13)), scope := fS (me 15 13), globals := 3, closure := [], defaults := .none, kwdefaults := .none, doc := .none, pyModule := (T "thinstack.receiver" 435), annotations := none, code := (.ref 278), closureTuple := .none, builtins := 0 }), #[]⟩
noncomputable def o282 (P : Params) : Obj := ⟨(.type "tuple"), none, (.seq #[(T "self" 571), (T "behind" 572)] 0), #[]⟩
noncomputable def o284 (P : Params) : Obj := ⟨.none, none, (.func { name := s "read_place", qualname := s "Receiver.read_place", params := fP (me 15 14), body := .stmts (fB (me 15 14)), scope := fS (me 15 14), globals := 0, closure := [], defaults := .none, kwdefaults := .none, doc := .none, pyModule := .none, annotations := none, code := .none, closureTuple := .none, builtins := 0 }), #[]⟩
noncomputable def o285 (P : Params) : Obj := ⟨(.type "code"), none, (.fields #[(T "read_place" 568), (T "Receiver.read_place" 569), (T "/claim/cut.py" 570), (Z 219 0), (Z 1 0), (Z 0 0), (Z 0 0), (Z 3 0), (.ref 280), (.bool true), (Z 181 0), (.ref 281), .none, (.ref 282), (.ref 283), (.ref 284), (Z 573 0), (Z 219 0), (T "/claim/cut.py" 574)]), #[]⟩
noncomputable def o286 (P : Params) : Obj := ⟨(.type "function"), none, (.func { name := s "read_place", qualname := s "Receiver.read_place", params := fP (me 15 14), body := .stmts (fB (me 15 14)), scope := fS (me 15 14), globals := 3, closure := [], defaults := .none, kwdefaults := .none, doc := .none, pyModule := (T "thinstack.receiver" 435), annotations := none, code := (.ref 285), closureTuple := .none, builtins := 0 }), #[]⟩
noncomputable def o289 (P : Params) : Obj := ⟨(.type "tuple"), none, (.seq #[(T "self" 579), (T "pointer" 580)] 0), #[]⟩
noncomputable def o291 (P : Params) : Obj := ⟨.none, none, (.func { name := s "urgent", qualname := s "Receiver.urgent", params := fP (me 15 15), body := .stmts (fB (me 15 15)), scope := fS (me 15 15), globals := 0, closure := [], defaults := .none, kwdefaults := .none, doc := .none, pyModule := .none, annotations := none, code := .none, closureTuple := .none, builtins := 0 }), #[]⟩
noncomputable def o292 (P : Params) : Obj := ⟨(.type "code"), none, (.fields #[(T "urgent" 576), (T "Receiver.urgent" 577), (T "/claim/cut.py" 578), (Z 223 0), (Z 2 0), (Z 0 0), (Z 0 0), (Z 3 0), (.ref 287), (.bool true), (Z 181 0), (.ref 288), .none, (.ref 289), (.ref 290), (.ref 291), (Z 581 0), (Z 223 0), (T "/claim/cut.py" 582)]), #[]⟩
noncomputable def o293 (P : Params) : Obj := ⟨(.type "function"), none, (.func { name := s "urgent", qualname := s "Receiver.urgent", params := fP (me 15 15), body := .stmts (fB (me 15 15)), scope := fS (me 15 15), globals := 3, closure := [], defaults := .none, kwdefaults := .none, doc := .none, pyModule := (T "thinstack.receiver" 435), annotations := none, code := (.ref 292), closureTuple := .none, builtins := 0 }), #[]⟩
noncomputable def o296 (P : Params) : Obj := ⟨(.type "tuple"), none, (.seq #[(T "self" 587)] 0), #[]⟩
noncomputable def o298 (P : Params) : Obj := ⟨.none, none, (.func { name := s "urgent_left", qualname := s "Receiver.urgent_left", params := fP (me 15 16), body := .stmts (fB (me 15 16)), scope := fS (me 15 16), globals := 0, closure := [], defaults := .none, kwdefaults := .none, doc := .none, pyModule := .none, annotations := none, code := .none, closureTuple := .none, builtins := 0 }), #[]⟩
noncomputable def o299 (P : Params) : Obj := ⟨(.type "code"), none, (.fields #[(T "urgent_left" 584), (T "Receiver.urgent_left" 585), (T "/claim/cut.py" 586), (Z 228 0), (Z 1 0), (Z 0 0), (Z 0 0), (Z 3 0), (.ref 294), (.bool true), (Z 181 0), (.ref 295), .none, (.ref 296), (.ref 297), (.ref 298), (Z 588 0), (Z 228 0), (T "/claim/cut.py" 589)]), #[]⟩
noncomputable def o300 (P : Params) : Obj := ⟨(.type "function"), none, (.func { name := s "urgent_left", qualname := s "Receiver.urgent_left", params := fP (me 15 16), body := .stmts (fB (me 15 16)), scope := fS (me 15 16), globals := 3, closure := [], defaults := .none, kwdefaults := .none, doc := .none, pyModule := (T "thinstack.receiver" 435), annotations := none, code := (.ref 299), closureTuple := .none, builtins := 0 }), #[]⟩
noncomputable def o301 (P : Params) : Obj := ⟨(.type "tuple"), none, (.seq #[(T "assembly" 591), (T "fin_at" 592), (T "has_fin" 593), (T "mss" 594), (T "next" 595), (T "ready" 596), (T "ring" 597), (T "room" 598), (T "told_edge" 599), (T "urgent_at" 600)] 0), #[]⟩
noncomputable def o302 (P : Params) : Obj := ⟨(.type "dict"), none, (.dict #[e P "__module__" 444 (T "thinstack.receiver" 435), e P "__firstlineno__" 448 (Z 134 447), e P "__init__" 460 (.ref 188), e P "free_edge" 467 (.ref 195), e P "should_tell" 475 (.ref 202), e P "told_window" 482 (.ref 209), e P "window" 489 (.ref 216), e P "arrive" 502 (.ref 223), e P "let_in" 512 (.ref 230), e P "note_fin" 520 (.ref 237), e P "ahead_of_fin" 529 (.ref 244), e P "gather" 537 (.ref 251), e P "has_holes" 544 (.ref 258), e P "available" 551 (.ref 265), e P "read" 560 (.ref 272), e P "is_over" 567 (.ref 279), e P "read_place" 575 (.ref 286), e P "urgent" 583 (.ref 293), e P "urgent_left" 590 (.ref 300), e P "__static_attributes__" 601 (.ref 301), e P "__dict__" 603 (.ref 304), e P "__weakref__" 605 (.ref 305), e P "__doc__" 606 .none] 4), #[]⟩
noncomputable def o303 (P : Params) : Obj := ⟨(.type "type"), none, (.cls { name := s "Receiver", bases := [(.type "object")], mro := [(.ref 303), (.type "object")], ns := 302, qualname := s "Receiver", hasDict := true, slotNames := [], subclasses := [], abstract := false, collection := none, hasDel := false }), #[none, none, (some (T "Receiver" 437)), (some (T "Receiver" 445)), (some (.builtin "object.__new__")), (some (.bool true))]⟩
noncomputable def o304 (P : Params) : Obj := ⟨(.type "getset_descriptor"), none, (.fields #[(T "__dict__" 602), (.ref 303), (.builtin "function.__dict__"), (.builtin "function.__dict__#set")]), #[]⟩
noncomputable def o305 (P : Params) : Obj := ⟨(.type "getset_descriptor"), none, (.fields #[(T "__weakref__" 604), (.ref 303), (.builtin "ExceptionGroup.__weakref__"), .none]), #[]⟩
noncomputable def o306 (P : Params) : Obj := ⟨(.type "super"), none, (.fields #[(.ref 303), (.ref 303), (.ref 303)]), #[]⟩
noncomputable def o307 (P : Params) : Obj := ⟨(.type "builtin_function_or_method"), none, (.fields #[(.builtin "object.__init_subclass__"), (.ref 303)]), #[]⟩
noncomputable def o309 (P : Params) : Obj := ⟨(.type "builtin_function_or_method"), none, (.fields #[(.builtin "type.__prepare__"), (.type "type")]), #[]⟩
noncomputable def o310 (P : Params) : Obj := ⟨(.type "dict"), none, (.dict #[e P "__module__" 620 (T "thinstack.acks" 609), e P "__qualname__" 622 (T "AckPolicy" 621), e P "__firstlineno__" 624 (Z 232 623), e P "__init__" 632 (.ref 321), e P "on_octets" 643 (.ref 329), e P "at_once" 650 (.ref 336), e P "is_due" 658 (.ref 343), e P "on_sent" 665 (.ref 350), e P "due_time" 672 (.ref 357), e P "__static_attributes__" 677 (.ref 358)] 10), #[]⟩
noncomputable def o312 (P : Params) : Obj := ⟨.none, none, (.fields #[(Z 234 0), (Z 4 0), (.ref 320), (Z 240 0), (Z 4 0), (.ref 328), (Z 251 0), (Z 4 0), (.ref 335), (Z 254 0), (Z 4 0), (.ref 342), (Z 257 0), (Z 4 0), (.ref 349), (Z 261 0), (Z 4 0), (.ref 356)]), #[]⟩
noncomputable def o313 (P : Params) : Obj := ⟨(.type "code"), none, (.fields #[(T "AckPolicy" 615), (T "AckPolicy" 616), (T "/claim/cut.py" 617), (Z 232 0), (Z 0 0), (Z 0 0), (Z 0 0), (Z 0 0), (.ref 311), (.bool false), (Z 181 0), (.ref 312), .none, .none, .none, .none, (Z 618 0), (Z 232 0), (T "/claim/cut.py" 619)]), #[]⟩
noncomputable def o314 (P : Params) : Obj := ⟨(.type "frame"), none, .plain, #[(some (.ref 313)), (some (.ref 3)), (some (.ref 310)), none, (some (T "thinstack.acks" 609)), none, (some (.ref 0))]⟩
noncomputable def o317 (P : Params) : Obj := ⟨(.type "tuple"), none, (.seq #[(T "self" 628), (T "delay" 629)] 0), #[]⟩
noncomputable def o319 (P : Params) : Obj := ⟨.none, none, (.func { name := s "__init__", qualname := s "AckPolicy.__init__", params := fP (me 18 0), body := .stmts (fB (me 18 0)), scope := fS (me 18 0), globals := 0, closure := [], defaults := .none, kwdefaults := .none, doc := .none, pyModule := .none, annotations := none, code := .none, closureTuple := .none, builtins := 0 }), #[]⟩
noncomputable def o320 (P : Params) : Obj := ⟨(.type "code"), none, (.fields #[(T "__init__" 625), (T "AckPolicy.__init__" 626), (T "/claim/cut.py" 627), (Z 234 0), (Z 2 0), (Z 0 0), (Z 0 0), (Z 3 0), (.ref 315), (.bool true), (Z 181 0), (.ref 316), .none, (.ref 317), (.ref 318), (.ref 319), (Z 630 0), (Z 234 0), (T "/claim/cut.py" 631)]), #[]⟩
noncomputable def o321 (P : Params) : Obj := ⟨(.type "function"), none, (.func { name := s "__init__", qualname := s "AckPolicy.__init__", params := fP (me 18 0), body := .stmts (fB (me 18 0)), scope := fS (me 18 0), globals := 3, closure := [], defaults := .none, kwdefaults := .none, doc := .none, pyModule := (T "thinstack.acks" 609), annotations := none, code := (.ref 320), closureTuple := .none, builtins := 0 }), #[]⟩
noncomputable def o322 (P : Params) : Obj := ⟨(.type "tuple"), none, (.seq #[(.bool false)] 0), #[]⟩
noncomputable def o325 (P : Params) : Obj := ⟨(.type "tuple"), none, (.seq #[(T "self" 636), (T "in_order" 637), (T "now" 638), (T "has_holes" 639), (T "filled" 640)] 0), #[]⟩
noncomputable def o327 (P : Params) : Obj := ⟨.none, none, (.func { name := s "on_octets", qualname := s "AckPolicy.on_octets", params := fP (me 18 1), body := .stmts (fB (me 18 1)), scope := fS (me 18 1), globals := 0, closure := [], defaults := .none, kwdefaults := .none, doc := .none, pyModule := .none, annotations := none, code := .none, closureTuple := .none, builtins := 0 }), #[]⟩
noncomputable def o328 (P : Params) : Obj := ⟨(.type "code"), none, (.fields #[(T "on_octets" 633), (T "AckPolicy.on_octets" 634), (T "/claim/cut.py" 635), (Z 240 0), (Z 4 0), (Z 0 0), (Z 0 0), (Z 3 0), (.ref 323), (.bool true), (Z 181 0), (.ref 324), .none, (.ref 325), (.ref 326), (.ref 327), (Z 641 0), (Z 240 0), (T "/claim/cut.py" 642)]), #[]⟩
noncomputable def o329 (P : Params) : Obj := ⟨(.type "function"), none, (.func { name := s "on_octets", qualname := s "AckPolicy.on_octets", params := fP (me 18 1), body := .stmts (fB (me 18 1)), scope := fS (me 18 1), globals := 3, closure := [], defaults := (.ref 322), kwdefaults := .none, doc := .none, pyModule := (T "thinstack.acks" 609), annotations := none, code := (.ref 328), closureTuple := .none, builtins := 0 }), #[]⟩
noncomputable def o332 (P : Params) : Obj := ⟨(.type "tuple"), none, (.seq #[(T "self" 647)] 0), #[]⟩
noncomputable def o334 (P : Params) : Obj := ⟨.none, none, (.func { name := s "at_once", qualname := s "AckPolicy.at_once", params := fP (me 18 2), body := .stmts (fB (me 18 2)), scope := fS (me 18 2), globals := 0, closure := [], defaults := .none, kwdefaults := .none, doc := .none, pyModule := .none, annotations := none, code := .none, closureTuple := .none, builtins := 0 }), #[]⟩
noncomputable def o335 (P : Params) : Obj := ⟨(.type "code"), none, (.fields #[(T "at_once" 644), (T "AckPolicy.at_once" 645), (T "/claim/cut.py" 646), (Z 251 0), (Z 1 0), (Z 0 0), (Z 0 0), (Z 3 0), (.ref 330), (.bool true), (Z 181 0), (.ref 331), .none, (.ref 332), (.ref 333), (.ref 334), (Z 648 0), (Z 251 0), (T "/claim/cut.py" 649)]), #[]⟩
noncomputable def o336 (P : Params) : Obj := ⟨(.type "function"), none, (.func { name := s "at_once", qualname := s "AckPolicy.at_once", params := fP (me 18 2), body := .stmts (fB (me 18 2)), scope := fS (me 18 2), globals := 3, closure := [], defaults := .none, kwdefaults := .none, doc := .none, pyModule := (T "thinstack.acks" 609), annotations := none, code := (.ref 335), closureTuple := .none, builtins := 0 }), #[]⟩
noncomputable def o339 (P : Params) : Obj := ⟨(.type "tuple"), none, (.seq #[(T "self" 654), (T "now" 655)] 0), #[]⟩
noncomputable def o341 (P : Params) : Obj := ⟨.none, none, (.func { name := s "is_due", qualname := s "AckPolicy.is_due", params := fP (me 18 3), body := .stmts (fB (me 18 3)), scope := fS (me 18 3), globals := 0, closure := [], defaults := .none, kwdefaults := .none, doc := .none, pyModule := .none, annotations := none, code := .none, closureTuple := .none, builtins := 0 }), #[]⟩
noncomputable def o342 (P : Params) : Obj := ⟨(.type "code"), none, (.fields #[(T "is_due" 651), (T "AckPolicy.is_due" 652), (T "/claim/cut.py" 653), (Z 254 0), (Z 2 0), (Z 0 0), (Z 0 0), (Z 3 0), (.ref 337), (.bool true), (Z 181 0), (.ref 338), .none, (.ref 339), (.ref 340), (.ref 341), (Z 656 0), (Z 254 0), (T "/claim/cut.py" 657)]), #[]⟩
noncomputable def o343 (P : Params) : Obj := ⟨(.type "function"), none, (.func { name := s "is_due", qualname := s "AckPolicy.is_due", params := fP (me 18 3), body := .stmts (fB (me 18 3)), scope := fS (me 18 3), globals := 3, closure := [], defaults := .none, kwdefaults := .none, doc := .none, pyModule := (T "thinstack.acks" 609), annotations := none, code := (.ref 342), closureTuple := .none, builtins := 0 }), #[]⟩
noncomputable def o346 (P : Params) : Obj := ⟨(.type "tuple"), none, (.seq #[(T "self" 662)] 0), #[]⟩
noncomputable def o348 (P : Params) : Obj := ⟨.none, none, (.func { name := s "on_sent", qualname := s "AckPolicy.on_sent", params := fP (me 18 4), body := .stmts (fB (me 18 4)), scope := fS (me 18 4), globals := 0, closure := [], defaults := .none, kwdefaults := .none, doc := .none, pyModule := .none, annotations := none, code := .none, closureTuple := .none, builtins := 0 }), #[]⟩
noncomputable def o349 (P : Params) : Obj := ⟨(.type "code"), none, (.fields #[(T "on_sent" 659), (T "AckPolicy.on_sent" 660), (T "/claim/cut.py" 661), (Z 257 0), (Z 1 0), (Z 0 0), (Z 0 0), (Z 3 0), (.ref 344), (.bool true), (Z 181 0), (.ref 345), .none, (.ref 346), (.ref 347), (.ref 348), (Z 663 0), (Z 257 0), (T "/claim/cut.py" 664)]), #[]⟩
noncomputable def o350 (P : Params) : Obj := ⟨(.type "function"), none, (.func { name := s "on_sent", qualname := s "AckPolicy.on_sent", params := fP (me 18 4), body := .stmts (fB (me 18 4)), scope := fS (me 18 4), globals := 3, closure := [], defaults := .none, kwdefaults := .none, doc := .none, pyModule := (T "thinstack.acks" 609), annotations := none, code := (.ref 349), closureTuple := .none, builtins := 0 }), #[]⟩
noncomputable def o353 (P : Params) : Obj := ⟨(.type "tuple"), none, (.seq #[(T "self" 669)] 0), #[]⟩
noncomputable def o355 (P : Params) : Obj := ⟨.none, none, (.func { name := s "due_time", qualname := s "AckPolicy.due_time", params := fP (me 18 5), body := .stmts (fB (me 18 5)), scope := fS (me 18 5), globals := 0, closure := [], defaults := .none, kwdefaults := .none, doc := .none, pyModule := .none, annotations := none, code := .none, closureTuple := .none, builtins := 0 }), #[]⟩
noncomputable def o356 (P : Params) : Obj := ⟨(.type "code"), none, (.fields #[(T "due_time" 666), (T "AckPolicy.due_time" 667), (T "/claim/cut.py" 668), (Z 261 0), (Z 1 0), (Z 0 0), (Z 0 0), (Z 3 0), (.ref 351), (.bool true), (Z 181 0), (.ref 352), .none, (.ref 353), (.ref 354), (.ref 355), (Z 670 0), (Z 261 0), (T "/claim/cut.py" 671)]), #[]⟩
noncomputable def o357 (P : Params) : Obj := ⟨(.type "function"), none, (.func { name := s "due_time", qualname := s "AckPolicy.due_time", params := fP (me 18 5), body := .stmts (fB (me 18 5)), scope := fS (me 18 5), globals := 3, closure := [], defaults := .none, kwdefaults := .none, doc := .none, pyModule := (T "thinstack.acks" 609), annotations := none, code := (.ref 356), closureTuple := .none, builtins := 0 }), #[]⟩
noncomputable def o358 (P : Params) : Obj := ⟨(.type "tuple"), none, (.seq #[(T "delay" 673), (T "due" 674), (T "has_gap" 675), (T "waiting" 676)] 0), #[]⟩
noncomputable def o359 (P : Params) : Obj := ⟨(.type "dict"), none, (.dict #[e P "__module__" 620 (T "thinstack.acks" 609), e P "__firstlineno__" 624 (Z 232 623), e P "__init__" 632 (.ref 321), e P "on_octets" 643 (.ref 329), e P "at_once" 650 (.ref 336), e P "is_due" 658 (.ref 343), e P "on_sent" 665 (.ref 350), e P "due_time" 672 (.ref 357), e P "__static_attributes__" 677 (.ref 358), e P "__dict__" 679 (.ref 361), e P "__weakref__" 681 (.ref 362), e P "__doc__" 682 .none] 4), #[]⟩
noncomputable def o360 (P : Params) : Obj := ⟨(.type "type"), none, (.cls { name := s "AckPolicy", bases := [(.type "object")], mro := [(.ref 360), (.type "object")], ns := 359, qualname := s "AckPolicy", hasDict := true, slotNames := [], subclasses := [], abstract := false, collection := none, hasDel := false }), #[none, none, (some (T "AckPolicy" 613)), (some (T "AckPolicy" 621)), (some (.builtin "object.__new__")), (some (.bool true))]⟩
noncomputable def o361 (P : Params) : Obj := ⟨(.type "getset_descriptor"), none, (.fields #[(T "__dict__" 678), (.ref 360), (.builtin "function.__dict__"), (.builtin "function.__dict__#set")]), #[]⟩
noncomputable def o362 (P : Params) : Obj := ⟨(.type "getset_descriptor"), none, (.fields #[(T "__weakref__" 680), (.ref 360), (.builtin "ExceptionGroup.__weakref__"), .none]), #[]⟩
noncomputable def o363 (P : Params) : Obj := ⟨(.type "super"), none, (.fields #[(.ref 360), (.ref 360), (.ref 360)]), #[]⟩
noncomputable def o364 (P : Params) : Obj := ⟨(.type "builtin_function_or_method"), none, (.fields #[(.builtin "object.__init_subclass__"), (.ref 360)]), #[]⟩
noncomputable def o366 (P : Params) : Obj := ⟨(.type "builtin_function_or_method"), none, (.fields #[(.builtin "type.__prepare__"), (.type "type")]), #[]⟩
noncomputable def o367 (P : Params) : Obj := ⟨(.type "dict"), none, (.dict #[e P "__module__" 694 (T "thinstack.congestion" 685), e P "__qualname__" 696 (T "Congestion" 695), e P "__firstlineno__" 698 (Z 264 697), e P "__init__" 708 (.ref 378), e P "window" 715 (.ref 385), e P "grow" 723 (.ref 392), e P "halved" 731 (.ref 399), e P "acked" 739 (.ref 406), e P "slow_start" 748 (.ref 413), e P "avoid" 756 (.ref 420), e P "duplicate" 764 (.ref 427), e P "recovered" 771 (.ref 434), e P "timed_out" 779 (.ref 441), e P "__static_attributes__" 788 (.ref 442)] 14), #[]⟩
noncomputable def o369 (P : Params) : Obj := ⟨.none, none, (.fields #[(Z 266 0), (Z 4 0), (.ref 377), (Z 276 0), (Z 4 0), (.ref 384), (Z 279 0), (Z 4 0), (.ref 391), (Z 284 0), (Z 4 0), (.ref 398), (Z 287 0), (Z 4 0), (.ref 405), (Z 297 0), (Z 4 0), (.ref 412), (Z 303 0), (Z 4 0), (.ref 419), (Z 309 0), (Z 4 0), (.ref 426), (Z 312 0), (Z 4 0), (.ref 433), (Z 319 0), (Z 4 0), (.ref 440)]), #[]⟩
noncomputable def o370 (P : Params) : Obj := ⟨(.type "code"), none, (.fields #[(T "Congestion" 689), (T "Congestion" 690), (T "/claim/cut.py" 691), (Z 264 0), (Z 0 0), (Z 0 0), (Z 0 0), (Z 0 0), (.ref 368), (.bool false), (Z 181 0), (.ref 369), .none, .none, .none, .none, (Z 692 0), (Z 264 0), (T "/claim/cut.py" 693)]), #[]⟩
noncomputable def o371 (P : Params) : Obj := ⟨(.type "frame"), none, .plain, #[(some (.ref 370)), (some (.ref 3)), (some (.ref 367)), none, (some (T "thinstack.congestion" 685)), none, (some (.ref 0))]⟩
noncomputable def o374 (P : Params) : Obj := ⟨(.type "tuple"), none, (.seq #[(T "self" 702), (T "mss" 703), (T "first" 704), (T "most" 705)] 0), #[]⟩
noncomputable def o376 (P : Params) : Obj := ⟨.none, none, (.func { name := s "__init__", qualname := s "Congestion.__init__", params := fP (me 20 0), body := .stmts (fB (me 20 0)), scope := fS (me 20 0), globals := 0, closure := [], defaults := .none, kwdefaults := .none, doc := .none, pyModule := .none, annotations := none, code := .none, closureTuple := .none, builtins := 0 }), #[]⟩
noncomputable def o377 (P : Params) : Obj := ⟨(.type "code"), none, (.fields #[(T "__init__" 699), (T "Congestion.__init__" 700), (T "/claim/cut.py" 701), (Z 266 0), (Z 4 0), (Z 0 0), (Z 0 0), (Z 3 0), (.ref 372), (.bool true), (Z 181 0), (.ref 373), .none, (.ref 374), (.ref 375), (.ref 376), (Z 706 0), (Z 266 0), (T "/claim/cut.py" 707)]), #[]⟩
noncomputable def o378 (P : Params) : Obj := ⟨(.type "function"), none, (.func { name := s "__init__", qualname := s "Congestion.__init__", params := fP (me 20 0), body := .stmts (fB (me 20 0)), scope := fS (me 20 0), globals := 3, closure := [], defaults := .none, kwdefaults := .none, doc := .none, pyModule := (T "thinstack.congestion" 685), annotations := none, code := (.ref 377), closureTuple := .none, builtins := 0 }), #[]⟩
noncomputable def o381 (P : Params) : Obj := ⟨(.type "tuple"), none, (.seq #[(T "self" 712)] 0), #[]⟩
noncomputable def o383 (P : Params) : Obj := ⟨.none, none, (.func { name := s "window", qualname := s "Congestion.window", params := fP (me 20 1), body := .stmts (fB (me 20 1)), scope := fS (me 20 1), globals := 0, closure := [], defaults := .none, kwdefaults := .none, doc := .none, pyModule := .none, annotations := none, code := .none, closureTuple := .none, builtins := 0 }), #[]⟩
noncomputable def o384 (P : Params) : Obj := ⟨(.type "code"), none, (.fields #[(T "window" 709), (T "Congestion.window" 710), (T "/claim/cut.py" 711), (Z 276 0), (Z 1 0), (Z 0 0), (Z 0 0), (Z 3 0), (.ref 379), (.bool true), (Z 181 0), (.ref 380), .none, (.ref 381), (.ref 382), (.ref 383), (Z 713 0), (Z 276 0), (T "/claim/cut.py" 714)]), #[]⟩
noncomputable def o385 (P : Params) : Obj := ⟨(.type "function"), none, (.func { name := s "window", qualname := s "Congestion.window", params := fP (me 20 1), body := .stmts (fB (me 20 1)), scope := fS (me 20 1), globals := 3, closure := [], defaults := .none, kwdefaults := .none, doc := .none, pyModule := (T "thinstack.congestion" 685), annotations := none, code := (.ref 384), closureTuple := .none, builtins := 0 }), #[]⟩
noncomputable def o388 (P : Params) : Obj := ⟨(.type "tuple"), none, (.seq #[(T "self" 719), (T "octets" 720)] 0), #[]⟩
noncomputable def o390 (P : Params) : Obj := ⟨.none, none, (.func { name := s "grow", qualname := s "Congestion.grow", params := fP (me 20 2), body := .stmts (fB (me 20 2)), scope := fS (me 20 2), globals := 0, closure := [], defaults := .none, kwdefaults := .none, doc := .none, pyModule := .none, annotations := none, code := .none, closureTuple := .none, builtins := 0 }), #[]⟩
noncomputable def o391 (P : Params) : Obj := ⟨(.type "code"), none, (.fields #[(T "grow" 716), (T "Congestion.grow" 717), (T "/claim/cut.py" 718), (Z 279 0), (Z 2 0), (Z 0 0), (Z 0 0), (Z 3 0), (.ref 386), (.bool true), (Z 181 0), (.ref 387), .none, (.ref 388), (.ref 389), (.ref 390), (Z 721 0), (Z 279 0), (T "/claim/cut.py" 722)]), #[]⟩
noncomputable def o392 (P : Params) : Obj := ⟨(.type "function"), none, (.func { name := s "grow", qualname := s "Congestion.grow", params := fP (me 20 2), body := .stmts (fB (me 20 2)), scope := fS (me 20 2), globals := 3, closure := [], defaults := .none, kwdefaults := .none, doc := .none, pyModule := (T "thinstack.congestion" 685), annotations := none, code := (.ref 391), closureTuple := .none, builtins := 0 }), #[]⟩
noncomputable def o395 (P : Params) : Obj := ⟨(.type "tuple"), none, (.seq #[(T "self" 727), (T "flight" 728)] 0), #[]⟩
noncomputable def o397 (P : Params) : Obj := ⟨.none, none, (.func { name := s "halved", qualname := s "Congestion.halved", params := fP (me 20 3), body := .stmts (fB (me 20 3)), scope := fS (me 20 3), globals := 0, closure := [], defaults := .none, kwdefaults := .none, doc := .none, pyModule := .none, annotations := none, code := .none, closureTuple := .none, builtins := 0 }), #[]⟩
noncomputable def o398 (P : Params) : Obj := ⟨(.type "code"), none, (.fields #[(T "halved" 724), (T "Congestion.halved" 725), (T "/claim/cut.py" 726), (Z 284 0), (Z 2 0), (Z 0 0), (Z 0 0), (Z 3 0), (.ref 393), (.bool true), (Z 181 0), (.ref 394), .none, (.ref 395), (.ref 396), (.ref 397), (Z 729 0), (Z 284 0), (T "/claim/cut.py" 730)]), #[]⟩
noncomputable def o399 (P : Params) : Obj := ⟨(.type "function"), none, (.func { name := s "halved", qualname := s "Congestion.halved", params := fP (me 20 3), body := .stmts (fB (me 20 3)), scope := fS (me 20 3), globals := 3, closure := [], defaults := .none, kwdefaults := .none, doc := .none, pyModule := (T "thinstack.congestion" 685), annotations := none, code := (.ref 398), closureTuple := .none, builtins := 0 }), #[]⟩
noncomputable def o402 (P : Params) : Obj := ⟨(.type "tuple"), none, (.seq #[(T "self" 735), (T "octets" 736)] 0), #[]⟩
noncomputable def o404 (P : Params) : Obj := ⟨.none, none, (.func { name := s "acked", qualname := s "Congestion.acked", params := fP (me 20 4), body := .stmts (fB (me 20 4)), scope := fS (me 20 4), globals := 0, closure := [], defaults := .none, kwdefaults := .none, doc := .none, pyModule := .none, annotations := none, code := .none, closureTuple := .none, builtins := 0 }), #[]⟩
noncomputable def o405 (P : Params) : Obj := ⟨(.type "code"), none, (.fields #[(T "acked" 732), (T "Congestion.acked" 733), (T "/claim/cut.py" 734), (Z 287 0), (Z 2 0), (Z 0 0), (Z 0 0), (Z 3 0), (.ref 400), (.bool true), (Z 181 0), (.ref 401), .none, (.ref 402), (.ref 403), (.ref 404), (Z 737 0), (Z 287 0), (T "/claim/cut.py" 738)]), #[]⟩
noncomputable def o406 (P : Params) : Obj := ⟨(.type "function"), none, (.func { name := s "acked", qualname := s "Congestion.acked", params := fP (me 20 4), body := .stmts (fB (me 20 4)), scope := fS (me 20 4), globals := 3, closure := [], defaults := .none, kwdefaults := .none, doc := .none, pyModule := (T "thinstack.congestion" 685), annotations := none, code := (.ref 405), closureTuple := .none, builtins := 0 }), #[]⟩
noncomputable def o409 (P : Params) : Obj := ⟨(.type "tuple"), none, (.seq #[(T "self" 743), (T "octets" 744), (T "most" 745)] 0), #[]⟩
noncomputable def o411 (P : Params) : Obj := ⟨.none, none, (.func { name := s "slow_start", qualname := s "Congestion.slow_start", params := fP (me 20 5), body := .stmts (fB (me 20 5)), scope := fS (me 20 5), globals := 0, closure := [], defaults := .none, kwdefaults := .none, doc := .none, pyModule := .none, annotations := none, code := .none, closureTuple := .none, builtins := 0 }), #[]⟩
noncomputable def o412 (P : Params) : Obj := ⟨(.type "code"), none, (.fields #[(T "slow_start" 740), (T "Congestion.slow_start" 741), (T "/claim/cut.py" 742), (Z 297 0), (Z 2 0), (Z 0 0), (Z 0 0), (Z 3 0), (.ref 407), (.bool true), (Z 181 0), (.ref 408), .none, (.ref 409), (.ref 410), (.ref 411), (Z 746 0), (Z 297 0), (T "/claim/cut.py" 747)]), #[]⟩
noncomputable def o413 (P : Params) : Obj := ⟨(.type "function"), none, (.func { name := s "slow_start", qualname := s "Congestion.slow_start", params := fP (me 20 5), body := .stmts (fB (me 20 5)), scope := fS (me 20 5), globals := 3, closure := [], defaults := .none, kwdefaults := .none, doc := .none, pyModule := (T "thinstack.congestion" 685), annotations := none, code := (.ref 412), closureTuple := .none, builtins := 0 }), #[]⟩
noncomputable def o416 (P : Params) : Obj := ⟨(.type "tuple"), none, (.seq #[(T "self" 752), (T "octets" 753)] 0), #[]⟩
noncomputable def o418 (P : Params) : Obj := ⟨.none, none, (.func { name := s "avoid", qualname := s "Congestion.avoid", params := fP (me 20 6), body := .stmts (fB (me 20 6)), scope := fS (me 20 6), globals := 0, closure := [], defaults := .none, kwdefaults := .none, doc := .none, pyModule := .none, annotations := none, code := .none, closureTuple := .none, builtins := 0 }), #[]⟩
noncomputable def o419 (P : Params) : Obj := ⟨(.type "code"), none, (.fields #[(T "avoid" 749), (T "Congestion.avoid" 750), (T "/claim/cut.py" 751), (Z 303 0), (Z 2 0), (Z 0 0), (Z 0 0), (Z 3 0), (.ref 414), (.bool true), (Z 181 0), (.ref 415), .none, (.ref 416), (.ref 417), (.ref 418), (Z 754 0), (Z 303 0), (T "/claim/cut.py" 755)]), #[]⟩
noncomputable def o420 (P : Params) : Obj := ⟨(.type "function"), none, (.func { name := s "avoid", qualname := s "Congestion.avoid", params := fP (me 20 6), body := .stmts (fB (me 20 6)), scope := fS (me 20 6), globals := 3, closure := [], defaults := .none, kwdefaults := .none, doc := .none, pyModule := (T "thinstack.congestion" 685), annotations := none, code := (.ref 419), closureTuple := .none, builtins := 0 }), #[]⟩
noncomputable def o423 (P : Params) : Obj := ⟨(.type "tuple"), none, (.seq #[(T "self" 760), (T "flight" 761)] 0), #[]⟩
noncomputable def o425 (P : Params) : Obj := ⟨.none, none, (.func { name := s "duplicate", qualname := s "Congestion.duplicate", params := fP (me 20 7), body := .stmts (fB (me 20 7)), scope := fS (me 20 7), globals := 0, closure := [], defaults := .none, kwdefaults := .none, doc := .none, pyModule := .none, annotations := none, code := .none, closureTuple := .none, builtins := 0 }), #[]⟩
noncomputable def o426 (P : Params) : Obj := ⟨(.type "code"), none, (.fields #[(T "duplicate" 757), (T "Congestion.duplicate" 758), (T "/claim/cut.py" 759), (Z 309 0), (Z 2 0), (Z 0 0), (Z 0 0), (Z 3 0), (.ref 421), (.bool true), (Z 181 0), (.ref 422), .none, (.ref 423), (.ref 424), (.ref 425), (Z 762 0), (Z 309 0), (T "/claim/cut.py" 763)]), #[]⟩
noncomputable def o427 (P : Params) : Obj := ⟨(.type "function"), none, (.func { name := s "duplicate", qualname := s "Congestion.duplicate", params := fP (me 20 7), body := .stmts (fB (me 20 7)), scope := fS (me 20 7), globals := 3, closure := [], defaults := .none, kwdefaults := .none, doc := .none, pyModule := (T "thinstack.congestion" 685), annotations := none, code := (.ref 426), closureTuple := .none, builtins := 0 }), #[]⟩
noncomputable def o430 (P : Params) : Obj := ⟨(.type "tuple"), none, (.seq #[(T "self" 768)] 0), #[]⟩
noncomputable def o432 (P : Params) : Obj := ⟨.none, none, (.func { name := s "recovered", qualname := s "Congestion.recovered", params := fP (me 20 8), body := .stmts (fB (me 20 8)), scope := fS (me 20 8), globals := 0, closure := [], defaults := .none, kwdefaults := .none, doc := .none, pyModule := .none, annotations := none, code := .none, closureTuple := .none, builtins := 0 }), #[]⟩
noncomputable def o433 (P : Params) : Obj := ⟨(.type "code"), none, (.fields #[(T "recovered" 765), (T "Congestion.recovered" 766), (T "/claim/cut.py" 767), (Z 312 0), (Z 1 0), (Z 0 0), (Z 0 0), (Z 3 0), (.ref 428), (.bool true), (Z 181 0), (.ref 429), .none, (.ref 430), (.ref 431), (.ref 432), (Z 769 0), (Z 312 0), (T "/claim/cut.py" 770)]), #[]⟩
noncomputable def o434 (P : Params) : Obj := ⟨(.type "function"), none, (.func { name := s "recovered", qualname := s "Congestion.recovered", params := fP (me 20 8), body := .stmts (fB (me 20 8)), scope := fS (me 20 8), globals := 3, closure := [], defaults := .none, kwdefaults := .none, doc := .none, pyModule := (T "thinstack.congestion" 685), annotations := none, code := (.ref 433), closureTuple := .none, builtins := 0 }), #[]⟩
noncomputable def o437 (P : Params) : Obj := ⟨(.type "tuple"), none, (.seq #[(T "self" 775), (T "flight" 776)] 0), #[]⟩
noncomputable def o439 (P : Params) : Obj := ⟨.none, none, (.func { name := s "timed_out", qualname := s "Congestion.timed_out", params := fP (me 20 9), body := .stmts (fB (me 20 9)), scope := fS (me 20 9), globals := 0, closure := [], defaults := .none, kwdefaults := .none, doc := .none, pyModule := .none, annotations := none, code := .none, closureTuple := .none, builtins := 0 }), #[]⟩
noncomputable def o440 (P : Params) : Obj := ⟨(.type "code"), none, (.fields #[(T "timed_out" 772), (T "Congestion.timed_out" 773), (T "/claim/cut.py" 774), (Z 319 0), (Z 2 0), (Z 0 0), (Z 0 0), (Z 3 0), (.ref 435), (.bool true), (Z 181 0), (.ref 436), .none, (.ref 437), (.ref 438), (.ref 439), (Z 777 0), (Z 319 0), (T "/claim/cut.py" 778)]), #[]⟩
noncomputable def o441 (P : Params) : Obj := ⟨(.type "function"), none, (.func { name := s "timed_out", qualname := s "Congestion.timed_out", params := fP (me 20 9), body := .stmts (fB (me 20 9)), scope := fS (me 20 9), globals := 3, closure := [], defaults := .none, kwdefaults := .none, doc := .none, pyModule := (T "thinstack.congestion" 685), annotations := none, code := (.ref 440), closureTuple := .none, builtins := 0 }), #[]⟩
noncomputable def o442 (P : Params) : Obj := ⟨(.type "tuple"), none, (.seq #[(T "duplicates" 780), (T "gathered" 781), (T "is_cautious" 782), (T "is_recovering" 783), (T "most" 784), (T "mss" 785), (T "size" 786), (T "threshold" 787)] 0), #[]⟩
noncomputable def o443 (P : Params) : Obj := ⟨(.type "dict"), none, (.dict #[e P "__module__" 694 (T "thinstack.congestion" 685), e P "__firstlineno__" 698 (Z 264 697), e P "__init__" 708 (.ref 378), e P "window" 715 (.ref 385), e P "grow" 723 (.ref 392), e P "halved" 731 (.ref 399), e P "acked" 739 (.ref 406), e P "slow_start" 748 (.ref 413), e P "avoid" 756 (.ref 420), e P "duplicate" 764 (.ref 427), e P "recovered" 771 (.ref 434), e P "timed_out" 779 (.ref 441), e P "__static_attributes__" 788 (.ref 442), e P "__dict__" 790 (.ref 445), e P "__weakref__" 792 (.ref 446), e P "__doc__" 793 .none] 4), #[]⟩
noncomputable def o444 (P : Params) : Obj := ⟨(.type "type"), none, (.cls { name := s "Congestion", bases := [(.type "object")], mro := [(.ref 444), (.type "object")], ns := 443, qualname := s "Congestion", hasDict := true, slotNames := [], subclasses := [], abstract := false, collection := none, hasDel := false }), #[none, none, (some (T "Congestion" 687)), (some (T "Congestion" 695)), (some (.builtin "object.__new__")), (some (.bool true))]⟩
noncomputable def o445 (P : Params) : Obj := ⟨(.type "getset_descriptor"), none, (.fields #[(T "__dict__" 789), (.ref 444), (.builtin "function.__dict__"), (.builtin "function.__dict__#set")]), #[]⟩
noncomputable def o446 (P : Params) : Obj := ⟨(.type "getset_descriptor"), none, (.fields #[(T "__weakref__" 791), (.ref 444), (.builtin "ExceptionGroup.__weakref__"), .none]), #[]⟩
noncomputable def o447 (P : Params) : Obj := ⟨(.type "super"), none, (.fields #[(.ref 444), (.ref 444), (.ref 444)]), #[]⟩
noncomputable def o448 (P : Params) : Obj := ⟨(.type "builtin_function_or_method"), none, (.fields #[(.builtin "object.__init_subclass__"), (.ref 444)]), #[]⟩
noncomputable def o450 (P : Params) : Obj := ⟨(.type "builtin_function_or_method"), none, (.fields #[(.builtin "type.__prepare__"), (.type "type")]), #[]⟩
noncomputable def o451 (P : Params) : Obj := ⟨(.type "dict"), none, (.dict #[e P "__module__" 807 (T "thinstack.retransmit" 796), e P "__qualname__" 809 (T "RetransmitClock" 808), e P "__firstlineno__" 811 (Z 323 810), e P "__init__" 820 (.ref 462), e P "is_timing" 827 (.ref 469), e P "sent" 836 (.ref 476), e P "forget" 843 (.ref 483), e P "acked" 854 (.ref 490), e P "back_off" 861 (.ref 497), e P "reset_tries" 868 (.ref 504), e P "waited" 877 (.ref 511), e P "deadline" 885 (.ref 518), e P "__static_attributes__" 891 (.ref 519)] 13), #[]⟩
noncomputable def o453 (P : Params) : Obj := ⟨.none, none, (.fields #[(Z 325 0), (Z 4 0), (.ref 461), (Z 332 0), (Z 4 0), (.ref 468), (Z 335 0), (Z 4 0), (.ref 475), (Z 340 0), (Z 4 0), (.ref 482), (Z 343 0), (Z 4 0), (.ref 489), (Z 352 0), (Z 4 0), (.ref 496), (Z 355 0), (Z 4 0), (.ref 503), (Z 358 0), (Z 4 0), (.ref 510), (Z 364 0), (Z 4 0), (.ref 517)]), #[]⟩
noncomputable def o454 (P : Params) : Obj := ⟨(.type "code"), none, (.fields #[(T "RetransmitClock" 802), (T "RetransmitClock" 803), (T "/claim/cut.py" 804), (Z 323 0), (Z 0 0), (Z 0 0), (Z 0 0), (Z 0 0), (.ref 452), (.bool false), (Z 181 0), (.ref 453), .none, .none, .none, .none, (Z 805 0), (Z 323 0), (T "/claim/cut.py" 806)]), #[]⟩
noncomputable def o455 (P : Params) : Obj := ⟨(.type "frame"), none, .plain, #[(some (.ref 454)), (some (.ref 3)), (some (.ref 451)), none, (some (T "thinstack.retransmit" 796)), none, (some (.ref 0))]⟩
noncomputable def o458 (P : Params) : Obj := ⟨(.type "tuple"), none, (.seq #[(T "self" 815), (T "estimate" 816), (T "most_tries" 817)] 0), #[]⟩
noncomputable def o460 (P : Params) : Obj := ⟨.none, none, (.func { name := s "__init__", qualname := s "RetransmitClock.__init__", params := fP (me 23 0), body := .stmts (fB (me 23 0)), scope := fS (me 23 0), globals := 0, closure := [], defaults := .none, kwdefaults := .none, doc := .none, pyModule := .none, annotations := none, code := .none, closureTuple := .none, builtins := 0 }), #[]⟩
noncomputable def o461 (P : Params) : Obj := ⟨(.type "code"), none, (.fields #[(T "__init__" 812), (T "RetransmitClock.__init__" 813), (T "/claim/cut.py" 814), (Z 325 0), (Z 3 0), (Z 0 0), (Z 0 0), (Z 3 0), (.ref 456), (.bool true), (Z 181 0), (.ref 457), .none, (.ref 458), (.ref 459), (.ref 460), (Z 818 0), (Z 325 0), (T "/claim/cut.py" 819)]), #[]⟩
noncomputable def o462 (P : Params) : Obj := ⟨(.type "function"), none, (.func { name := s "__init__", qualname := s "RetransmitClock.__init__", params := fP (me 23 0), body := .stmts (fB (me 23 0)), scope := fS (me 23 0), globals := 3, closure := [], defaults := .none, kwdefaults := .none, doc := .none, pyModule := (T "thinstack.retransmit" 796), annotations := none, code := (.ref 461), closureTuple := .none, builtins := 0 }), #[]⟩
noncomputable def o465 (P : Params) : Obj := ⟨(.type "tuple"), none, (.seq #[(T "self" 824)] 0), #[]⟩
noncomputable def o467 (P : Params) : Obj := ⟨.none, none, (.func { name := s "is_timing", qualname := s "RetransmitClock.is_timing", params := fP (me 23 1), body := .stmts (fB (me 23 1)), scope := fS (me 23 1), globals := 0, closure := [], defaults := .none, kwdefaults := .none, doc := .none, pyModule := .none, annotations := none, code := .none, closureTuple := .none, builtins := 0 }), #[]⟩
noncomputable def o468 (P : Params) : Obj := ⟨(.type "code"), none, (.fields #[(T "is_timing" 821), (T "RetransmitClock.is_timing" 822), (T "/claim/cut.py" 823), (Z 332 0), (Z 1 0), (Z 0 0), (Z 0 0), (Z 3 0), (.ref 463), (.bool true), (Z 181 0), (.ref 464), .none, (.ref 465), (.ref 466), (.ref 467), (Z 825 0), (Z 332 0), (T "/claim/cut.py" 826)]), #[]⟩
noncomputable def o469 (P : Params) : Obj := ⟨(.type "function"), none, (.func { name := s "is_timing", qualname := s "RetransmitClock.is_timing", params := fP (me 23 1), body := .stmts (fB (me 23 1)), scope := fS (me 23 1), globals := 3, closure := [], defaults := .none, kwdefaults := .none, doc := .none, pyModule := (T "thinstack.retransmit" 796), annotations := none, code := (.ref 468), closureTuple := .none, builtins := 0 }), #[]⟩
noncomputable def o472 (P : Params) : Obj := ⟨(.type "tuple"), none, (.seq #[(T "self" 831), (T "seq_end" 832), (T "now" 833)] 0), #[]⟩
noncomputable def o474 (P : Params) : Obj := ⟨.none, none, (.func { name := s "sent", qualname := s "RetransmitClock.sent", params := fP (me 23 2), body := .stmts (fB (me 23 2)), scope := fS (me 23 2), globals := 0, closure := [], defaults := .none, kwdefaults := .none, doc := .none, pyModule := .none, annotations := none, code := .none, closureTuple := .none, builtins := 0 }), #[]⟩
noncomputable def o475 (P : Params) : Obj := ⟨(.type "code"), none, (.fields #[(T "sent" 828), (T "RetransmitClock.sent" 829), (T "/claim/cut.py" 830), (Z 335 0), (Z 3 0), (Z 0 0), (Z 0 0), (Z 3 0), (.ref 470), (.bool true), (Z 181 0), (.ref 471), .none, (.ref 472), (.ref 473), (.ref 474), (Z 834 0), (Z 335 0), (T "/claim/cut.py" 835)]), #[]⟩
noncomputable def o476 (P : Params) : Obj := ⟨(.type "function"), none, (.func { name := s "sent", qualname := s "RetransmitClock.sent", params := fP (me 23 2), body := .stmts (fB (me 23 2)), scope := fS (me 23 2), globals := 3, closure := [], defaults := .none, kwdefaults := .none, doc := .none, pyModule := (T "thinstack.retransmit" 796), annotations := none, code := (.ref 475), closureTuple := .none, builtins := 0 }), #[]⟩
noncomputable def o479 (P : Params) : Obj := ⟨(.type "tuple"), none, (.seq #[(T "self" 840)] 0), #[]⟩
noncomputable def o481 (P : Params) : Obj := ⟨.none, none, (.func { name := s "forget", qualname := s "RetransmitClock.forget", params := fP (me 23 3), body := .stmts (fB (me 23 3)), scope := fS (me 23 3), globals := 0, closure := [], defaults := .none, kwdefaults := .none, doc := .none, pyModule := .none, annotations := none, code := .none, closureTuple := .none, builtins := 0 }), #[]⟩
noncomputable def o482 (P : Params) : Obj := ⟨(.type "code"), none, (.fields #[(T "forget" 837), (T "RetransmitClock.forget" 838), (T "/claim/cut.py" 839), (Z 340 0), (Z 1 0), (Z 0 0), (Z 0 0), (Z 3 0), (.ref 477), (.bool true), (Z 181 0), (.ref 478), .none, (.ref 479), (.ref 480), (.ref 481), (Z 841 0), (Z 340 0), (T "/claim/cut.py" 842)]), #[]⟩
noncomputable def o483 (P : Params) : Obj := ⟨(.type "function"), none, (.func { name := s "forget", qualname := s "RetransmitClock.forget", params := fP (me 23 3), body := .stmts (fB (me 23 3)), scope := fS (me 23 3), globals := 3, closure := [], defaults := .none, kwdefaults := .none, doc := .none, pyModule := (T "thinstack.retransmit" 796), annotations := none, code := (.ref 482), closureTuple := .none, builtins := 0 }), #[]⟩
noncomputable def o486 (P : Params) : Obj := ⟨(.type "tuple"), none, (.seq #[(T "self" 847), (T "ack" 848), (T "now" 849), (T "ring" 850), (T "measured" 851)] 0), #[]⟩
noncomputable def o488 (P : Params) : Obj := ⟨.none, none, (.func { name := s "acked", qualname := s "RetransmitClock.acked", params := fP (me 23 4), body := .stmts (fB (me 23 4)), scope := fS (me 23 4), globals := 0, closure := [], defaults := .none, kwdefaults := .none, doc := .none, pyModule := .none, annotations := none, code := .none, closureTuple := .none, builtins := 0 }), #[]⟩
noncomputable def o489 (P : Params) : Obj := ⟨(.type "code"), none, (.fields #[(T "acked" 844), (T "RetransmitClock.acked" 845), (T "/claim/cut.py" 846), (Z 343 0), (Z 4 0), (Z 0 0), (Z 0 0), (Z 3 0), (.ref 484), (.bool true), (Z 181 0), (.ref 485), .none, (.ref 486), (.ref 487), (.ref 488), (Z 852 0), (Z 343 0), (T "/claim/cut.py" 853)]), #[]⟩
noncomputable def o490 (P : Params) : Obj := ⟨(.type "function"), none, (.func { name := s "acked", qualname := s "RetransmitClock.acked", params := fP (me 23 4), body := .stmts (fB (me 23 4)), scope := fS (me 23 4), globals := 3, closure := [], defaults := .none, kwdefaults := .none, doc := .none, pyModule := (T "thinstack.retransmit" 796), annotations := none, code := (.ref 489), closureTuple := .none, builtins := 0 }), #[]⟩
noncomputable def o493 (P : Params) : Obj := ⟨(.type "tuple"), none, (.seq #[(T "self" 858)] 0), #[]⟩
noncomputable def o495 (P : Params) : Obj := ⟨.none, none, (.func { name := s "back_off", qualname := s "RetransmitClock.back_off", params := fP (me 23 5), body := .stmts (fB (me 23 5)), scope := fS (me 23 5), globals := 0, closure := [], defaults := .none, kwdefaults := .none, doc := .none, pyModule := .none, annotations := none, code := .none, closureTuple := .none, builtins := 0 }), #[]⟩
noncomputable def o496 (P : Params) : Obj := ⟨(.type "code"), none, (.fields #[(T "back_off" 855), (T "RetransmitClock.back_off" 856), (T "/claim/cut.py" 857), (Z 352 0), (Z 1 0), (Z 0 0), (Z 0 0), (Z 3 0), (.ref 491), (.bool true), (Z 181 0), (.ref 492), .none, (.ref 493), (.ref 494), (.ref 495), (Z 859 0), (Z 352 0), (T "/claim/cut.py" 860)]), #[]⟩
noncomputable def o497 (P : Params) : Obj := ⟨(.type "function"), none, (.func { name := s "back_off", qualname := s "RetransmitClock.back_off", params := fP (me 23 5), body := .stmts (fB (me 23 5)), scope := fS (me 23 5), globals := 3, closure := [], defaults := .none, kwdefaults := .none, doc := .none, pyModule := (T "thinstack.retransmit" 796), annotations := none, code := (.ref 496), closureTuple := .none, builtins := 0 }), #[]⟩
noncomputable def o500 (P : Params) : Obj := ⟨(.type "tuple"), none, (.seq #[(T "self" 865)] 0), #[]⟩
noncomputable def o502 (P : Params) : Obj := ⟨.none, none, (.func { name := s "reset_tries", qualname := s "RetransmitClock.reset_tries", params := fP (me 23 6), body := .stmts (fB (me 23 6)), scope := fS (me 23 6), globals := 0, closure := [], defaults := .none, kwdefaults := .none, doc := .none, pyModule := .none, annotations := none, code := .none, closureTuple := .none, builtins := 0 }), #[]⟩
noncomputable def o503 (P : Params) : Obj := ⟨(.type "code"), none, (.fields #[(T "reset_tries" 862), (T "RetransmitClock.reset_tries" 863), (T "/claim/cut.py" 864), (Z 355 0), (Z 1 0), (Z 0 0), (Z 0 0), (Z 3 0), (.ref 498), (.bool true), (Z 181 0), (.ref 499), .none, (.ref 500), (.ref 501), (.ref 502), (Z 866 0), (Z 355 0), (T "/claim/cut.py" 867)]), #[]⟩
noncomputable def o504 (P : Params) : Obj := ⟨(.type "function"), none, (.func { name := s "reset_tries", qualname := s "RetransmitClock.reset_tries", params := fP (me 23 6), body := .stmts (fB (me 23 6)), scope := fS (me 23 6), globals := 3, closure := [], defaults := .none, kwdefaults := .none, doc := .none, pyModule := (T "thinstack.retransmit" 796), annotations := none, code := (.ref 503), closureTuple := .none, builtins := 0 }), #[]⟩
noncomputable def o507 (P : Params) : Obj := ⟨(.type "tuple"), none, (.seq #[(T "self" 872), (T "ticks" 873), (T "turn" 874)] 0), #[]⟩
noncomputable def o509 (P : Params) : Obj := ⟨.none, none, (.func { name := s "waited", qualname := s "RetransmitClock.waited", params := fP (me 23 7), body := .stmts (fB (me 23 7)), scope := fS (me 23 7), globals := 0, closure := [], defaults := .none, kwdefaults := .none, doc := .none, pyModule := .none, annotations := none, code := .none, closureTuple := .none, builtins := 0 }), #[]⟩
noncomputable def o510 (P : Params) : Obj := ⟨(.type "code"), none, (.fields #[(T "waited" 869), (T "RetransmitClock.waited" 870), (T "/claim/cut.py" 871), (Z 358 0), (Z 1 0), (Z 0 0), (Z 0 0), (Z 3 0), (.ref 505), (.bool true), (Z 181 0), (.ref 506), .none, (.ref 507), (.ref 508), (.ref 509), (Z 875 0), (Z 358 0), (T "/claim/cut.py" 876)]), #[]⟩
noncomputable def o511 (P : Params) : Obj := ⟨(.type "function"), none, (.func { name := s "waited", qualname := s "RetransmitClock.waited", params := fP (me 23 7), body := .stmts (fB (me 23 7)), scope := fS (me 23 7), globals := 3, closure := [], defaults := .none, kwdefaults := .none, doc := .none, pyModule := (T "thinstack.retransmit" 796), annotations := none, code := (.ref 510), closureTuple := .none, builtins := 0 }), #[]⟩
noncomputable def o514 (P : Params) : Obj := ⟨(.type "tuple"), none, (.seq #[(T "self" 881), (T "now" 882)] 0), #[]⟩
noncomputable def o516 (P : Params) : Obj := ⟨.none, none, (.func { name := s "deadline", qualname := s "RetransmitClock.deadline", params := fP (me 23 8), body := .stmts (fB (me 23 8)), scope := fS (me 23 8), globals := 0, closure := [], defaults := .none, kwdefaults := .none, doc := .none, pyModule := .none, annotations := none, code := .none, closureTuple := .none, builtins := 0 }), #[]⟩
noncomputable def o517 (P : Params) : Obj := ⟨(.type "code"), none, (.fields #[(T "deadline" 878), (T "RetransmitClock.deadline" 879), (T "/claim/cut.py" 880), (Z 364 0), (Z 2 0), (Z 0 0), (Z 0 0), (Z 3 0), (.ref 512), (.bool true), (Z 181 0), (.ref 513), .none, (.ref 514), (.ref 515), (.ref 516), (Z 883 0), (Z 364 0), (T "/claim/cut.py" 884)]), #[]⟩
noncomputable def o518 (P : Params) : Obj := ⟨(.type "function"), none, (.func { name := s "deadline", qualname := s "RetransmitClock.deadline", params := fP (me 23 8), body := .stmts (fB (me 23 8)), scope := fS (me 23 8), globals := 3, closure := [], defaults := .none, kwdefaults := .none, doc := .none, pyModule := (T "thinstack.retransmit" 796), annotations := none, code := (.ref 517), closureTuple := .none, builtins := 0 }), #[]⟩
noncomputable def o519 (P : Params) : Obj := ⟨(.type "tuple"), none, (.seq #[(T "estimate" 886), (T "most_tries" 887), (T "timed_at" 888), (T "timed_end" 889), (T "tries" 890)] 0), #[]⟩
noncomputable def o520 (P : Params) : Obj := ⟨(.type "dict"), none, (.dict #[e P "__module__" 807 (T "thinstack.retransmit" 796), e P "__firstlineno__" 811 (Z 323 810), e P "__init__" 820 (.ref 462), e P "is_timing" 827 (.ref 469), e P "sent" 836 (.ref 476), e P "forget" 843 (.ref 483), e P "acked" 854 (.ref 490), e P "back_off" 861 (.ref 497), e P "reset_tries" 868 (.ref 504), e P "waited" 877 (.ref 511), e P "deadline" 885 (.ref 518), e P "__static_attributes__" 891 (.ref 519), e P "__dict__" 893 (.ref 522), e P "__weakref__" 895 (.ref 523), e P "__doc__" 896 .none] 4), #[]⟩
noncomputable def o521 (P : Params) : Obj := ⟨(.type "type"), none, (.cls { name := s "RetransmitClock", bases := [(.type "object")], mro := [(.ref 521), (.type "object")], ns := 520, qualname := s "RetransmitClock", hasDict := true, slotNames := [], subclasses := [], abstract := false, collection := none, hasDel := false }), #[none, none, (some (T "RetransmitClock" 800)), (some (T "RetransmitClock" 808)), (some (.builtin "object.__new__")), (some (.bool true))]⟩
noncomputable def o522 (P : Params) : Obj := ⟨(.type "getset_descriptor"), none, (.fields #[(T "__dict__" 892), (.ref 521), (.builtin "function.__dict__"), (.builtin "function.__dict__#set")]), #[]⟩
noncomputable def o523 (P : Params) : Obj := ⟨(.type "getset_descriptor"), none, (.fields #[(T "__weakref__" 894), (.ref 521), (.builtin "ExceptionGroup.__weakref__"), .none]), #[]⟩
noncomputable def o524 (P : Params) : Obj := ⟨(.type "super"), none, (.fields #[(.ref 521), (.ref 521), (.ref 521)]), #[]⟩
noncomputable def o525 (P : Params) : Obj := ⟨(.type "builtin_function_or_method"), none, (.fields #[(.builtin "object.__init_subclass__"), (.ref 521)]), #[]⟩
noncomputable def o527 (P : Params) : Obj := ⟨(.type "builtin_function_or_method"), none, (.fields #[(.builtin "type.__prepare__"), (.type "type")]), #[]⟩
noncomputable def o528 (P : Params) : Obj := ⟨(.type "dict"), none, (.dict #[e P "__module__" 908 (T "thinstack.rtt" 899), e P "__qualname__" 910 (T "RttEstimate" 909), e P "__firstlineno__" 912 (Z 367 911), e P "__init__" 922 (.ref 539), e P "sample" 931 (.ref 546), e P "mean" 938 (.ref 553), e P "plain_timeout" 945 (.ref 560), e P "timeout" 952 (.ref 567), e P "bounded" 960 (.ref 574), e P "__static_attributes__" 967 (.ref 575)] 10), #[]⟩
noncomputable def o530 (P : Params) : Obj := ⟨.none, none, (.fields #[(Z 369 0), (Z 4 0), (.ref 538), (Z 377 0), (Z 4 0), (.ref 545), (Z 389 0), (Z 4 0), (.ref 552), (Z 392 0), (Z 4 0), (.ref 559), (Z 397 0), (Z 4 0), (.ref 566), (Z 400 0), (Z 4 0), (.ref 573)]), #[]⟩
noncomputable def o531 (P : Params) : Obj := ⟨(.type "code"), none, (.fields #[(T "RttEstimate" 903), (T "RttEstimate" 904), (T "/claim/cut.py" 905), (Z 367 0), (Z 0 0), (Z 0 0), (Z 0 0), (Z 0 0), (.ref 529), (.bool false), (Z 181 0), (.ref 530), .none, .none, .none, .none, (Z 906 0), (Z 367 0), (T "/claim/cut.py" 907)]), #[]⟩
noncomputable def o532 (P : Params) : Obj := ⟨(.type "frame"), none, .plain, #[(some (.ref 531)), (some (.ref 3)), (some (.ref 528)), none, (some (T "thinstack.rtt" 899)), none, (some (.ref 0))]⟩
noncomputable def o535 (P : Params) : Obj := ⟨(.type "tuple"), none, (.seq #[(T "self" 916), (T "first" 917), (T "least" 918), (T "most" 919)] 0), #[]⟩
noncomputable def o537 (P : Params) : Obj := ⟨.none, none, (.func { name := s "__init__", qualname := s "RttEstimate.__init__", params := fP (me 25 0), body := .stmts (fB (me 25 0)), scope := fS (me 25 0), globals := 0, closure := [], defaults := .none, kwdefaults := .none, doc := .none, pyModule := .none, annotations := none, code := .none, closureTuple := .none, builtins := 0 }), #[]⟩
noncomputable def o538 (P : Params) : Obj := ⟨(.type "code"), none, (.fields #[(T "__init__" 913), (T "RttEstimate.__init__" 914), (T "/claim/cut.py" 915), (Z 369 0), (Z 4 0), (Z 0 0), (Z 0 0), (Z 3 0), (.ref 533), (.bool true), (Z 181 0), (.ref 534), .none, (.ref 535), (.ref 536), (.ref 537), (Z 920 0), (Z 369 0), (T "/claim/cut.py" 921)]), #[]⟩
noncomputable def o539 (P : Params) : Obj := ⟨(.type "function"), none, (.func { name := s "__init__", qualname := s "RttEstimate.__init__", params := fP (me 25 0), body := .stmts (fB (me 25 0)), scope := fS (me 25 0), globals := 3, closure := [], defaults := .none, kwdefaults := .none, doc := .none, pyModule := (T "thinstack.rtt" 899), annotations := none, code := (.ref 538), closureTuple := .none, builtins := 0 }), #[]⟩
noncomputable def o542 (P : Params) : Obj := ⟨(.type "tuple"), none, (.seq #[(T "self" 926), (T "measured" 927), (T "apart" 928)] 0), #[]⟩
noncomputable def o544 (P : Params) : Obj := ⟨.none, none, (.func { name := s "sample", qualname := s "RttEstimate.sample", params := fP (me 25 1), body := .stmts (fB (me 25 1)), scope := fS (me 25 1), globals := 0, closure := [], defaults := .none, kwdefaults := .none, doc := .none, pyModule := .none, annotations := none, code := .none, closureTuple := .none, builtins := 0 }), #[]⟩
noncomputable def o545 (P : Params) : Obj := ⟨(.type "code"), none, (.fields #[(T "sample" 923), (T "RttEstimate.sample" 924), (T "/claim/cut.py" 925), (Z 377 0), (Z 2 0), (Z 0 0), (Z 0 0), (Z 3 0), (.ref 540), (.bool true), (Z 181 0), (.ref 541), .none, (.ref 542), (.ref 543), (.ref 544), (Z 929 0), (Z 377 0), (T "/claim/cut.py" 930)]), #[]⟩
noncomputable def o546 (P : Params) : Obj := ⟨(.type "function"), none, (.func { name := s "sample", qualname := s "RttEstimate.sample", params := fP (me 25 1), body := .stmts (fB (me 25 1)), scope := fS (me 25 1), globals := 3, closure := [], defaults := .none, kwdefaults := .none, doc := .none, pyModule := (T "thinstack.rtt" 899), annotations := none, code := (.ref 545), closureTuple := .none, builtins := 0 }), #[]⟩
noncomputable def o549 (P : Params) : Obj := ⟨(.type "tuple"), none, (.seq #[(T "self" 935)] 0), #[]⟩
noncomputable def o551 (P : Params) : Obj := ⟨.none, none, (.func { name := s "mean", qualname := s "RttEstimate.mean", params := fP (me 25 2), body := .stmts (fB (me 25 2)), scope := fS (me 25 2), globals := 0, closure := [], defaults := .none, kwdefaults := .none, doc := .none, pyModule := .none, annotations := none, code := .none, closureTuple := .none, builtins := 0 }), #[]⟩
noncomputable def o552 (P : Params) : Obj := ⟨(.type "code"), none, (.fields #[(T "mean" 932), (T "RttEstimate.mean" 933), (T "/claim/cut.py" 934), (Z 389 0), (Z 1 0), (Z 0 0), (Z 0 0), (Z 3 0), (.ref 547), (.bool true), (Z 181 0), (.ref 548), .none, (.ref 549), (.ref 550), (.ref 551), (Z 936 0), (Z 389 0), (T "/claim/cut.py" 937)]), #[]⟩
noncomputable def o553 (P : Params) : Obj := ⟨(.type "function"), none, (.func { name := s "mean", qualname := s "RttEstimate.mean", params := fP (me 25 2), body := .stmts (fB (me 25 2)), scope := fS (me 25 2), globals := 3, closure := [], defaults := .none, kwdefaults := .none, doc := .none, pyModule := (T "thinstack.rtt" 899), annotations := none, code := (.ref 552), closureTuple := .none, builtins := 0 }), #[]⟩
noncomputable def o556 (P : Params) : Obj := ⟨(.type "tuple"), none, (.seq #[(T "self" 942)] 0), #[]⟩
noncomputable def o558 (P : Params) : Obj := ⟨.none, none, (.func { name := s "plain_timeout", qualname := s "RttEstimate.plain_timeout", params := fP (me 25 3), body := .stmts (fB (me 25 3)), scope := fS (me 25 3), globals := 0, closure := [], defaults := .none, kwdefaults := .none, doc := .none, pyModule := .none, annotations := none, code := .none, closureTuple := .none, builtins := 0 }), #[]⟩
noncomputable def o559 (P : Params) : Obj := ⟨(.type "code"), none, (.fields #[(T "plain_timeout" 939), (T "RttEstimate.plain_timeout" 940), (T "/claim/cut.py" 941), (Z 392 0), (Z 1 0), (Z 0 0), (Z 0 0), (Z 3 0), (.ref 554), (.bool true), (Z 181 0), (.ref 555), .none, (.ref 556), (.ref 557), (.ref 558), (Z 943 0), (Z 392 0), (T "/claim/cut.py" 944)]), #[]⟩
noncomputable def o560 (P : Params) : Obj := ⟨(.type "function"), none, (.func { name := s "plain_timeout", qualname := s "RttEstimate.plain_timeout", params := fP (me 25 3), body := .stmts (fB (me 25 3)), scope := fS (me 25 3), globals := 3, closure := [], defaults := .none, kwdefaults := .none, doc := .none, pyModule := (T "thinstack.rtt" 899), annotations := none, code := (.ref 559), closureTuple := .none, builtins := 0 }), #[]⟩
noncomputable def o563 (P : Params) : Obj := ⟨(.type "tuple"), none, (.seq #[(T "self" 949)] 0), #[]⟩
noncomputable def o565 (P : Params) : Obj := ⟨.none, none, (.func { name := s "timeout", qualname := s "RttEstimate.timeout", params := fP (me 25 4), body := .stmts (fB (me 25 4)), scope := fS (me 25 4), globals := 0, closure := [], defaults := .none, kwdefaults := .none, doc := .none, pyModule := .none, annotations := none, code := .none, closureTuple := .none, builtins := 0 }), #[]⟩
noncomputable def o566 (P : Params) : Obj := ⟨(.type "code"), none, (.fields #[(T "timeout" 946), (T "RttEstimate.timeout" 947), (T "/claim/cut.py" 948), (Z 397 0), (Z 1 0), (Z 0 0), (Z 0 0), (Z 3 0), (.ref 561), (.bool true), (Z 181 0), (.ref 562), .none, (.ref 563), (.ref 564), (.ref 565), (Z 950 0), (Z 397 0), (T "/claim/cut.py" 951)]), #[]⟩
noncomputable def o567 (P : Params) : Obj := ⟨(.type "function"), none, (.func { name := s "timeout", qualname := s "RttEstimate.timeout", params := fP (me 25 4), body := .stmts (fB (me 25 4)), scope := fS (me 25 4), globals := 3, closure := [], defaults := .none, kwdefaults := .none, doc := .none, pyModule := (T "thinstack.rtt" 899), annotations := none, code := (.ref 566), closureTuple := .none, builtins := 0 }), #[]⟩
noncomputable def o570 (P : Params) : Obj := ⟨(.type "tuple"), none, (.seq #[(T "self" 956), (T "ticks" 957)] 0), #[]⟩
noncomputable def o572 (P : Params) : Obj := ⟨.none, none, (.func { name := s "bounded", qualname := s "RttEstimate.bounded", params := fP (me 25 5), body := .stmts (fB (me 25 5)), scope := fS (me 25 5), globals := 0, closure := [], defaults := .none, kwdefaults := .none, doc := .none, pyModule := .none, annotations := none, code := .none, closureTuple := .none, builtins := 0 }), #[]⟩
noncomputable def o573 (P : Params) : Obj := ⟨(.type "code"), none, (.fields #[(T "bounded" 953), (T "RttEstimate.bounded" 954), (T "/claim/cut.py" 955), (Z 400 0), (Z 2 0), (Z 0 0), (Z 0 0), (Z 3 0), (.ref 568), (.bool true), (Z 181 0), (.ref 569), .none, (.ref 570), (.ref 571), (.ref 572), (Z 958 0), (Z 400 0), (T "/claim/cut.py" 959)]), #[]⟩
noncomputable def o574 (P : Params) : Obj := ⟨(.type "function"), none, (.func { name := s "bounded", qualname := s "RttEstimate.bounded", params := fP (me 25 5), body := .stmts (fB (me 25 5)), scope := fS (me 25 5), globals := 3, closure := [], defaults := .none, kwdefaults := .none, doc := .none, pyModule := (T "thinstack.rtt" 899), annotations := none, code := (.ref 573), closureTuple := .none, builtins := 0 }), #[]⟩
noncomputable def o575 (P : Params) : Obj := ⟨(.type "tuple"), none, (.seq #[(T "first" 961), (T "least" 962), (T "mean8" 963), (T "measured" 964), (T "most" 965), (T "spread4" 966)] 0), #[]⟩
noncomputable def o576 (P : Params) : Obj := ⟨(.type "dict"), none, (.dict #[e P "__module__" 908 (T "thinstack.rtt" 899), e P "__firstlineno__" 912 (Z 367 911), e P "__init__" 922 (.ref 539), e P "sample" 931 (.ref 546), e P "mean" 938 (.ref 553), e P "plain_timeout" 945 (.ref 560), e P "timeout" 952 (.ref 567), e P "bounded" 960 (.ref 574), e P "__static_attributes__" 967 (.ref 575), e P "__dict__" 969 (.ref 578), e P "__weakref__" 971 (.ref 579), e P "__doc__" 972 .none] 4), #[]⟩
noncomputable def o577 (P : Params) : Obj := ⟨(.type "type"), none, (.cls { name := s "RttEstimate", bases := [(.type "object")], mro := [(.ref 577), (.type "object")], ns := 576, qualname := s "RttEstimate", hasDict := true, slotNames := [], subclasses := [], abstract := false, collection := none, hasDel := false }), #[none, none, (some (T "RttEstimate" 901)), (some (T "RttEstimate" 909)), (some (.builtin "object.__new__")), (some (.bool true))]⟩
noncomputable def o578 (P : Params) : Obj := ⟨(.type "getset_descriptor"), none, (.fields #[(T "__dict__" 968), (.ref 577), (.builtin "function.__dict__"), (.builtin "function.__dict__#set")]), #[]⟩
noncomputable def o579 (P : Params) : Obj := ⟨(.type "getset_descriptor"), none, (.fields #[(T "__weakref__" 970), (.ref 577), (.builtin "ExceptionGroup.__weakref__"), .none]), #[]⟩
noncomputable def o580 (P : Params) : Obj := ⟨(.type "super"), none, (.fields #[(.ref 577), (.ref 577), (.ref 577)]), #[]⟩
noncomputable def o581 (P : Params) : Obj := ⟨(.type "builtin_function_or_method"), none, (.fields #[(.builtin "object.__init_subclass__"), (.ref 577)]), #[]⟩
noncomputable def o582 (P : Params) : Obj := ⟨(.type "tuple"), none, (.seq #[(.type "Exception")] 0), #[]⟩
noncomputable def o583 (P : Params) : Obj := ⟨(.type "builtin_function_or_method"), none, (.fields #[(.builtin "type.__prepare__"), (.type "type")]), #[]⟩
noncomputable def o584 (P : Params) : Obj := ⟨(.type "dict"), none, (.dict #[e P "__module__" 984 (T "thinstack.errors" 975), e P "__qualname__" 986 (T "StackError" 985), e P "__firstlineno__" 988 (Z 405 987), e P "__init__" 996 (.ref 595), e P "__static_attributes__" 998 (.ref 596)] 5), #[]⟩
noncomputable def o586 (P : Params) : Obj := ⟨.none, none, (.fields #[(Z 407 0), (Z 4 0), (.ref 594)]), #[]⟩
noncomputable def o587 (P : Params) : Obj := ⟨(.type "code"), none, (.fields #[(T "StackError" 979), (T "StackError" 980), (T "/claim/cut.py" 981), (Z 405 0), (Z 0 0), (Z 0 0), (Z 0 0), (Z 0 0), (.ref 585), (.bool false), (Z 181 0), (.ref 586), .none, .none, .none, .none, (Z 982 0), (Z 405 0), (T "/claim/cut.py" 983)]), #[]⟩
noncomputable def o588 (P : Params) : Obj := ⟨(.type "frame"), none, .plain, #[(some (.ref 587)), (some (.ref 3)), (some (.ref 584)), none, (some (T "thinstack.errors" 975)), none, (some (.ref 0))]⟩
noncomputable def o591 (P : Params) : Obj := ⟨(.type "tuple"), none, (.seq #[(T "self" 992), (T "message" 993)] 0), #[]⟩
noncomputable def o593 (P : Params) : Obj := ⟨.none, none, (.func { name := s "__init__", qualname := s "StackError.__init__", params := fP (me 27 0), body := .stmts (fB (me 27 0)), scope := fS (me 27 0), globals := 0, closure := [], defaults := .none, kwdefaults := .none, doc := .none, pyModule := .none, annotations := none, code := .none, closureTuple := .none, builtins := 0 }), #[]⟩
noncomputable def o594 (P : Params) : Obj := ⟨(.type "code"), none, (.fields #[(T "__init__" 989), (T "StackError.__init__" 990), (T "/claim/cut.py" 991), (Z 407 0), (Z 2 0), (Z 0 0), (Z 0 0), (Z 3 0), (.ref 589), (.bool true), (Z 181 0), (.ref 590), .none, (.ref 591), (.ref 592), (.ref 593), (Z 994 0), (Z 407 0), (T "/claim/cut.py" 995)]), #[]⟩
noncomputable def o595 (P : Params) : Obj := ⟨(.type "function"), none, (.func { name := s "__init__", qualname := s "StackError.__init__", params := fP (me 27 0), body := .stmts (fB (me 27 0)), scope := fS (me 27 0), globals := 3, closure := [], defaults := .none, kwdefaults := .none, doc := .none, pyModule := (T "thinstack.errors" 975), annotations := none, code := (.ref 594), closureTuple := .none, builtins := 0 }), #[]⟩
noncomputable def o596 (P : Params) : Obj := ⟨(.type "tuple"), none, (.seq #[(T "message" 997)] 0), #[]⟩
noncomputable def o597 (P : Params) : Obj := ⟨(.type "dict"), none, (.dict #[e P "__module__" 984 (T "thinstack.errors" 975), e P "__firstlineno__" 988 (Z 405 987), e P "__init__" 996 (.ref 595), e P "__static_attributes__" 998 (.ref 596), e P "__weakref__" 1000 (.ref 599), e P "__doc__" 1001 .none] 3), #[]⟩
noncomputable def o598 (P : Params) : Obj := ⟨(.type "type"), none, (.cls { name := s "StackError", bases := [(.type "Exception")], mro := [(.ref 598), (.type "Exception"), (.type "BaseException"), (.type "object")], ns := 597, qualname := s "StackError", hasDict := true, slotNames := [], subclasses := [(.ref 611), (.ref 623)], abstract := false, collection := none, hasDel := false }), #[(some (.ref 582)), none, (some (T "StackError" 977)), (some (T "StackError" 985)), (some (.builtin "Exception.__new__")), (some (.bool true))]⟩
noncomputable def o599 (P : Params) : Obj := ⟨(.type "getset_descriptor"), none, (.fields #[(T "__weakref__" 999), (.ref 598), (.builtin "ExceptionGroup.__weakref__"), .none]), #[]⟩
noncomputable def o600 (P : Params) : Obj := ⟨(.type "super"), none, (.fields #[(.ref 598), (.ref 598), (.ref 598)]), #[]⟩
noncomputable def o601 (P : Params) : Obj := ⟨(.type "builtin_function_or_method"), none, (.fields #[(.builtin "object.__init_subclass__"), (.ref 598)]), #[]⟩
noncomputable def o602 (P : Params) : Obj := ⟨(.type "tuple"), none, (.seq #[(.ref 598)] 0), #[]⟩
noncomputable def o603 (P : Params) : Obj := ⟨(.type "builtin_function_or_method"), none, (.fields #[(.builtin "type.__prepare__"), (.type "type")]), #[]⟩
noncomputable def o604 (P : Params) : Obj := ⟨(.type "dict"), none, (.dict #[e P "__module__" 1013 (T "thinstack.errors" 975), e P "__qualname__" 1015 (T "SizeError" 1014), e P "__firstlineno__" 1017 (Z 409 1016), e P "__static_attributes__" 1018 (.ref 609)] 4), #[]⟩
noncomputable def o607 (P : Params) : Obj := ⟨(.type "code"), none, (.fields #[(T "SizeError" 1008), (T "SizeError" 1009), (T "/claim/cut.py" 1010), (Z 409 0), (Z 0 0), (Z 0 0), (Z 0 0), (Z 0 0), (.ref 605), (.bool false), (Z 181 0), (.ref 606), .none, .none, .none, .none, (Z 1011 0), (Z 409 0), (T "/claim/cut.py" 1012)]), #[]⟩
noncomputable def o608 (P : Params) : Obj := ⟨(.type "frame"), none, .plain, #[(some (.ref 607)), (some (.ref 3)), (some (.ref 604)), none, (some (T "thinstack.errors" 975)), none, (some (.ref 0))]⟩
noncomputable def o610 (P : Params) : Obj := ⟨(.type "dict"), none, (.dict #[e P "__module__" 1013 (T "thinstack.errors" 975), e P "__firstlineno__" 1017 (Z 409 1016), e P "__static_attributes__" 1018 (.ref 609), e P "__doc__" 1019 .none] 2), #[]⟩
noncomputable def o611 (P : Params) : Obj := ⟨(.type "type"), none, (.cls { name := s "SizeError", bases := [(.ref 598)], mro := [(.ref 611), (.ref 598), (.type "Exception"), (.type "BaseException"), (.type "object")], ns := 610, qualname := s "SizeError", hasDict := true, slotNames := [], subclasses := [], abstract := false, collection := none, hasDel := false }), #[(some (.ref 602)), none, (some (T "SizeError" 1006)), (some (T "SizeError" 1014)), (some (.builtin "Exception.__new__")), (some (.bool true))]⟩
noncomputable def o612 (P : Params) : Obj := ⟨(.type "super"), none, (.fields #[(.ref 611), (.ref 611), (.ref 611)]), #[]⟩
noncomputable def o613 (P : Params) : Obj := ⟨(.type "builtin_function_or_method"), none, (.fields #[(.builtin "object.__init_subclass__"), (.ref 611)]), #[]⟩
noncomputable def o614 (P : Params) : Obj := ⟨(.type "tuple"), none, (.seq #[(.ref 598)] 0), #[]⟩
noncomputable def o615 (P : Params) : Obj := ⟨(.type "builtin_function_or_method"), none, (.fields #[(.builtin "type.__prepare__"), (.type "type")]), #[]⟩
noncomputable def o616 (P : Params) : Obj := ⟨(.type "dict"), none, (.dict #[e P "__module__" 1029 (T "thinstack.errors" 975), e P "__qualname__" 1031 (T "StateError" 1030), e P "__firstlineno__" 1033 (Z 411 1032), e P "__static_attributes__" 1034 (.ref 621)] 4), #[]⟩
noncomputable def o619 (P : Params) : Obj := ⟨(.type "code"), none, (.fields #[(T "StateError" 1024), (T "StateError" 1025), (T "/claim/cut.py" 1026), (Z 411 0), (Z 0 0), (Z 0 0), (Z 0 0), (Z 0 0), (.ref 617), (.bool false), (Z 181 0), (.ref 618), .none, .none, .none, .none, (Z 1027 0), (Z 411 0), (T "/claim/cut.py" 1028)]), #[]⟩
noncomputable def o620 (P : Params) : Obj := ⟨(.type "frame"), none, .plain, #[(some (.ref 619)), (some (.ref 3)), (some (.ref 616)), none, (some (T "thinstack.errors" 975)), none, (some (.ref 0))]⟩
noncomputable def o622 (P : Params) : Obj := ⟨(.type "dict"), none, (.dict #[e P "__module__" 1029 (T "thinstack.errors" 975), e P "__firstlineno__" 1033 (Z 411 1032), e P "__static_attributes__" 1034 (.ref 621), e P "__doc__" 1035 .none] 2), #[]⟩
noncomputable def o623 (P : Params) : Obj := ⟨(.type "type"), none, (.cls { name := s "StateError", bases := [(.ref 598)], mro := [(.ref 623), (.ref 598), (.type "Exception"), (.type "BaseException"), (.type "object")], ns := 622, qualname := s "StateError", hasDict := true, slotNames := [], subclasses := [], abstract := false, collection := none, hasDel := false }), #[(some (.ref 614)), none, (some (T "StateError" 1022)), (some (T "StateError" 1030)), (some (.builtin "Exception.__new__")), (some (.bool true))]⟩
noncomputable def o624 (P : Params) : Obj := ⟨(.type "super"), none, (.fields #[(.ref 623), (.ref 623), (.ref 623)]), #[]⟩
noncomputable def o625 (P : Params) : Obj := ⟨(.type "builtin_function_or_method"), none, (.fields #[(.builtin "object.__init_subclass__"), (.ref 623)]), #[]⟩
noncomputable def o627 (P : Params) : Obj := ⟨(.type "builtin_function_or_method"), none, (.fields #[(.builtin "type.__prepare__"), (.type "type")]), #[]⟩
noncomputable def o628 (P : Params) : Obj := ⟨(.type "dict"), none, (.dict #[e P "__module__" 1047 (T "thinstack.send_queue" 1038), e P "__qualname__" 1049 (T "SendQueue" 1048), e P "__firstlineno__" 1051 (Z 414 1050), e P "__init__" 1059 (.ref 639), e P "size" 1066 (.ref 646), e P "room_left" 1073 (.ref 653), e P "put" 1082 (.ref 660), e P "part" 1091 (.ref 667), e P "drop" 1099 (.ref 674), e P "__static_attributes__" 1102 (.ref 675)] 10), #[]⟩
noncomputable def o630 (P : Params) : Obj := ⟨.none, none, (.fields #[(Z 416 0), (Z 4 0), (.ref 638), (Z 422 0), (Z 4 0), (.ref 645), (Z 425 0), (Z 4 0), (.ref 652), (Z 428 0), (Z 4 0), (.ref 659), (Z 433 0), (Z 4 0), (.ref 666), (Z 438 0), (Z 4 0), (.ref 673)]), #[]⟩
noncomputable def o631 (P : Params) : Obj := ⟨(.type "code"), none, (.fields #[(T "SendQueue" 1042), (T "SendQueue" 1043), (T "/claim/cut.py" 1044), (Z 414 0), (Z 0 0), (Z 0 0), (Z 0 0), (Z 0 0), (.ref 629), (.bool false), (Z 181 0), (.ref 630), .none, .none, .none, .none, (Z 1045 0), (Z 414 0), (T "/claim/cut.py" 1046)]), #[]⟩
noncomputable def o632 (P : Params) : Obj := ⟨(.type "frame"), none, .plain, #[(some (.ref 631)), (some (.ref 3)), (some (.ref 628)), none, (some (T "thinstack.send_queue" 1038)), none, (some (.ref 0))]⟩
noncomputable def o635 (P : Params) : Obj := ⟨(.type "tuple"), none, (.seq #[(T "self" 1055), (T "room" 1056)] 0), #[]⟩
noncomputable def o637 (P : Params) : Obj := ⟨.none, none, (.func { name := s "__init__", qualname := s "SendQueue.__init__", params := fP (me 31 0), body := .stmts (fB (me 31 0)), scope := fS (me 31 0), globals := 0, closure := [], defaults := .none, kwdefaults := .none, doc := .none, pyModule := .none, annotations := none, code := .none, closureTuple := .none, builtins := 0 }), #[]⟩
noncomputable def o638 (P : Params) : Obj := ⟨(.type "code"), none, (.fields #[(T "__init__" 1052), (T "SendQueue.__init__" 1053), (T "/claim/cut.py" 1054), (Z 416 0), (Z 2 0), (Z 0 0), (Z 0 0), (Z 3 0), (.ref 633), (.bool true), (Z 181 0), (.ref 634), .none, (.ref 635), (.ref 636), (.ref 637), (Z 1057 0), (Z 416 0), (T "/claim/cut.py" 1058)]), #[]⟩
noncomputable def o639 (P : Params) : Obj := ⟨(.type "function"), none, (.func { name := s "__init__", qualname := s "SendQueue.__init__", params := fP (me 31 0), body := .stmts (fB (me 31 0)), scope := fS (me 31 0), globals := 3, closure := [], defaults := .none, kwdefaults := .none, doc := .none, pyModule := (T "thinstack.send_queue" 1038), annotations := none, code := (.ref 638), closureTuple := .none, builtins := 0 }), #[]⟩
noncomputable def o642 (P : Params) : Obj := ⟨(.type "tuple"), none, (.seq #[(T "self" 1063)] 0), #[]⟩
noncomputable def o644 (P : Params) : Obj := ⟨.none, none, (.func { name := s "size", qualname := s "SendQueue.size", params := fP (me 31 1), body := .stmts (fB (me 31 1)), scope := fS (me 31 1), globals := 0, closure := [], defaults := .none, kwdefaults := .none, doc := .none, pyModule := .none, annotations := none, code := .none, closureTuple := .none, builtins := 0 }), #[]⟩
noncomputable def o645 (P : Params) : Obj := ⟨(.type "code"), none, (.fields #[(T "size" 1060), (T "SendQueue.size" 1061), (T "/claim/cut.py" 1062), (Z 422 0), (Z 1 0), (Z 0 0), (Z 0 0), (Z 3 0), (.ref 640), (.bool true), (Z 181 0), (.ref 641), .none, (.ref 642), (.ref 643), (.ref 644), (Z 1064 0), (Z 422 0), (T "/claim/cut.py" 1065)]), #[]⟩
noncomputable def o646 (P : Params) : Obj := ⟨(.type "function"), none, (.func { name := s "size", qualname := s "SendQueue.size", params := fP (me 31 1), body := .stmts (fB (me 31 1)), scope := fS (me 31 1), globals := 3, closure := [], defaults := .none, kwdefaults := .none, doc := .none, pyModule := (T "thinstack.send_queue" 1038), annotations := none, code := (.ref 645), closureTuple := .none, builtins := 0 }), #[]⟩
noncomputable def o649 (P : Params) : Obj := ⟨(.type "tuple"), none, (.seq #[(T "self" 1070)] 0), #[]⟩
noncomputable def o651 (P : Params) : Obj := ⟨.none, none, (.func { name := s "room_left", qualname := s "SendQueue.room_left", params := fP (me 31 2), body := .stmts (fB (me 31 2)), scope := fS (me 31 2), globals := 0, closure := [], defaults := .none, kwdefaults := .none, doc := .none, pyModule := .none, annotations := none, code := .none, closureTuple := .none, builtins := 0 }), #[]⟩
noncomputable def o652 (P : Params) : Obj := ⟨(.type "code"), none, (.fields #[(T "room_left" 1067), (T "SendQueue.room_left" 1068), (T "/claim/cut.py" 1069), (Z 425 0), (Z 1 0), (Z 0 0), (Z 0 0), (Z 3 0), (.ref 647), (.bool true), (Z 181 0), (.ref 648), .none, (.ref 649), (.ref 650), (.ref 651), (Z 1071 0), (Z 425 0), (T "/claim/cut.py" 1072)]), #[]⟩
noncomputable def o653 (P : Params) : Obj := ⟨(.type "function"), none, (.func { name := s "room_left", qualname := s "SendQueue.room_left", params := fP (me 31 2), body := .stmts (fB (me 31 2)), scope := fS (me 31 2), globals := 3, closure := [], defaults := .none, kwdefaults := .none, doc := .none, pyModule := (T "thinstack.send_queue" 1038), annotations := none, code := (.ref 652), closureTuple := .none, builtins := 0 }), #[]⟩
noncomputable def o656 (P : Params) : Obj := ⟨(.type "tuple"), none, (.seq #[(T "self" 1077), (T "octets" 1078), (T "taken" 1079)] 0), #[]⟩
noncomputable def o658 (P : Params) : Obj := ⟨.none, none, (.func { name := s "put", qualname := s "SendQueue.put", params := fP (me 31 3), body := .stmts (fB (me 31 3)), scope := fS (me 31 3), globals := 0, closure := [], defaults := .none, kwdefaults := .none, doc := .none, pyModule := .none, annotations := none, code := .none, closureTuple := .none, builtins := 0 }), #[]⟩
noncomputable def o659 (P : Params) : Obj := ⟨(.type "code"), none, (.fields #[(T "put" 1074), (T "SendQueue.put" 1075), (T "/claim/cut.py" 1076), (Z 428 0), (Z 2 0), (Z 0 0), (Z 0 0), (Z 3 0), (.ref 654), (.bool true), (Z 181 0), (.ref 655), .none, (.ref 656), (.ref 657), (.ref 658), (Z 1080 0), (Z 428 0), (T "/claim/cut.py" 1081)]), #[]⟩
noncomputable def o660 (P : Params) : Obj := ⟨(.type "function"), none, (.func { name := s "put", qualname := s "SendQueue.put", params := fP (me 31 3), body := .stmts (fB (me 31 3)), scope := fS (me 31 3), globals := 3, closure := [], defaults := .none, kwdefaults := .none, doc := .none, pyModule := (T "thinstack.send_queue" 1038), annotations := none, code := (.ref 659), closureTuple := .none, builtins := 0 }), #[]⟩
noncomputable def o663 (P : Params) : Obj := ⟨(.type "tuple"), none, (.seq #[(T "self" 1086), (T "at" 1087), (T "many" 1088)] 0), #[]⟩
noncomputable def o665 (P : Params) : Obj := ⟨.none, none, (.func { name := s "part", qualname := s "SendQueue.part", params := fP (me 31 4), body := .stmts (fB (me 31 4)), scope := fS (me 31 4), globals := 0, closure := [], defaults := .none, kwdefaults := .none, doc := .none, pyModule := .none, annotations := none, code := .none, closureTuple := .none, builtins := 0 }), #[]⟩
noncomputable def o666 (P : Params) : Obj := ⟨(.type "code"), none, (.fields #[(T "part" 1083), (T "SendQueue.part" 1084), (T "/claim/cut.py" 1085), (Z 433 0), (Z 3 0), (Z 0 0), (Z 0 0), (Z 3 0), (.ref 661), (.bool true), (Z 181 0), (.ref 662), .none, (.ref 663), (.ref 664), (.ref 665), (Z 1089 0), (Z 433 0), (T "/claim/cut.py" 1090)]), #[]⟩
noncomputable def o667 (P : Params) : Obj := ⟨(.type "function"), none, (.func { name := s "part", qualname := s "SendQueue.part", params := fP (me 31 4), body := .stmts (fB (me 31 4)), scope := fS (me 31 4), globals := 3, closure := [], defaults := .none, kwdefaults := .none, doc := .none, pyModule := (T "thinstack.send_queue" 1038), annotations := none, code := (.ref 666), closureTuple := .none, builtins := 0 }), #[]⟩
noncomputable def o670 (P : Params) : Obj := ⟨(.type "tuple"), none, (.seq #[(T "self" 1095), (T "many" 1096)] 0), #[]⟩
noncomputable def o672 (P : Params) : Obj := ⟨.none, none, (.func { name := s "drop", qualname := s "SendQueue.drop", params := fP (me 31 5), body := .stmts (fB (me 31 5)), scope := fS (me 31 5), globals := 0, closure := [], defaults := .none, kwdefaults := .none, doc := .none, pyModule := .none, annotations := none, code := .none, closureTuple := .none, builtins := 0 }), #[]⟩
noncomputable def o673 (P : Params) : Obj := ⟨(.type "code"), none, (.fields #[(T "drop" 1092), (T "SendQueue.drop" 1093), (T "/claim/cut.py" 1094), (Z 438 0), (Z 2 0), (Z 0 0), (Z 0 0), (Z 3 0), (.ref 668), (.bool true), (Z 181 0), (.ref 669), .none, (.ref 670), (.ref 671), (.ref 672), (Z 1097 0), (Z 438 0), (T "/claim/cut.py" 1098)]), #[]⟩
noncomputable def o674 (P : Params) : Obj := ⟨(.type "function"), none, (.func { name := s "drop", qualname := s "SendQueue.drop", params := fP (me 31 5), body := .stmts (fB (me 31 5)), scope := fS (me 31 5), globals := 3, closure := [], defaults := .none, kwdefaults := .none, doc := .none, pyModule := (T "thinstack.send_queue" 1038), annotations := none, code := (.ref 673), closureTuple := .none, builtins := 0 }), #[]⟩
noncomputable def o675 (P : Params) : Obj := ⟨(.type "tuple"), none, (.seq #[(T "held" 1100), (T "room" 1101)] 0), #[]⟩
noncomputable def o676 (P : Params) : Obj := ⟨(.type "dict"), none, (.dict #[e P "__module__" 1047 (T "thinstack.send_queue" 1038), e P "__firstlineno__" 1051 (Z 414 1050), e P "__init__" 1059 (.ref 639), e P "size" 1066 (.ref 646), e P "room_left" 1073 (.ref 653), e P "put" 1082 (.ref 660), e P "part" 1091 (.ref 667), e P "drop" 1099 (.ref 674), e P "__static_attributes__" 1102 (.ref 675), e P "__dict__" 1104 (.ref 678), e P "__weakref__" 1106 (.ref 679), e P "__doc__" 1107 .none] 4), #[]⟩
noncomputable def o677 (P : Params) : Obj := ⟨(.type "type"), none, (.cls { name := s "SendQueue", bases := [(.type "object")], mro := [(.ref 677), (.type "object")], ns := 676, qualname := s "SendQueue", hasDict := true, slotNames := [], subclasses := [], abstract := false, collection := none, hasDel := false }), #[none, none, (some (T "SendQueue" 1040)), (some (T "SendQueue" 1048)), (some (.builtin "object.__new__")), (some (.bool true))]⟩
noncomputable def o678 (P : Params) : Obj := ⟨(.type "getset_descriptor"), none, (.fields #[(T "__dict__" 1103), (.ref 677), (.builtin "function.__dict__"), (.builtin "function.__dict__#set")]), #[]⟩
noncomputable def o679 (P : Params) : Obj := ⟨(.type "getset_descriptor"), none, (.fields #[(T "__weakref__" 1105), (.ref 677), (.builtin "ExceptionGroup.__weakref__"), .none]), #[]⟩
noncomputable def o680 (P : Params) : Obj := ⟨(.type "super"), none, (.fields #[(.ref 677), (.ref 677), (.ref 677)]), #[]⟩
noncomputable def o681 (P : Params) : Obj := ⟨(.type "builtin_function_or_method"), none, (.fields #[(.builtin "object.__init_subclass__"), (.ref 677)]), #[]⟩
noncomputable def o683 (P : Params) : Obj := ⟨(.type "builtin_function_or_method"), none, (.fields #[(.builtin "type.__prepare__"), (.type "type")]), #[]⟩
noncomputable def o684 (P : Params) : Obj := ⟨(.type "dict"), none, (.dict #[e P "__module__" 1119 (T "thinstack.sender" 1110), e P "__qualname__" 1121 (T "PeerWindow" 1120), e P "__firstlineno__" 1123 (Z 443 1122), e P "__init__" 1131 (.ref 695), e P "is_newer" 1141 (.ref 702), e P "take" 1151 (.ref 709), e P "__static_attributes__" 1157 (.ref 710)] 7), #[]⟩
noncomputable def o686 (P : Params) : Obj := ⟨.none, none, (.fields #[(Z 445 0), (Z 4 0), (.ref 694), (Z 452 0), (Z 4 0), (.ref 701), (Z 460 0), (Z 4 0), (.ref 708)]), #[]⟩
noncomputable def o687 (P : Params) : Obj := ⟨(.type "code"), none, (.fields #[(T "PeerWindow" 1114), (T "PeerWindow" 1115), (T "/claim/cut.py" 1116), (Z 443 0), (Z 0 0), (Z 0 0), (Z 0 0), (Z 0 0), (.ref 685), (.bool false), (Z 181 0), (.ref 686), .none, .none, .none, .none, (Z 1117 0), (Z 443 0), (T "/claim/cut.py" 1118)]), #[]⟩
noncomputable def o688 (P : Params) : Obj := ⟨(.type "frame"), none, .plain, #[(some (.ref 687)), (some (.ref 3)), (some (.ref 684)), none, (some (T "thinstack.sender" 1110)), none, (some (.ref 0))]⟩
noncomputable def o691 (P : Params) : Obj := ⟨(.type "tuple"), none, (.seq #[(T "self" 1127), (T "ring" 1128)] 0), #[]⟩
noncomputable def o693 (P : Params) : Obj := ⟨.none, none, (.func { name := s "__init__", qualname := s "PeerWindow.__init__", params := fP (me 33 0), body := .stmts (fB (me 33 0)), scope := fS (me 33 0), globals := 0, closure := [], defaults := .none, kwdefaults := .none, doc := .none, pyModule := .none, annotations := none, code := .none, closureTuple := .none, builtins := 0 }), #[]⟩
noncomputable def o694 (P : Params) : Obj := ⟨(.type "code"), none, (.fields #[(T "__init__" 1124), (T "PeerWindow.__init__" 1125), (T "/claim/cut.py" 1126), (Z 445 0), (Z 2 0), (Z 0 0), (Z 0 0), (Z 3 0), (.ref 689), (.bool true), (Z 181 0), (.ref 690), .none, (.ref 691), (.ref 692), (.ref 693), (Z 1129 0), (Z 445 0), (T "/claim/cut.py" 1130)]), #[]⟩
noncomputable def o695 (P : Params) : Obj := ⟨(.type "function"), none, (.func { name := s "__init__", qualname := s "PeerWindow.__init__", params := fP (me 33 0), body := .stmts (fB (me 33 0)), scope := fS (me 33 0), globals := 3, closure := [], defaults := .none, kwdefaults := .none, doc := .none, pyModule := (T "thinstack.sender" 1110), annotations := none, code := (.ref 694), closureTuple := .none, builtins := 0 }), #[]⟩
noncomputable def o698 (P : Params) : Obj := ⟨(.type "tuple"), none, (.seq #[(T "self" 1135), (T "seq" 1136), (T "ack" 1137), (T "ahead" 1138)] 0), #[]⟩
noncomputable def o700 (P : Params) : Obj := ⟨.none, none, (.func { name := s "is_newer", qualname := s "PeerWindow.is_newer", params := fP (me 33 1), body := .stmts (fB (me 33 1)), scope := fS (me 33 1), globals := 0, closure := [], defaults := .none, kwdefaults := .none, doc := .none, pyModule := .none, annotations := none, code := .none, closureTuple := .none, builtins := 0 }), #[]⟩
noncomputable def o701 (P : Params) : Obj := ⟨(.type "code"), none, (.fields #[(T "is_newer" 1132), (T "PeerWindow.is_newer" 1133), (T "/claim/cut.py" 1134), (Z 452 0), (Z 3 0), (Z 0 0), (Z 0 0), (Z 3 0), (.ref 696), (.bool true), (Z 181 0), (.ref 697), .none, (.ref 698), (.ref 699), (.ref 700), (Z 1139 0), (Z 452 0), (T "/claim/cut.py" 1140)]), #[]⟩
noncomputable def o702 (P : Params) : Obj := ⟨(.type "function"), none, (.func { name := s "is_newer", qualname := s "PeerWindow.is_newer", params := fP (me 33 1), body := .stmts (fB (me 33 1)), scope := fS (me 33 1), globals := 3, closure := [], defaults := .none, kwdefaults := .none, doc := .none, pyModule := (T "thinstack.sender" 1110), annotations := none, code := (.ref 701), closureTuple := .none, builtins := 0 }), #[]⟩
noncomputable def o705 (P : Params) : Obj := ⟨(.type "tuple"), none, (.seq #[(T "self" 1145), (T "seq" 1146), (T "ack" 1147), (T "size" 1148)] 0), #[]⟩
noncomputable def o707 (P : Params) : Obj := ⟨.none, none, (.func { name := s "take", qualname := s "PeerWindow.take", params := fP (me 33 2), body := .stmts (fB (me 33 2)), scope := fS (me 33 2), globals := 0, closure := [], defaults := .none, kwdefaults := .none, doc := .none, pyModule := .none, annotations := none, code := .none, closureTuple := .none, builtins := 0 }), #[]⟩
noncomputable def o708 (P : Params) : Obj := ⟨(.type "code"), none, (.fields #[(T "take" 1142), (T "PeerWindow.take" 1143), (T "/claim/cut.py" 1144), (Z 460 0), (Z 4 0), (Z 0 0), (Z 0 0), (Z 3 0), (.ref 703), (.bool true), (Z 181 0), (.ref 704), .none, (.ref 705), (.ref 706), (.ref 707), (Z 1149 0), (Z 460 0), (T "/claim/cut.py" 1150)]), #[]⟩
noncomputable def o709 (P : Params) : Obj := ⟨(.type "function"), none, (.func { name := s "take", qualname := s "PeerWindow.take", params := fP (me 33 2), body := .stmts (fB (me 33 2)), scope := fS (me 33 2), globals := 3, closure := [], defaults := .none, kwdefaults := .none, doc := .none, pyModule := (T "thinstack.sender" 1110), annotations := none, code := (.ref 708), closureTuple := .none, builtins := 0 }), #[]⟩
noncomputable def o710 (P : Params) : Obj := ⟨(.type "tuple"), none, (.seq #[(T "most" 1152), (T "ring" 1153), (T "size" 1154), (T "told_ack" 1155), (T "told_seq" 1156)] 0), #[]⟩
noncomputable def o711 (P : Params) : Obj := ⟨(.type "dict"), none, (.dict #[e P "__module__" 1119 (T "thinstack.sender" 1110), e P "__firstlineno__" 1123 (Z 443 1122), e P "__init__" 1131 (.ref 695), e P "is_newer" 1141 (.ref 702), e P "take" 1151 (.ref 709), e P "__static_attributes__" 1157 (.ref 710), e P "__dict__" 1159 (.ref 713), e P "__weakref__" 1161 (.ref 714), e P "__doc__" 1162 .none] 4), #[]⟩
noncomputable def o712 (P : Params) : Obj := ⟨(.type "type"), none, (.cls { name := s "PeerWindow", bases := [(.type "object")], mro := [(.ref 712), (.type "object")], ns := 711, qualname := s "PeerWindow", hasDict := true, slotNames := [], subclasses := [], abstract := false, collection := none, hasDel := false }), #[none, none, (some (T "PeerWindow" 1112)), (some (T "PeerWindow" 1120)), (some (.builtin "object.__new__")), (some (.bool true))]⟩
noncomputable def o713 (P : Params) : Obj := ⟨(.type "getset_descriptor"), none, (.fields #[(T "__dict__" 1158), (.ref 712), (.builtin "function.__dict__"), (.builtin "function.__dict__#set")]), #[]⟩
noncomputable def o714 (P : Params) : Obj := ⟨(.type "getset_descriptor"), none, (.fields #[(T "__weakref__" 1160), (.ref 712), (.builtin "ExceptionGroup.__weakref__"), .none]), #[]⟩
noncomputable def o715 (P : Params) : Obj := ⟨(.type "super"), none, (.fields #[(.ref 712), (.ref 712), (.ref 712)]), #[]⟩
noncomputable def o716 (P : Params) : Obj := ⟨(.type "builtin_function_or_method"), none, (.fields #[(.builtin "object.__init_subclass__"), (.ref 712)]), #[]⟩
noncomputable def o718 (P : Params) : Obj := ⟨(.type "builtin_function_or_method"), none, (.fields #[(.builtin "type.__prepare__"), (.type "type")]), #[]⟩
noncomputable def o719 (P : Params) : Obj := ⟨(.type "dict"), none, (.dict #[e P "__module__" 1172 (T "thinstack.sender" 1110), e P "__qualname__" 1174 (T "Sender" 1173), e P "__firstlineno__" 1176 (Z 468 1175), e P "__init__" 1187 (.ref 730), e P "window" 1195 (.ref 738), e P "take_window" 1205 (.ref 745), e P "put" 1213 (.ref 752), e P "ask_fin" 1220 (.ref 759), e P "flight" 1227 (.ref 766), e P "usable" 1235 (.ref 773), e P "data_sent" 1242 (.ref 780), e P "unsent" 1249 (.ref 787), e P "is_fin_due" 1257 (.ref 794), e P "is_fin_acked" 1264 (.ref 801), e P "is_all_acked" 1271 (.ref 808), e P "go_on" 1279 (.ref 815), e P "start" 1286 (.ref 822), e P "may_go" 1295 (.ref 829), e P "pieces" 1306 (.ref 837), e P "piece_of" 1319 (.ref 844), e P "ever_sent" 1326 (.ref 851), e P "first_piece" 1333 (.ref 858), e P "reach" 1341 (.ref 865), e P "back_to" 1349 (.ref 872), e P "is_idle_with_more" 1356 (.ref 879), e P "needs_probe" 1363 (.ref 886), e P "probe" 1370 (.ref 893), e P "acked" 1382 (.ref 900), e P "__static_attributes__" 1394 (.ref 901)] 29), #[]⟩
noncomputable def o721 (P : Params) : Obj := ⟨.none, none, (.fields #[(Z 470 0), (Z 4 0), (.ref 729), (Z 484 0), (Z 4 0), (.ref 736), (Z 487 0), (Z 4 0), (.ref 744), (Z 490 0), (Z 4 0), (.ref 751), (Z 495 0), (Z 4 0), (.ref 758), (Z 498 0), (Z 4 0), (.ref 765), (Z 501 0), (Z 4 0), (.ref 772), (Z 504 0), (Z 4 0), (.ref 779), (Z 507 0), (Z 4 0), (.ref 786), (Z 510 0), (Z 4 0), (.ref 793), (Z 514 0), (Z 4 0), (.ref 800), (Z 517 0), (Z 4 0), (.ref 807), (Z 520 0), (Z 4 0), (.ref 814), (Z 524 0), (Z 4 0), (.ref 821), (Z 531 0), (Z 4 0), (.ref 828), (Z 538 0), (Z 4 0), (.ref 836), (Z 553 0), (Z 4 0), (.ref 843), (Z 562 0), (Z 4 0), (.ref 850), (Z 565 0), (Z 4 0), (.ref 857), (Z 568 0), (Z 4 0), (.ref 864), (Z 571 0), (Z 4 0), (.ref 871), (Z 576 0), (Z 4 0), (.ref 878), (Z 579 0), (Z 4 0), (.ref 885), (Z 582 0), (Z 4 0), (.ref 892), (Z 585 0), (Z 4 0), (.ref 899)]), #[]⟩
noncomputable def o722 (P : Params) : Obj := ⟨(.type "code"), none, (.fields #[(T "Sender" 1167), (T "Sender" 1168), (T "/claim/cut.py" 1169), (Z 468 0), (Z 0 0), (Z 0 0), (Z 0 0), (Z 0 0), (.ref 720), (.bool false), (Z 181 0), (.ref 721), .none, .none, .none, .none, (Z 1170 0), (Z 468 0), (T "/claim/cut.py" 1171)]), #[]⟩
noncomputable def o723 (P : Params) : Obj := ⟨(.type "frame"), none, .plain, #[(some (.ref 722)), (some (.ref 3)), (some (.ref 719)), none, (some (T "thinstack.sender" 1110)), none, (some (.ref 0))]⟩
noncomputable def o726 (P : Params) : Obj := ⟨(.type "tuple"), none, (.seq #[(T "self" 1180), (T "iss" 1181), (T "ring" 1182), (T "mss" 1183), (T "room" 1184)] 0), #[]⟩
noncomputable def o728 (P : Params) : Obj := ⟨.none, none, (.func { name := s "__init__", qualname := s "Sender.__init__", params := fP (me 34 0), body := .stmts (fB (me 34 0)), scope := fS (me 34 0), globals := 0, closure := [], defaults := .none, kwdefaults := .none, doc := .none, pyModule := .none, annotations := none, code := .none, closureTuple := .none, builtins := 0 }), #[]⟩
noncomputable def o729 (P : Params) : Obj := ⟨(.type "code"), none, (.fields #[(T "__init__" 1177), (T "Sender.__init__" 1178), (T "/claim/cut.py" 1179), (Z 470 0), (Z 5 0), (Z 0 0), (Z 0 0), (Z 3 0), (.ref 724), (.bool true), (Z 181 0), (.ref 725), .none, (.ref 726), (.ref 727), (.ref 728), (Z 1185 0), (Z 470 0), (T "/claim/cut.py" 1186)]), #[]⟩
noncomputable def o730 (P : Params) : Obj := ⟨(.type "function"), none, (.func { name := s "__init__", qualname := s "Sender.__init__", params := fP (me 34 0), body := .stmts (fB (me 34 0)), scope := fS (me 34 0), globals := 3, closure := [], defaults := .none, kwdefaults := .none, doc := .none, pyModule := (T "thinstack.sender" 1110), annotations := none, code := (.ref 729), closureTuple := .none, builtins := 0 }), #[]⟩
noncomputable def o733 (P : Params) : Obj := ⟨(.type "tuple"), none, (.seq #[(T "self" 1191)] 0), #[]⟩
noncomputable def o735 (P : Params) : Obj := ⟨.none, none, (.func { name := s "window", qualname := s "Sender.window", params := fP (me 34 1), body := .stmts (fB (me 34 1)), scope := fS (me 34 1), globals := 0, closure := [], defaults := .none, kwdefaults := .none, doc := .none, pyModule := .none, annotations := none, code := .none, closureTuple := .none, builtins := 0 }), #[]⟩
noncomputable def o736 (P : Params) : Obj := ⟨(.type "code"), none, (.fields #[(T "window" 1188), (T "Sender.window" 1189), (T "/claim/cut.py" 1190), (Z 483 0), (Z 1 0), (Z 0 0), (Z 0 0), (Z 3 0), (.ref 731), (.bool true), (Z 181 0), (.ref 732), .none, (.ref 733), (.ref 734), (.ref 735), (Z 1192 0), (Z 483 0), (T "/claim/cut.py" 1193)]), #[]⟩
noncomputable def o737 (P : Params) : Obj := ⟨(.type "function"), none, (.func { name := s "window", qualname := s "Sender.window", params := fP (me 34 1), body := .stmts (fB (me 34 1)), scope := fS (me 34 1), globals := 3, closure := [], defaults := .none, kwdefaults := .none, doc := .none, pyModule := (T "thinstack.sender" 1110), annotations := none, code := (.ref 736), closureTuple := .none, builtins := 0 }), #[]⟩
noncomputable def o738 (P : Params) : Obj := ⟨(.type "property"), none, (.fields #[(.ref 737), .none, .none, .none, (T "window" 1195), (.bool false)]), #[]⟩
noncomputable def o741 (P : Params) : Obj := ⟨(.type "tuple"), none, (.seq #[(T "self" 1199), (T "seq" 1200), (T "ack" 1201), (T "window" 1202)] 0), #[]⟩
noncomputable def o743 (P : Params) : Obj := ⟨.none, none, (.func { name := s "take_window", qualname := s "Sender.take_window", params := fP (me 34 2), body := .stmts (fB (me 34 2)), scope := fS (me 34 2), globals := 0, closure := [], defaults := .none, kwdefaults := .none, doc := .none, pyModule := .none, annotations := none, code := .none, closureTuple := .none, builtins := 0 }), #[]⟩
noncomputable def o744 (P : Params) : Obj := ⟨(.type "code"), none, (.fields #[(T "take_window" 1196), (T "Sender.take_window" 1197), (T "/claim/cut.py" 1198), (Z 487 0), (Z 4 0), (Z 0 0), (Z 0 0), (Z 3 0), (.ref 739), (.bool true), (Z 181 0), (.ref 740), .none, (.ref 741), (.ref 742), (.ref 743), (Z 1203 0), (Z 487 0), (T "/claim/cut.py" 1204)]), #[]⟩
noncomputable def o745 (P : Params) : Obj := ⟨(.type "function"), none, (.func { name := s "take_window", qualname := s "Sender.take_window", params := fP (me 34 2), body := .stmts (fB (me 34 2)), scope := fS (me 34 2), globals := 3, closure := [], defaults := .none, kwdefaults := .none, doc := .none, pyModule := (T "thinstack.sender" 1110), annotations := none, code := (.ref 744), closureTuple := .none, builtins := 0 }), #[]⟩
noncomputable def o748 (P : Params) : Obj := ⟨(.type "tuple"), none, (.seq #[(T "self" 1209), (T "octets" 1210)] 0), #[]⟩
noncomputable def o750 (P : Params) : Obj := ⟨.none, none, (.func { name := s "put", qualname := s "Sender.put", params := fP (me 34 3), body := .stmts (fB (me 34 3)), scope := fS (me 34 3), globals := 0, closure := [], defaults := .none, kwdefaults := .none, doc := .none, pyModule := .none, annotations := none, code := .none, closureTuple := .none, builtins := 0 }), #[]⟩
noncomputable def o751 (P : Params) : Obj := ⟨(.type "code"), none, (.fields #[(T "put" 1206), (T "Sender.put" 1207), (T "/claim/cut.py" 1208), (Z 490 0), (Z 2 0), (Z 0 0), (Z 0 0), (Z 3 0), (.ref 746), (.bool true), (Z 181 0), (.ref 747), .none, (.ref 748), (.ref 749), (.ref 750), (Z 1211 0), (Z 490 0), (T "/claim/cut.py" 1212)]), #[]⟩
noncomputable def o752 (P : Params) : Obj := ⟨(.type "function"), none, (.func { name := s "put", qualname := s "Sender.put", params := fP (me 34 3), body := .stmts (fB (me 34 3)), scope := fS (me 34 3), globals := 3, closure := [], defaults := .none, kwdefaults := .none, doc := .none, pyModule := (T "thinstack.sender" 1110), annotations := none, code := (.ref 751), closureTuple := .none, builtins := 0 }), #[]⟩
noncomputable def o755 (P : Params) : Obj := ⟨(.type "tuple"), none, (.seq #[(T "self" 1217)] 0), #[]⟩
noncomputable def o757 (P : Params) : Obj := ⟨.none, none, (.func { name := s "ask_fin", qualname := s "Sender.ask_fin", params := fP (me 34 4), body := .stmts (fB (me 34 4)), scope := fS (me 34 4), globals := 0, closure := [], defaults := .none, kwdefaults := .none, doc := .none, pyModule := .none, annotations := none, code := .none, closureTuple := .none, builtins := 0 }), #[]⟩
noncomputable def o758 (P : Params) : Obj := ⟨(.type "code"), none, (.fields #[(T "ask_fin" 1214), (T "Sender.ask_fin" 1215), (T "/claim/cut.py" 1216), (Z 495 0), (Z 1 0), (Z 0 0), (Z 0 0), (Z 3 0), (.ref 753), (.bool true), (Z 181 0), (.ref 754), .none, (.ref 755), (.ref 756), (.ref 757), (Z 1218 0), (Z 495 0), (T "/claim/cut.py" 1219)]), #[]⟩
noncomputable def o759 (P : Params) : Obj := ⟨(.type "function"), none, (.func { name := s "ask_fin", qualname := s "Sender.ask_fin", params := fP (me 34 4), body := .stmts (fB (me 34 4)), scope := fS (me 34 4), globals := 3, closure := [], defaults := .none, kwdefaults := .none, doc := .none, pyModule := (T "thinstack.sender" 1110), annotations := none, code := (.ref 758), closureTuple := .none, builtins := 0 }), #[]⟩
noncomputable def o762 (P : Params) : Obj := ⟨(.type "tuple"), none, (.seq #[(T "self" 1224)] 0), #[]⟩
noncomputable def o764 (P : Params) : Obj := ⟨.none, none, (.func { name := s "flight", qualname := s "Sender.flight", params := fP (me 34 5), body := .stmts (fB (me 34 5)), scope := fS (me 34 5), globals := 0, closure := [], defaults := .none, kwdefaults := .none, doc := .none, pyModule := .none, annotations := none, code := .none, closureTuple := .none, builtins := 0 }), #[]⟩
noncomputable def o765 (P : Params) : Obj := ⟨(.type "code"), none, (.fields #[(T "flight" 1221), (T "Sender.flight" 1222), (T "/claim/cut.py" 1223), (Z 498 0), (Z 1 0), (Z 0 0), (Z 0 0), (Z 3 0), (.ref 760), (.bool true), (Z 181 0), (.ref 761), .none, (.ref 762), (.ref 763), (.ref 764), (Z 1225 0), (Z 498 0), (T "/claim/cut.py" 1226)]), #[]⟩
noncomputable def o766 (P : Params) : Obj := ⟨(.type "function"), none, (.func { name := s "flight", qualname := s "Sender.flight", params := fP (me 34 5), body := .stmts (fB (me 34 5)), scope := fS (me 34 5), globals := 3, closure := [], defaults := .none, kwdefaults := .none, doc := .none, pyModule := (T "thinstack.sender" 1110), annotations := none, code := (.ref 765), closureTuple := .none, builtins := 0 }), #[]⟩
noncomputable def o769 (P : Params) : Obj := ⟨(.type "tuple"), none, (.seq #[(T "self" 1231), (T "congestion_window" 1232)] 0), #[]⟩
noncomputable def o771 (P : Params) : Obj := ⟨.none, none, (.func { name := s "usable", qualname := s "Sender.usable", params := fP (me 34 6), body := .stmts (fB (me 34 6)), scope := fS (me 34 6), globals := 0, closure := [], defaults := .none, kwdefaults := .none, doc := .none, pyModule := .none, annotations := none, code := .none, closureTuple := .none, builtins := 0 }), #[]⟩
noncomputable def o772 (P : Params) : Obj := ⟨(.type "code"), none, (.fields #[(T "usable" 1228), (T "Sender.usable" 1229), (T "/claim/cut.py" 1230), (Z 501 0), (Z 2 0), (Z 0 0), (Z 0 0), (Z 3 0), (.ref 767), (.bool true), (Z 181 0), (.ref 768), .none, (.ref 769), (.ref 770), (.ref 771), (Z 1233 0), (Z 501 0), (T "/claim/cut.py" 1234)]), #[]⟩
noncomputable def o773 (P : Params) : Obj := ⟨(.type "function"), none, (.func { name := s "usable", qualname := s "Sender.usable", params := fP (me 34 6), body := .stmts (fB (me 34 6)), scope := fS (me 34 6), globals := 3, closure := [], defaults := .none, kwdefaults := .none, doc := .none, pyModule := (T "thinstack.sender" 1110), annotations := none, code := (.ref 772), closureTuple := .none, builtins := 0 }), #[]⟩
noncomputable def o776 (P : Params) : Obj := ⟨(.type "tuple"), none, (.seq #[(T "self" 1239)] 0), #[]⟩
noncomputable def o778 (P : Params) : Obj := ⟨.none, none, (.func { name := s "data_sent", qualname := s "Sender.data_sent", params := fP (me 34 7), body := .stmts (fB (me 34 7)), scope := fS (me 34 7), globals := 0, closure := [], defaults := .none, kwdefaults := .none, doc := .none, pyModule := .none, annotations := none, code := .none, closureTuple := .none, builtins := 0 }), #[]⟩
noncomputable def o779 (P : Params) : Obj := ⟨(.type "code"), none, (.fields #[(T "data_sent" 1236), (T "Sender.data_sent" 1237), (T "/claim/cut.py" 1238), (Z 504 0), (Z 1 0), (Z 0 0), (Z 0 0), (Z 3 0), (.ref 774), (.bool true), (Z 181 0), (.ref 775), .none, (.ref 776), (.ref 777), (.ref 778), (Z 1240 0), (Z 504 0), (T "/claim/cut.py" 1241)]), #[]⟩
noncomputable def o780 (P : Params) : Obj := ⟨(.type "function"), none, (.func { name := s "data_sent", qualname := s "Sender.data_sent", params := fP (me 34 7), body := .stmts (fB (me 34 7)), scope := fS (me 34 7), globals := 3, closure := [], defaults := .none, kwdefaults := .none, doc := .none, pyModule := (T "thinstack.sender" 1110), annotations := none, code := (.ref 779), closureTuple := .none, builtins := 0 }), #[]⟩
noncomputable def o783 (P : Params) : Obj := ⟨(.type "tuple"), none, (.seq #[(T "self" 1246)] 0), #[]⟩
noncomputable def o785 (P : Params) : Obj := ⟨.none, none, (.func { name := s "unsent", qualname := s "Sender.unsent", params := fP (me 34 8), body := .stmts (fB (me 34 8)), scope := fS (me 34 8), globals := 0, closure := [], defaults := .none, kwdefaults := .none, doc := .none, pyModule := .none, annotations := none, code := .none, closureTuple := .none, builtins := 0 }), #[]⟩
noncomputable def o786 (P : Params) : Obj := ⟨(.type "code"), none, (.fields #[(T "unsent" 1243), (T "Sender.unsent" 1244), (T "/claim/cut.py" 1245), (Z 507 0), (Z 1 0), (Z 0 0), (Z 0 0), (Z 3 0), (.ref 781), (.bool true), (Z 181 0), (.ref 782), .none, (.ref 783), (.ref 784), (.ref 785), (Z 1247 0), (Z 507 0), (T "/claim/cut.py" 1248)]), #[]⟩
noncomputable def o787 (P : Params) : Obj := ⟨(.type "function"), none, (.func { name := s "unsent", qualname := s "Sender.unsent", params := fP (me 34 8), body := .stmts (fB (me 34 8)), scope := fS (me 34 8), globals := 3, closure := [], defaults := .none, kwdefaults := .none, doc := .none, pyModule := (T "thinstack.sender" 1110), annotations := none, code := (.ref 786), closureTuple := .none, builtins := 0 }), #[]⟩
noncomputable def o790 (P : Params) : Obj := ⟨(.type "tuple"), none, (.seq #[(T "self" 1253), (T "room" 1254)] 0), #[]⟩
noncomputable def o792 (P : Params) : Obj := ⟨.none, none, (.func { name := s "is_fin_due", qualname := s "Sender.is_fin_due", params := fP (me 34 9), body := .stmts (fB (me 34 9)), scope := fS (me 34 9), globals := 0, closure := [], defaults := .none, kwdefaults := .none, doc := .none, pyModule := .none, annotations := none, code := .none, closureTuple := .none, builtins := 0 }), #[]⟩
noncomputable def o793 (P : Params) : Obj := ⟨(.type "code"), none, (.fields #[(T "is_fin_due" 1250), (T "Sender.is_fin_due" 1251), (T "/claim/cut.py" 1252), (Z 510 0), (Z 1 0), (Z 0 0), (Z 0 0), (Z 3 0), (.ref 788), (.bool true), (Z 181 0), (.ref 789), .none, (.ref 790), (.ref 791), (.ref 792), (Z 1255 0), (Z 510 0), (T "/claim/cut.py" 1256)]), #[]⟩
noncomputable def o794 (P : Params) : Obj := ⟨(.type "function"), none, (.func { name := s "is_fin_due", qualname := s "Sender.is_fin_due", params := fP (me 34 9), body := .stmts (fB (me 34 9)), scope := fS (me 34 9), globals := 3, closure := [], defaults := .none, kwdefaults := .none, doc := .none, pyModule := (T "thinstack.sender" 1110), annotations := none, code := (.ref 793), closureTuple := .none, builtins := 0 }), #[]⟩
noncomputable def o797 (P : Params) : Obj := ⟨(.type "tuple"), none, (.seq #[(T "self" 1261)] 0), #[]⟩
noncomputable def o799 (P : Params) : Obj := ⟨.none, none, (.func { name := s "is_fin_acked", qualname := s "Sender.is_fin_acked", params := fP (me 34 10), body := .stmts (fB (me 34 10)), scope := fS (me 34 10), globals := 0, closure := [], defaults := .none, kwdefaults := .none, doc := .none, pyModule := .none, annotations := none, code := .none, closureTuple := .none, builtins := 0 }), #[]⟩
noncomputable def o800 (P : Params) : Obj := ⟨(.type "code"), none, (.fields #[(T "is_fin_acked" 1258), (T "Sender.is_fin_acked" 1259), (T "/claim/cut.py" 1260), (Z 514 0), (Z 1 0), (Z 0 0), (Z 0 0), (Z 3 0), (.ref 795), (.bool true), (Z 181 0), (.ref 796), .none, (.ref 797), (.ref 798), (.ref 799), (Z 1262 0), (Z 514 0), (T "/claim/cut.py" 1263)]), #[]⟩
noncomputable def o801 (P : Params) : Obj := ⟨(.type "function"), none, (.func { name := s "is_fin_acked", qualname := s "Sender.is_fin_acked", params := fP (me 34 10), body := .stmts (fB (me 34 10)), scope := fS (me 34 10), globals := 3, closure := [], defaults := .none, kwdefaults := .none, doc := .none, pyModule := (T "thinstack.sender" 1110), annotations := none, code := (.ref 800), closureTuple := .none, builtins := 0 }), #[]⟩
noncomputable def o804 (P : Params) : Obj := ⟨(.type "tuple"), none, (.seq #[(T "self" 1268)] 0), #[]⟩
noncomputable def o806 (P : Params) : Obj := ⟨.none, none, (.func { name := s "is_all_acked", qualname := s "Sender.is_all_acked", params := fP (me 34 11), body := .stmts (fB (me 34 11)), scope := fS (me 34 11), globals := 0, closure := [], defaults := .none, kwdefaults := .none, doc := .none, pyModule := .none, annotations := none, code := .none, closureTuple := .none, builtins := 0 }), #[]⟩
noncomputable def o807 (P : Params) : Obj := ⟨(.type "code"), none, (.fields #[(T "is_all_acked" 1265), (T "Sender.is_all_acked" 1266), (T "/claim/cut.py" 1267), (Z 517 0), (Z 1 0), (Z 0 0), (Z 0 0), (Z 3 0), (.ref 802), (.bool true), (Z 181 0), (.ref 803), .none, (.ref 804), (.ref 805), (.ref 806), (Z 1269 0), (Z 517 0), (T "/claim/cut.py" 1270)]), #[]⟩
noncomputable def o808 (P : Params) : Obj := ⟨(.type "function"), none, (.func { name := s "is_all_acked", qualname := s "Sender.is_all_acked", params := fP (me 34 11), body := .stmts (fB (me 34 11)), scope := fS (me 34 11), globals := 3, closure := [], defaults := .none, kwdefaults := .none, doc := .none, pyModule := (T "thinstack.sender" 1110), annotations := none, code := (.ref 807), closureTuple := .none, builtins := 0 }), #[]⟩
noncomputable def o811 (P : Params) : Obj := ⟨(.type "tuple"), none, (.seq #[(T "self" 1275), (T "many" 1276)] 0), #[]⟩
noncomputable def o813 (P : Params) : Obj := ⟨.none, none, (.func { name := s "go_on", qualname := s "Sender.go_on", params := fP (me 34 12), body := .stmts (fB (me 34 12)), scope := fS (me 34 12), globals := 0, closure := [], defaults := .none, kwdefaults := .none, doc := .none, pyModule := .none, annotations := none, code := .none, closureTuple := .none, builtins := 0 }), #[]⟩
noncomputable def o814 (P : Params) : Obj := ⟨(.type "code"), none, (.fields #[(T "go_on" 1272), (T "Sender.go_on" 1273), (T "/claim/cut.py" 1274), (Z 520 0), (Z 2 0), (Z 0 0), (Z 0 0), (Z 3 0), (.ref 809), (.bool true), (Z 181 0), (.ref 810), .none, (.ref 811), (.ref 812), (.ref 813), (Z 1277 0), (Z 520 0), (T "/claim/cut.py" 1278)]), #[]⟩
noncomputable def o815 (P : Params) : Obj := ⟨(.type "function"), none, (.func { name := s "go_on", qualname := s "Sender.go_on", params := fP (me 34 12), body := .stmts (fB (me 34 12)), scope := fS (me 34 12), globals := 3, closure := [], defaults := .none, kwdefaults := .none, doc := .none, pyModule := (T "thinstack.sender" 1110), annotations := none, code := (.ref 814), closureTuple := .none, builtins := 0 }), #[]⟩
noncomputable def o818 (P : Params) : Obj := ⟨(.type "tuple"), none, (.seq #[(T "self" 1283)] 0), #[]⟩
noncomputable def o820 (P : Params) : Obj := ⟨.none, none, (.func { name := s "start", qualname := s "Sender.start", params := fP (me 34 13), body := .stmts (fB (me 34 13)), scope := fS (me 34 13), globals := 0, closure := [], defaults := .none, kwdefaults := .none, doc := .none, pyModule := .none, annotations := none, code := .none, closureTuple := .none, builtins := 0 }), #[]⟩
noncomputable def o821 (P : Params) : Obj := ⟨(.type "code"), none, (.fields #[(T "start" 1280), (T "Sender.start" 1281), (T "/claim/cut.py" 1282), (Z 524 0), (Z 1 0), (Z 0 0), (Z 0 0), (Z 3 0), (.ref 816), (.bool true), (Z 181 0), (.ref 817), .none, (.ref 818), (.ref 819), (.ref 820), (Z 1284 0), (Z 524 0), (T "/claim/cut.py" 1285)]), #[]⟩
noncomputable def o822 (P : Params) : Obj := ⟨(.type "function"), none, (.func { name := s "start", qualname := s "Sender.start", params := fP (me 34 13), body := .stmts (fB (me 34 13)), scope := fS (me 34 13), globals := 3, closure := [], defaults := .none, kwdefaults := .none, doc := .none, pyModule := (T "thinstack.sender" 1110), annotations := none, code := (.ref 821), closureTuple := .none, builtins := 0 }), #[]⟩
noncomputable def o825 (P : Params) : Obj := ⟨(.type "tuple"), none, (.seq #[(T "self" 1290), (T "many" 1291), (T "is_nagle" 1292)] 0), #[]⟩
noncomputable def o827 (P : Params) : Obj := ⟨.none, none, (.func { name := s "may_go", qualname := s "Sender.may_go", params := fP (me 34 14), body := .stmts (fB (me 34 14)), scope := fS (me 34 14), globals := 0, closure := [], defaults := .none, kwdefaults := .none, doc := .none, pyModule := .none, annotations := none, code := .none, closureTuple := .none, builtins := 0 }), #[]⟩
noncomputable def o828 (P : Params) : Obj := ⟨(.type "code"), none, (.fields #[(T "may_go" 1287), (T "Sender.may_go" 1288), (T "/claim/cut.py" 1289), (Z 531 0), (Z 3 0), (Z 0 0), (Z 0 0), (Z 3 0), (.ref 823), (.bool true), (Z 181 0), (.ref 824), .none, (.ref 825), (.ref 826), (.ref 827), (Z 1293 0), (Z 531 0), (T "/claim/cut.py" 1294)]), #[]⟩
noncomputable def o829 (P : Params) : Obj := ⟨(.type "function"), none, (.func { name := s "may_go", qualname := s "Sender.may_go", params := fP (me 34 14), body := .stmts (fB (me 34 14)), scope := fS (me 34 14), globals := 3, closure := [], defaults := .none, kwdefaults := .none, doc := .none, pyModule := (T "thinstack.sender" 1110), annotations := none, code := (.ref 828), closureTuple := .none, builtins := 0 }), #[]⟩
noncomputable def o830 (P : Params) : Obj := ⟨(.type "tuple"), none, (.seq #[(.bool true)] 0), #[]⟩
noncomputable def o833 (P : Params) : Obj := ⟨(.type "tuple"), none, (.seq #[(T "self" 1299), (T "congestion_window" 1300), (T "is_nagle" 1301), (T "found" 1302), (T "many" 1303)] 0), #[]⟩
noncomputable def o835 (P : Params) : Obj := ⟨.none, none, (.func { name := s "pieces", qualname := s "Sender.pieces", params := fP (me 34 15), body := .stmts (fB (me 34 15)), scope := fS (me 34 15), globals := 0, closure := [], defaults := .none, kwdefaults := .none, doc := .none, pyModule := .none, annotations := none, code := .none, closureTuple := .none, builtins := 0 }), #[]⟩
noncomputable def o836 (P : Params) : Obj := ⟨(.type "code"), none, (.fields #[(T "pieces" 1296), (T "Sender.pieces" 1297), (T "/claim/cut.py" 1298), (Z 538 0), (Z 3 0), (Z 0 0), (Z 0 0), (Z 3 0), (.ref 831), (.bool true), (Z 181 0), (.ref 832), .none, (.ref 833), (.ref 834), (.ref 835), (Z 1304 0), (Z 538 0), (T "/claim/cut.py" 1305)]), #[]⟩
noncomputable def o837 (P : Params) : Obj := ⟨(.type "function"), none, (.func { name := s "pieces", qualname := s "Sender.pieces", params := fP (me 34 15), body := .stmts (fB (me 34 15)), scope := fS (me 34 15), globals := 3, closure := [], defaults := (.ref 830), kwdefaults := .none, doc := .none, pyModule := (T "thinstack.sender" 1110), annotations := none, code := (.ref 836), closureTuple := .none, builtins := 0 }), #[]⟩
noncomputable def o840 (P : Params) : Obj := ⟨(.type "tuple"), none, (.seq #[(T "self" 1310), (T "many" 1311), (T "congestion_window" 1312), (T "seq" 1313), (T "octets" 1314), (T "is_last" 1315), (T "has_fin" 1316)] 0), #[]⟩
noncomputable def o842 (P : Params) : Obj := ⟨.none, none, (.func { name := s "piece_of", qualname := s "Sender.piece_of", params := fP (me 34 16), body := .stmts (fB (me 34 16)), scope := fS (me 34 16), globals := 0, closure := [], defaults := .none, kwdefaults := .none, doc := .none, pyModule := .none, annotations := none, code := .none, closureTuple := .none, builtins := 0 }), #[]⟩
noncomputable def o843 (P : Params) : Obj := ⟨(.type "code"), none, (.fields #[(T "piece_of" 1307), (T "Sender.piece_of" 1308), (T "/claim/cut.py" 1309), (Z 553 0), (Z 3 0), (Z 0 0), (Z 0 0), (Z 3 0), (.ref 838), (.bool true), (Z 181 0), (.ref 839), .none, (.ref 840), (.ref 841), (.ref 842), (Z 1317 0), (Z 553 0), (T "/claim/cut.py" 1318)]), #[]⟩
noncomputable def o844 (P : Params) : Obj := ⟨(.type "function"), none, (.func { name := s "piece_of", qualname := s "Sender.piece_of", params := fP (me 34 16), body := .stmts (fB (me 34 16)), scope := fS (me 34 16), globals := 3, closure := [], defaults := .none, kwdefaults := .none, doc := .none, pyModule := (T "thinstack.sender" 1110), annotations := none, code := (.ref 843), closureTuple := .none, builtins := 0 }), #[]⟩
noncomputable def o847 (P : Params) : Obj := ⟨(.type "tuple"), none, (.seq #[(T "self" 1323)] 0), #[]⟩
noncomputable def o849 (P : Params) : Obj := ⟨.none, none, (.func { name := s "ever_sent", qualname := s "Sender.ever_sent", params := fP (me 34 17), body := .stmts (fB (me 34 17)), scope := fS (me 34 17), globals := 0, closure := [], defaults := .none, kwdefaults := .none, doc := .none, pyModule := .none, annotations := none, code := .none, closureTuple := .none, builtins := 0 }), #[]⟩
noncomputable def o850 (P : Params) : Obj := ⟨(.type "code"), none, (.fields #[(T "ever_sent" 1320), (T "Sender.ever_sent" 1321), (T "/claim/cut.py" 1322), (Z 562 0), (Z 1 0), (Z 0 0), (Z 0 0), (Z 3 0), (.ref 845), (.bool true), (Z 181 0), (.ref 846), .none, (.ref 847), (.ref 848), (.ref 849), (Z 1324 0), (Z 562 0), (T "/claim/cut.py" 1325)]), #[]⟩
noncomputable def o851 (P : Params) : Obj := ⟨(.type "function"), none, (.func { name := s "ever_sent", qualname := s "Sender.ever_sent", params := fP (me 34 17), body := .stmts (fB (me 34 17)), scope := fS (me 34 17), globals := 3, closure := [], defaults := .none, kwdefaults := .none, doc := .none, pyModule := (T "thinstack.sender" 1110), annotations := none, code := (.ref 850), closureTuple := .none, builtins := 0 }), #[]⟩
noncomputable def o854 (P : Params) : Obj := ⟨(.type "tuple"), none, (.seq #[(T "self" 1330)] 0), #[]⟩
noncomputable def o856 (P : Params) : Obj := ⟨.none, none, (.func { name := s "first_piece", qualname := s "Sender.first_piece", params := fP (me 34 18), body := .stmts (fB (me 34 18)), scope := fS (me 34 18), globals := 0, closure := [], defaults := .none, kwdefaults := .none, doc := .none, pyModule := .none, annotations := none, code := .none, closureTuple := .none, builtins := 0 }), #[]⟩
noncomputable def o857 (P : Params) : Obj := ⟨(.type "code"), none, (.fields #[(T "first_piece" 1327), (T "Sender.first_piece" 1328), (T "/claim/cut.py" 1329), (Z 565 0), (Z 1 0), (Z 0 0), (Z 0 0), (Z 3 0), (.ref 852), (.bool true), (Z 181 0), (.ref 853), .none, (.ref 854), (.ref 855), (.ref 856), (Z 1331 0), (Z 565 0), (T "/claim/cut.py" 1332)]), #[]⟩
noncomputable def o858 (P : Params) : Obj := ⟨(.type "function"), none, (.func { name := s "first_piece", qualname := s "Sender.first_piece", params := fP (me 34 18), body := .stmts (fB (me 34 18)), scope := fS (me 34 18), globals := 3, closure := [], defaults := .none, kwdefaults := .none, doc := .none, pyModule := (T "thinstack.sender" 1110), annotations := none, code := (.ref 857), closureTuple := .none, builtins := 0 }), #[]⟩
noncomputable def o861 (P : Params) : Obj := ⟨(.type "tuple"), none, (.seq #[(T "self" 1337), (T "many" 1338)] 0), #[]⟩
noncomputable def o863 (P : Params) : Obj := ⟨.none, none, (.func { name := s "reach", qualname := s "Sender.reach", params := fP (me 34 19), body := .stmts (fB (me 34 19)), scope := fS (me 34 19), globals := 0, closure := [], defaults := .none, kwdefaults := .none, doc := .none, pyModule := .none, annotations := none, code := .none, closureTuple := .none, builtins := 0 }), #[]⟩
noncomputable def o864 (P : Params) : Obj := ⟨(.type "code"), none, (.fields #[(T "reach" 1334), (T "Sender.reach" 1335), (T "/claim/cut.py" 1336), (Z 568 0), (Z 2 0), (Z 0 0), (Z 0 0), (Z 3 0), (.ref 859), (.bool true), (Z 181 0), (.ref 860), .none, (.ref 861), (.ref 862), (.ref 863), (Z 1339 0), (Z 568 0), (T "/claim/cut.py" 1340)]), #[]⟩
noncomputable def o865 (P : Params) : Obj := ⟨(.type "function"), none, (.func { name := s "reach", qualname := s "Sender.reach", params := fP (me 34 19), body := .stmts (fB (me 34 19)), scope := fS (me 34 19), globals := 3, closure := [], defaults := .none, kwdefaults := .none, doc := .none, pyModule := (T "thinstack.sender" 1110), annotations := none, code := (.ref 864), closureTuple := .none, builtins := 0 }), #[]⟩
noncomputable def o868 (P : Params) : Obj := ⟨(.type "tuple"), none, (.seq #[(T "self" 1345), (T "seq" 1346)] 0), #[]⟩
noncomputable def o870 (P : Params) : Obj := ⟨.none, none, (.func { name := s "back_to", qualname := s "Sender.back_to", params := fP (me 34 20), body := .stmts (fB (me 34 20)), scope := fS (me 34 20), globals := 0, closure := [], defaults := .none, kwdefaults := .none, doc := .none, pyModule := .none, annotations := none, code := .none, closureTuple := .none, builtins := 0 }), #[]⟩
noncomputable def o871 (P : Params) : Obj := ⟨(.type "code"), none, (.fields #[(T "back_to" 1342), (T "Sender.back_to" 1343), (T "/claim/cut.py" 1344), (Z 571 0), (Z 2 0), (Z 0 0), (Z 0 0), (Z 3 0), (.ref 866), (.bool true), (Z 181 0), (.ref 867), .none, (.ref 868), (.ref 869), (.ref 870), (Z 1347 0), (Z 571 0), (T "/claim/cut.py" 1348)]), #[]⟩
noncomputable def o872 (P : Params) : Obj := ⟨(.type "function"), none, (.func { name := s "back_to", qualname := s "Sender.back_to", params := fP (me 34 20), body := .stmts (fB (me 34 20)), scope := fS (me 34 20), globals := 3, closure := [], defaults := .none, kwdefaults := .none, doc := .none, pyModule := (T "thinstack.sender" 1110), annotations := none, code := (.ref 871), closureTuple := .none, builtins := 0 }), #[]⟩
noncomputable def o875 (P : Params) : Obj := ⟨(.type "tuple"), none, (.seq #[(T "self" 1353)] 0), #[]⟩
noncomputable def o877 (P : Params) : Obj := ⟨.none, none, (.func { name := s "is_idle_with_more", qualname := s "Sender.is_idle_with_more", params := fP (me 34 21), body := .stmts (fB (me 34 21)), scope := fS (me 34 21), globals := 0, closure := [], defaults := .none, kwdefaults := .none, doc := .none, pyModule := .none, annotations := none, code := .none, closureTuple := .none, builtins := 0 }), #[]⟩
noncomputable def o878 (P : Params) : Obj := ⟨(.type "code"), none, (.fields #[(T "is_idle_with_more" 1350), (T "Sender.is_idle_with_more" 1351), (T "/claim/cut.py" 1352), (Z 576 0), (Z 1 0), (Z 0 0), (Z 0 0), (Z 3 0), (.ref 873), (.bool true), (Z 181 0), (.ref 874), .none, (.ref 875), (.ref 876), (.ref 877), (Z 1354 0), (Z 576 0), (T "/claim/cut.py" 1355)]), #[]⟩
noncomputable def o879 (P : Params) : Obj := ⟨(.type "function"), none, (.func { name := s "is_idle_with_more", qualname := s "Sender.is_idle_with_more", params := fP (me 34 21), body := .stmts (fB (me 34 21)), scope := fS (me 34 21), globals := 3, closure := [], defaults := .none, kwdefaults := .none, doc := .none, pyModule := (T "thinstack.sender" 1110), annotations := none, code := (.ref 878), closureTuple := .none, builtins := 0 }), #[]⟩
noncomputable def o882 (P : Params) : Obj := ⟨(.type "tuple"), none, (.seq #[(T "self" 1360)] 0), #[]⟩
noncomputable def o884 (P : Params) : Obj := ⟨.none, none, (.func { name := s "needs_probe", qualname := s "Sender.needs_probe", params := fP (me 34 22), body := .stmts (fB (me 34 22)), scope := fS (me 34 22), globals := 0, closure := [], defaults := .none, kwdefaults := .none, doc := .none, pyModule := .none, annotations := none, code := .none, closureTuple := .none, builtins := 0 }), #[]⟩
noncomputable def o885 (P : Params) : Obj := ⟨(.type "code"), none, (.fields #[(T "needs_probe" 1357), (T "Sender.needs_probe" 1358), (T "/claim/cut.py" 1359), (Z 579 0), (Z 1 0), (Z 0 0), (Z 0 0), (Z 3 0), (.ref 880), (.bool true), (Z 181 0), (.ref 881), .none, (.ref 882), (.ref 883), (.ref 884), (Z 1361 0), (Z 579 0), (T "/claim/cut.py" 1362)]), #[]⟩
noncomputable def o886 (P : Params) : Obj := ⟨(.type "function"), none, (.func { name := s "needs_probe", qualname := s "Sender.needs_probe", params := fP (me 34 22), body := .stmts (fB (me 34 22)), scope := fS (me 34 22), globals := 3, closure := [], defaults := .none, kwdefaults := .none, doc := .none, pyModule := (T "thinstack.sender" 1110), annotations := none, code := (.ref 885), closureTuple := .none, builtins := 0 }), #[]⟩
noncomputable def o889 (P : Params) : Obj := ⟨(.type "tuple"), none, (.seq #[(T "self" 1367)] 0), #[]⟩
noncomputable def o891 (P : Params) : Obj := ⟨.none, none, (.func { name := s "probe", qualname := s "Sender.probe", params := fP (me 34 23), body := .stmts (fB (me 34 23)), scope := fS (me 34 23), globals := 0, closure := [], defaults := .none, kwdefaults := .none, doc := .none, pyModule := .none, annotations := none, code := .none, closureTuple := .none, builtins := 0 }), #[]⟩
noncomputable def o892 (P : Params) : Obj := ⟨(.type "code"), none, (.fields #[(T "probe" 1364), (T "Sender.probe" 1365), (T "/claim/cut.py" 1366), (Z 582 0), (Z 1 0), (Z 0 0), (Z 0 0), (Z 3 0), (.ref 887), (.bool true), (Z 181 0), (.ref 888), .none, (.ref 889), (.ref 890), (.ref 891), (Z 1368 0), (Z 582 0), (T "/claim/cut.py" 1369)]), #[]⟩
noncomputable def o893 (P : Params) : Obj := ⟨(.type "function"), none, (.func { name := s "probe", qualname := s "Sender.probe", params := fP (me 34 23), body := .stmts (fB (me 34 23)), scope := fS (me 34 23), globals := 3, closure := [], defaults := .none, kwdefaults := .none, doc := .none, pyModule := (T "thinstack.sender" 1110), annotations := none, code := (.ref 892), closureTuple := .none, builtins := 0 }), #[]⟩
noncomputable def o896 (P : Params) : Obj := ⟨(.type "tuple"), none, (.seq #[(T "self" 1374), (T "ack" 1375), (T "many" 1376), (T "ahead" 1377), (T "is_syn" 1378), (T "octets" 1379)] 0), #[]⟩
noncomputable def o898 (P : Params) : Obj := ⟨.none, none, (.func { name := s "acked", qualname := s "Sender.acked", params := fP (me 34 24), body := .stmts (fB (me 34 24)), scope := fS (me 34 24), globals := 0, closure := [], defaults := .none, kwdefaults := .none, doc := .none, pyModule := .none, annotations := none, code := .none, closureTuple := .none, builtins := 0 }), #[]⟩
noncomputable def o899 (P : Params) : Obj := ⟨(.type "code"), none, (.fields #[(T "acked" 1371), (T "Sender.acked" 1372), (T "/claim/cut.py" 1373), (Z 585 0), (Z 2 0), (Z 0 0), (Z 0 0), (Z 3 0), (.ref 894), (.bool true), (Z 181 0), (.ref 895), .none, (.ref 896), (.ref 897), (.ref 898), (Z 1380 0), (Z 585 0), (T "/claim/cut.py" 1381)]), #[]⟩
noncomputable def o900 (P : Params) : Obj := ⟨(.type "function"), none, (.func { name := s "acked", qualname := s "Sender.acked", params := fP (me 34 24), body := .stmts (fB (me 34 24)), scope := fS (me 34 24), globals := 3, closure := [], defaults := .none, kwdefaults := .none, doc := .none, pyModule := (T "thinstack.sender" 1110), annotations := none, code := (.ref 899), closureTuple := .none, builtins := 0 }), #[]⟩
noncomputable def o901 (P : Params) : Obj := ⟨(.type "tuple"), none, (.seq #[(T "fin_asked" 1383), (T "fin_sent" 1384), (T "greatest" 1385), (T "iss" 1386), (T "mss" 1387), (T "next" 1388), (T "peer" 1389), (T "queue" 1390), (T "ring" 1391), (T "syn_pending" 1392), (T "una" 1393)] 0), #[]⟩
noncomputable def o902 (P : Params) : Obj := ⟨(.type "dict"), none, (.dict #[e P "__module__" 1172 (T "thinstack.sender" 1110), e P "__firstlineno__" 1176 (Z 468 1175), e P "__init__" 1187 (.ref 730), e P "window" 1195 (.ref 738), e P "take_window" 1205 (.ref 745), e P "put" 1213 (.ref 752), e P "ask_fin" 1220 (.ref 759), e P "flight" 1227 (.ref 766), e P "usable" 1235 (.ref 773), e P "data_sent" 1242 (.ref 780), e P "unsent" 1249 (.ref 787), e P "is_fin_due" 1257 (.ref 794), e P "is_fin_acked" 1264 (.ref 801), e P "is_all_acked" 1271 (.ref 808), e P "go_on" 1279 (.ref 815), e P "start" 1286 (.ref 822), e P "may_go" 1295 (.ref 829), e P "pieces" 1306 (.ref 837), e P "piece_of" 1319 (.ref 844), e P "ever_sent" 1326 (.ref 851), e P "first_piece" 1333 (.ref 858), e P "reach" 1341 (.ref 865), e P "back_to" 1349 (.ref 872), e P "is_idle_with_more" 1356 (.ref 879), e P "needs_probe" 1363 (.ref 886), e P "probe" 1370 (.ref 893), e P "acked" 1382 (.ref 900), e P "__static_attributes__" 1394 (.ref 901), e P "__dict__" 1396 (.ref 904), e P "__weakref__" 1398 (.ref 905), e P "__doc__" 1399 .none] 4), #[]⟩
noncomputable def o903 (P : Params) : Obj := ⟨(.type "type"), none, (.cls { name := s "Sender", bases := [(.type "object")], mro := [(.ref 903), (.type "object")], ns := 902, qualname := s "Sender", hasDict := true, slotNames := [], subclasses := [], abstract := false, collection := none, hasDel := false }), #[none, none, (some (T "Sender" 1165)), (some (T "Sender" 1173)), (some (.builtin "object.__new__")), (some (.bool true))]⟩
noncomputable def o904 (P : Params) : Obj := ⟨(.type "getset_descriptor"), none, (.fields #[(T "__dict__" 1395), (.ref 903), (.builtin "function.__dict__"), (.builtin "function.__dict__#set")]), #[]⟩
noncomputable def o905 (P : Params) : Obj := ⟨(.type "getset_descriptor"), none, (.fields #[(T "__weakref__" 1397), (.ref 903), (.builtin "ExceptionGroup.__weakref__"), .none]), #[]⟩
noncomputable def o906 (P : Params) : Obj := ⟨(.type "super"), none, (.fields #[(.ref 903), (.ref 903), (.ref 903)]), #[]⟩
noncomputable def o907 (P : Params) : Obj := ⟨(.type "builtin_function_or_method"), none, (.fields #[(.builtin "object.__init_subclass__"), (.ref 903)]), #[]⟩
noncomputable def o910 (P : Params) : Obj := ⟨(.type "tuple"), none, (.seq #[(T "n" 1407)] 0), #[]⟩
noncomputable def o912 (P : Params) : Obj := ⟨.none, none, (.func { name := s "put16", qualname := s "put16", params := fP (st 36), body := .stmts (fB (st 36)), scope := fS (st 36), globals := 0, closure := [], defaults := .none, kwdefaults := .none, doc := .none, pyModule := .none, annotations := none, code := .none, closureTuple := .none, builtins := 0 }), #[]⟩
noncomputable def o913 (P : Params) : Obj := ⟨(.type "code"), none, (.fields #[(T "put16" 1404), (T "put16" 1405), (T "/claim/cut.py" 1406), (Z 599 0), (Z 1 0), (Z 0 0), (Z 0 0), (Z 3 0), (.ref 908), (.bool true), (Z 181 0), (.ref 909), .none, (.ref 910), (.ref 911), (.ref 912), (Z 1408 0), (Z 599 0), (T "/claim/cut.py" 1409)]), #[]⟩
noncomputable def o914 (P : Params) : Obj := ⟨(.type "function"), none, (.func { name := s "put16", qualname := s "put16", params := fP (st 36), body := .stmts (fB (st 36)), scope := fS (st 36), globals := 3, closure := [], defaults := .none, kwdefaults := .none, doc := .none, pyModule := (T "thinstack.octets" 1402), annotations := none, code := (.ref 913), closureTuple := .none, builtins := 0 }), #[]⟩
noncomputable def o916 (P : Params) : Obj := ⟨(.type "builtin_function_or_method"), none, (.fields #[(.builtin "type.__prepare__"), (.type "type")]), #[]⟩
noncomputable def o917 (P : Params) : Obj := ⟨(.type "dict"), none, (.dict #[e P "__module__" 1430 (T "thinstack.tcp_segment" 1411), e P "__qualname__" 1432 (T "Segment" 1431), e P "__firstlineno__" 1434 (Z 607 1433), e P "__init__" 1453 (.ref 929), e P "has" 1461 (.ref 936), e P "length" 1469 (.ref 943), e P "row" 1477 (.ref 950), e P "__static_attributes__" 1487 (.ref 951)] 8), #[]⟩
noncomputable def o919 (P : Params) : Obj := ⟨.none, none, (.fields #[(Z 609 0), (Z 4 0), (.ref 928), (Z 620 0), (Z 4 0), (.ref 935), (Z 623 0), (Z 4 0), (.ref 942), (Z 631 0), (Z 4 0), (.ref 949)]), #[]⟩
noncomputable def o920 (P : Params) : Obj := ⟨(.type "code"), none, (.fields #[(T "Segment" 1425), (T "Segment" 1426), (T "/claim/cut.py" 1427), (Z 607 0), (Z 0 0), (Z 0 0), (Z 0 0), (Z 0 0), (.ref 918), (.bool false), (Z 181 0), (.ref 919), .none, .none, .none, .none, (Z 1428 0), (Z 607 0), (T "/claim/cut.py" 1429)]), #[]⟩
noncomputable def o921 (P : Params) : Obj := ⟨(.type "frame"), none, .plain, #[(some (.ref 920)), (some (.ref 3)), (some (.ref 917)), none, (some (T "thinstack.tcp_segment" 1411)), none, (some (.ref 0))]⟩
noncomputable def o922 (P : Params) : Obj := ⟨(.type "tuple"), none, (.seq #[(Z 0 1435), (.bytes #[] 1436), (.bytes #[] 1437)] 0), #[]⟩
noncomputable def o925 (P : Params) : Obj := ⟨(.type "tuple"), none, (.seq #[(T "self" 1441), (T "source_port" 1442), (T "target_port" 1443), (T "seq" 1444), (T "ack" 1445), (T "flags" 1446), (T "window" 1447), (T "urgent" 1448), (T "options" 1449), (T "payload" 1450)] 0), #[]⟩
noncomputable def o927 (P : Params) : Obj := ⟨.none, none, (.func { name := s "__init__", qualname := s "Segment.__init__", params := fP (me 43 0), body := .stmts (fB (me 43 0)), scope := fS (me 43 0), globals := 0, closure := [], defaults := .none, kwdefaults := .none, doc := .none, pyModule := .none, annotations := none, code := .none, closureTuple := .none, builtins := 0 }), #[]⟩
noncomputable def o928 (P : Params) : Obj := ⟨(.type "code"), none, (.fields #[(T "__init__" 1438), (T "Segment.__init__" 1439), (T "/claim/cut.py" 1440), (Z 609 0), (Z 10 0), (Z 0 0), (Z 0 0), (Z 3 0), (.ref 923), (.bool true), (Z 181 0), (.ref 924), .none, (.ref 925), (.ref 926), (.ref 927), (Z 1451 0), (Z 609 0), (T "/claim/cut.py" 1452)]), #[]⟩
noncomputable def o929 (P : Params) : Obj := ⟨(.type "function"), none, (.func { name := s "__init__", qualname := s "Segment.__init__", params := fP (me 43 0), body := .stmts (fB (me 43 0)), scope := fS (me 43 0), globals := 3, closure := [], defaults := (.ref 922), kwdefaults := .none, doc := .none, pyModule := (T "thinstack.tcp_segment" 1411), annotations := none, code := (.ref 928), closureTuple := .none, builtins := 0 }), #[]⟩
noncomputable def o932 (P : Params) : Obj := ⟨(.type "tuple"), none, (.seq #[(T "self" 1457), (T "flag" 1458)] 0), #[]⟩
noncomputable def o934 (P : Params) : Obj := ⟨.none, none, (.func { name := s "has", qualname := s "Segment.has", params := fP (me 43 1), body := .stmts (fB (me 43 1)), scope := fS (me 43 1), globals := 0, closure := [], defaults := .none, kwdefaults := .none, doc := .none, pyModule := .none, annotations := none, code := .none, closureTuple := .none, builtins := 0 }), #[]⟩
noncomputable def o935 (P : Params) : Obj := ⟨(.type "code"), none, (.fields #[(T "has" 1454), (T "Segment.has" 1455), (T "/claim/cut.py" 1456), (Z 620 0), (Z 2 0), (Z 0 0), (Z 0 0), (Z 3 0), (.ref 930), (.bool true), (Z 181 0), (.ref 931), .none, (.ref 932), (.ref 933), (.ref 934), (Z 1459 0), (Z 620 0), (T "/claim/cut.py" 1460)]), #[]⟩
noncomputable def o936 (P : Params) : Obj := ⟨(.type "function"), none, (.func { name := s "has", qualname := s "Segment.has", params := fP (me 43 1), body := .stmts (fB (me 43 1)), scope := fS (me 43 1), globals := 3, closure := [], defaults := .none, kwdefaults := .none, doc := .none, pyModule := (T "thinstack.tcp_segment" 1411), annotations := none, code := (.ref 935), closureTuple := .none, builtins := 0 }), #[]⟩
noncomputable def o939 (P : Params) : Obj := ⟨(.type "tuple"), none, (.seq #[(T "self" 1465), (T "many" 1466)] 0), #[]⟩
noncomputable def o941 (P : Params) : Obj := ⟨.none, none, (.func { name := s "length", qualname := s "Segment.length", params := fP (me 43 2), body := .stmts (fB (me 43 2)), scope := fS (me 43 2), globals := 0, closure := [], defaults := .none, kwdefaults := .none, doc := .none, pyModule := .none, annotations := none, code := .none, closureTuple := .none, builtins := 0 }), #[]⟩
noncomputable def o942 (P : Params) : Obj := ⟨(.type "code"), none, (.fields #[(T "length" 1462), (T "Segment.length" 1463), (T "/claim/cut.py" 1464), (Z 623 0), (Z 1 0), (Z 0 0), (Z 0 0), (Z 3 0), (.ref 937), (.bool true), (Z 181 0), (.ref 938), .none, (.ref 939), (.ref 940), (.ref 941), (Z 1467 0), (Z 623 0), (T "/claim/cut.py" 1468)]), #[]⟩
noncomputable def o943 (P : Params) : Obj := ⟨(.type "function"), none, (.func { name := s "length", qualname := s "Segment.length", params := fP (me 43 2), body := .stmts (fB (me 43 2)), scope := fS (me 43 2), globals := 3, closure := [], defaults := .none, kwdefaults := .none, doc := .none, pyModule := (T "thinstack.tcp_segment" 1411), annotations := none, code := (.ref 942), closureTuple := .none, builtins := 0 }), #[]⟩
noncomputable def o946 (P : Params) : Obj := ⟨(.type "tuple"), none, (.seq #[(T "self" 1473), (T "numbers" 1474)] 0), #[]⟩
noncomputable def o948 (P : Params) : Obj := ⟨.none, none, (.func { name := s "row", qualname := s "Segment.row", params := fP (me 43 3), body := .stmts (fB (me 43 3)), scope := fS (me 43 3), globals := 0, closure := [], defaults := .none, kwdefaults := .none, doc := .none, pyModule := .none, annotations := none, code := .none, closureTuple := .none, builtins := 0 }), #[]⟩
noncomputable def o949 (P : Params) : Obj := ⟨(.type "code"), none, (.fields #[(T "row" 1470), (T "Segment.row" 1471), (T "/claim/cut.py" 1472), (Z 631 0), (Z 1 0), (Z 0 0), (Z 0 0), (Z 3 0), (.ref 944), (.bool true), (Z 181 0), (.ref 945), .none, (.ref 946), (.ref 947), (.ref 948), (Z 1475 0), (Z 631 0), (T "/claim/cut.py" 1476)]), #[]⟩
noncomputable def o950 (P : Params) : Obj := ⟨(.type "function"), none, (.func { name := s "row", qualname := s "Segment.row", params := fP (me 43 3), body := .stmts (fB (me 43 3)), scope := fS (me 43 3), globals := 3, closure := [], defaults := .none, kwdefaults := .none, doc := .none, pyModule := (T "thinstack.tcp_segment" 1411), annotations := none, code := (.ref 949), closureTuple := .none, builtins := 0 }), #[]⟩
noncomputable def o951 (P : Params) : Obj := ⟨(.type "tuple"), none, (.seq #[(T "ack" 1478), (T "flags" 1479), (T "options" 1480), (T "payload" 1481), (T "seq" 1482), (T "source_port" 1483), (T "target_port" 1484), (T "urgent" 1485), (T "window" 1486)] 0), #[]⟩
noncomputable def o952 (P : Params) : Obj := ⟨(.type "dict"), none, (.dict #[e P "__module__" 1430 (T "thinstack.tcp_segment" 1411), e P "__firstlineno__" 1434 (Z 607 1433), e P "__init__" 1453 (.ref 929), e P "has" 1461 (.ref 936), e P "length" 1469 (.ref 943), e P "row" 1477 (.ref 950), e P "__static_attributes__" 1487 (.ref 951), e P "__dict__" 1489 (.ref 954), e P "__weakref__" 1491 (.ref 955), e P "__doc__" 1492 .none] 4), #[]⟩
noncomputable def o953 (P : Params) : Obj := ⟨(.type "type"), none, (.cls { name := s "Segment", bases := [(.type "object")], mro := [(.ref 953), (.type "object")], ns := 952, qualname := s "Segment", hasDict := true, slotNames := [], subclasses := [], abstract := false, collection := none, hasDel := false }), #[none, none, (some (T "Segment" 1423)), (some (T "Segment" 1431)), (some (.builtin "object.__new__")), (some (.bool true))]⟩
noncomputable def o954 (P : Params) : Obj := ⟨(.type "getset_descriptor"), none, (.fields #[(T "__dict__" 1488), (.ref 953), (.builtin "function.__dict__"), (.builtin "function.__dict__#set")]), #[]⟩
noncomputable def o955 (P : Params) : Obj := ⟨(.type "getset_descriptor"), none, (.fields #[(T "__weakref__" 1490), (.ref 953), (.builtin "ExceptionGroup.__weakref__"), .none]), #[]⟩
noncomputable def o956 (P : Params) : Obj := ⟨(.type "super"), none, (.fields #[(.ref 953), (.ref 953), (.ref 953)]), #[]⟩
noncomputable def o957 (P : Params) : Obj := ⟨(.type "builtin_function_or_method"), none, (.fields #[(.builtin "object.__init_subclass__"), (.ref 953)]), #[]⟩
noncomputable def o960 (P : Params) : Obj := ⟨(.type "tuple"), none, (.seq #[(T "number" 1498), (T "bits" 1499)] 0), #[]⟩
noncomputable def o962 (P : Params) : Obj := ⟨.none, none, (.func { name := s "check_number", qualname := s "check_number", params := fP (st 44), body := .stmts (fB (st 44)), scope := fS (st 44), globals := 0, closure := [], defaults := .none, kwdefaults := .none, doc := .none, pyModule := .none, annotations := none, code := .none, closureTuple := .none, builtins := 0 }), #[]⟩
noncomputable def o963 (P : Params) : Obj := ⟨(.type "code"), none, (.fields #[(T "check_number" 1495), (T "check_number" 1496), (T "/claim/cut.py" 1497), (Z 634 0), (Z 2 0), (Z 0 0), (Z 0 0), (Z 3 0), (.ref 958), (.bool true), (Z 181 0), (.ref 959), .none, (.ref 960), (.ref 961), (.ref 962), (Z 1500 0), (Z 634 0), (T "/claim/cut.py" 1501)]), #[]⟩
noncomputable def o964 (P : Params) : Obj := ⟨(.type "function"), none, (.func { name := s "check_number", qualname := s "check_number", params := fP (st 44), body := .stmts (fB (st 44)), scope := fS (st 44), globals := 3, closure := [], defaults := .none, kwdefaults := .none, doc := .none, pyModule := (T "thinstack.tcp_segment" 1411), annotations := none, code := (.ref 963), closureTuple := .none, builtins := 0 }), #[]⟩
noncomputable def o967 (P : Params) : Obj := ⟨(.type "tuple"), none, (.seq #[(T "n" 1506)] 0), #[]⟩
noncomputable def o969 (P : Params) : Obj := ⟨.none, none, (.func { name := s "mss_option", qualname := s "mss_option", params := fP (st 45), body := .stmts (fB (st 45)), scope := fS (st 45), globals := 0, closure := [], defaults := .none, kwdefaults := .none, doc := .none, pyModule := .none, annotations := none, code := .none, closureTuple := .none, builtins := 0 }), #[]⟩
noncomputable def o970 (P : Params) : Obj := ⟨(.type "code"), none, (.fields #[(T "mss_option" 1503), (T "mss_option" 1504), (T "/claim/cut.py" 1505), (Z 637 0), (Z 1 0), (Z 0 0), (Z 0 0), (Z 3 0), (.ref 965), (.bool true), (Z 181 0), (.ref 966), .none, (.ref 967), (.ref 968), (.ref 969), (Z 1507 0), (Z 637 0), (T "/claim/cut.py" 1508)]), #[]⟩
noncomputable def o971 (P : Params) : Obj := ⟨(.type "function"), none, (.func { name := s "mss_option", qualname := s "mss_option", params := fP (st 45), body := .stmts (fB (st 45)), scope := fS (st 45), globals := 3, closure := [], defaults := .none, kwdefaults := .none, doc := .none, pyModule := (T "thinstack.tcp_segment" 1411), annotations := none, code := (.ref 970), closureTuple := .none, builtins := 0 }), #[]⟩
noncomputable def o973 (P : Params) : Obj := ⟨(.type "builtin_function_or_method"), none, (.fields #[(.builtin "type.__prepare__"), (.type "type")]), #[]⟩
noncomputable def o974 (P : Params) : Obj := ⟨(.type "dict"), none, (.dict #[e P "__module__" 1521 (T "thinstack.wheel" 1512), e P "__qualname__" 1523 (T "Wheel" 1522), e P "__firstlineno__" 1525 (Z 642 1524), e P "__init__" 1532 (.ref 984), e P "put" 1541 (.ref 991), e P "list_of" 1549 (.ref 998), e P "cancel" 1560 (.ref 1005), e P "time_of" 1568 (.ref 1012), e P "next_time" 1575 (.ref 1019), e P "due" 1581 (.ref 1024), e P "keys_until" 1591 (.ref 1031), e P "__static_attributes__" 1598 (.ref 1032)] 12), #[]⟩
noncomputable def o976 (P : Params) : Obj := ⟨.none, none, (.fields #[(Z 644 0), (Z 4 0), (.ref 983), (Z 652 0), (Z 4 0), (.ref 990), (Z 658 0), (Z 4 0), (.ref 997), (Z 663 0), (Z 4 0), (.ref 1004), (Z 670 0), (Z 4 0), (.ref 1011), (Z 673 0), (Z 4 0), (.ref 1018), (Z 676 0), (Z 4 0), (.ref 1023), (Z 688 0), (Z 4 0), (.ref 1030)]), #[]⟩
noncomputable def o977 (P : Params) : Obj := ⟨(.type "code"), none, (.fields #[(T "Wheel" 1516), (T "Wheel" 1517), (T "/claim/cut.py" 1518), (Z 642 0), (Z 0 0), (Z 0 0), (Z 0 0), (Z 0 0), (.ref 975), (.bool false), (Z 181 0), (.ref 976), .none, .none, .none, .none, (Z 1519 0), (Z 642 0), (T "/claim/cut.py" 1520)]), #[]⟩
noncomputable def o978 (P : Params) : Obj := ⟨(.type "frame"), none, .plain, #[(some (.ref 977)), (some (.ref 3)), (some (.ref 974)), none, (some (T "thinstack.wheel" 1512)), none, (some (.ref 0))]⟩
noncomputable def o979 (P : Params) : Obj := ⟨(.type "tuple"), none, (.seq #[(Z 16 1526)] 0), #[]⟩
noncomputable def o982 (P : Params) : Obj := ⟨.none, none, (.func { name := s "__init__", qualname := s "Wheel.__init__", params := fP (me 48 0), body := .stmts (fB (me 48 0)), scope := fS (me 48 0), globals := 0, closure := [], defaults := .none, kwdefaults := .none, doc := .none, pyModule := .none, annotations := none, code := .none, closureTuple := .none, builtins := 0 }), #[]⟩
noncomputable def o983 (P : Params) : Obj := ⟨(.type "code"), none, (.fields #[(T "__init__" 1527), (T "Wheel.__init__" 1528), (T "/claim/cut.py" 1529), (Z 644 0), (Z 2 0), (Z 0 0), (Z 0 0), (Z 3 0), (.ref 980), (.bool true), (Z 181 0), (.ref 981), .none, .none, .none, (.ref 982), (Z 1530 0), (Z 644 0), (T "/claim/cut.py" 1531)]), #[]⟩
noncomputable def o984 (P : Params) : Obj := ⟨(.type "function"), none, (.func { name := s "__init__", qualname := s "Wheel.__init__", params := fP (me 48 0), body := .stmts (fB (me 48 0)), scope := fS (me 48 0), globals := 3, closure := [], defaults := (.ref 979), kwdefaults := .none, doc := .none, pyModule := (T "thinstack.wheel" 1512), annotations := none, code := (.ref 983), closureTuple := .none, builtins := 0 }), #[]⟩
noncomputable def o987 (P : Params) : Obj := ⟨(.type "tuple"), none, (.seq #[(T "self" 1536), (T "key" 1537), (T "time" 1538)] 0), #[]⟩
noncomputable def o989 (P : Params) : Obj := ⟨.none, none, (.func { name := s "put", qualname := s "Wheel.put", params := fP (me 48 1), body := .stmts (fB (me 48 1)), scope := fS (me 48 1), globals := 0, closure := [], defaults := .none, kwdefaults := .none, doc := .none, pyModule := .none, annotations := none, code := .none, closureTuple := .none, builtins := 0 }), #[]⟩
noncomputable def o990 (P : Params) : Obj := ⟨(.type "code"), none, (.fields #[(T "put" 1533), (T "Wheel.put" 1534), (T "/claim/cut.py" 1535), (Z 652 0), (Z 3 0), (Z 0 0), (Z 0 0), (Z 3 0), (.ref 985), (.bool true), (Z 181 0), (.ref 986), .none, (.ref 987), (.ref 988), (.ref 989), (Z 1539 0), (Z 652 0), (T "/claim/cut.py" 1540)]), #[]⟩
noncomputable def o991 (P : Params) : Obj := ⟨(.type "function"), none, (.func { name := s "put", qualname := s "Wheel.put", params := fP (me 48 1), body := .stmts (fB (me 48 1)), scope := fS (me 48 1), globals := 3, closure := [], defaults := .none, kwdefaults := .none, doc := .none, pyModule := (T "thinstack.wheel" 1512), annotations := none, code := (.ref 990), closureTuple := .none, builtins := 0 }), #[]⟩
noncomputable def o994 (P : Params) : Obj := ⟨(.type "tuple"), none, (.seq #[(T "self" 1545), (T "time" 1546)] 0), #[]⟩
noncomputable def o996 (P : Params) : Obj := ⟨.none, none, (.func { name := s "list_of", qualname := s "Wheel.list_of", params := fP (me 48 2), body := .stmts (fB (me 48 2)), scope := fS (me 48 2), globals := 0, closure := [], defaults := .none, kwdefaults := .none, doc := .none, pyModule := .none, annotations := none, code := .none, closureTuple := .none, builtins := 0 }), #[]⟩
noncomputable def o997 (P : Params) : Obj := ⟨(.type "code"), none, (.fields #[(T "list_of" 1542), (T "Wheel.list_of" 1543), (T "/claim/cut.py" 1544), (Z 658 0), (Z 2 0), (Z 0 0), (Z 0 0), (Z 3 0), (.ref 992), (.bool true), (Z 181 0), (.ref 993), .none, (.ref 994), (.ref 995), (.ref 996), (Z 1547 0), (Z 658 0), (T "/claim/cut.py" 1548)]), #[]⟩
noncomputable def o998 (P : Params) : Obj := ⟨(.type "function"), none, (.func { name := s "list_of", qualname := s "Wheel.list_of", params := fP (me 48 2), body := .stmts (fB (me 48 2)), scope := fS (me 48 2), globals := 3, closure := [], defaults := .none, kwdefaults := .none, doc := .none, pyModule := (T "thinstack.wheel" 1512), annotations := none, code := (.ref 997), closureTuple := .none, builtins := 0 }), #[]⟩
noncomputable def o1001 (P : Params) : Obj := ⟨(.type "tuple"), none, (.seq #[(T "self" 1553), (T "key" 1554), (T "time" 1555), (T "order" 1556), (T "keys" 1557)] 0), #[]⟩
noncomputable def o1003 (P : Params) : Obj := ⟨.none, none, (.func { name := s "cancel", qualname := s "Wheel.cancel", params := fP (me 48 3), body := .stmts (fB (me 48 3)), scope := fS (me 48 3), globals := 0, closure := [], defaults := .none, kwdefaults := .none, doc := .none, pyModule := .none, annotations := none, code := .none, closureTuple := .none, builtins := 0 }), #[]⟩
noncomputable def o1004 (P : Params) : Obj := ⟨(.type "code"), none, (.fields #[(T "cancel" 1550), (T "Wheel.cancel" 1551), (T "/claim/cut.py" 1552), (Z 663 0), (Z 2 0), (Z 0 0), (Z 0 0), (Z 3 0), (.ref 999), (.bool true), (Z 181 0), (.ref 1000), .none, (.ref 1001), (.ref 1002), (.ref 1003), (Z 1558 0), (Z 663 0), (T "/claim/cut.py" 1559)]), #[]⟩
noncomputable def o1005 (P : Params) : Obj := ⟨(.type "function"), none, (.func { name := s "cancel", qualname := s "Wheel.cancel", params := fP (me 48 3), body := .stmts (fB (me 48 3)), scope := fS (me 48 3), globals := 3, closure := [], defaults := .none, kwdefaults := .none, doc := .none, pyModule := (T "thinstack.wheel" 1512), annotations := none, code := (.ref 1004), closureTuple := .none, builtins := 0 }), #[]⟩
noncomputable def o1008 (P : Params) : Obj := ⟨(.type "tuple"), none, (.seq #[(T "self" 1564), (T "key" 1565)] 0), #[]⟩
noncomputable def o1010 (P : Params) : Obj := ⟨.none, none, (.func { name := s "time_of", qualname := s "Wheel.time_of", params := fP (me 48 4), body := .stmts (fB (me 48 4)), scope := fS (me 48 4), globals := 0, closure := [], defaults := .none, kwdefaults := .none, doc := .none, pyModule := .none, annotations := none, code := .none, closureTuple := .none, builtins := 0 }), #[]⟩
noncomputable def o1011 (P : Params) : Obj := ⟨(.type "code"), none, (.fields #[(T "time_of" 1561), (T "Wheel.time_of" 1562), (T "/claim/cut.py" 1563), (Z 670 0), (Z 2 0), (Z 0 0), (Z 0 0), (Z 3 0), (.ref 1006), (.bool true), (Z 181 0), (.ref 1007), .none, (.ref 1008), (.ref 1009), (.ref 1010), (Z 1566 0), (Z 670 0), (T "/claim/cut.py" 1567)]), #[]⟩
noncomputable def o1012 (P : Params) : Obj := ⟨(.type "function"), none, (.func { name := s "time_of", qualname := s "Wheel.time_of", params := fP (me 48 4), body := .stmts (fB (me 48 4)), scope := fS (me 48 4), globals := 3, closure := [], defaults := .none, kwdefaults := .none, doc := .none, pyModule := (T "thinstack.wheel" 1512), annotations := none, code := (.ref 1011), closureTuple := .none, builtins := 0 }), #[]⟩
noncomputable def o1015 (P : Params) : Obj := ⟨(.type "tuple"), none, (.seq #[(T "self" 1572)] 0), #[]⟩
noncomputable def o1017 (P : Params) : Obj := ⟨.none, none, (.func { name := s "next_time", qualname := s "Wheel.next_time", params := fP (me 48 5), body := .stmts (fB (me 48 5)), scope := fS (me 48 5), globals := 0, closure := [], defaults := .none, kwdefaults := .none, doc := .none, pyModule := .none, annotations := none, code := .none, closureTuple := .none, builtins := 0 }), #[]⟩
noncomputable def o1018 (P : Params) : Obj := ⟨(.type "code"), none, (.fields #[(T "next_time" 1569), (T "Wheel.next_time" 1570), (T "/claim/cut.py" 1571), (Z 673 0), (Z 1 0), (Z 0 0), (Z 0 0), (Z 3 0), (.ref 1013), (.bool true), (Z 181 0), (.ref 1014), .none, (.ref 1015), (.ref 1016), (.ref 1017), (Z 1573 0), (Z 673 0), (T "/claim/cut.py" 1574)]), #[]⟩
noncomputable def o1019 (P : Params) : Obj := ⟨(.type "function"), none, (.func { name := s "next_time", qualname := s "Wheel.next_time", params := fP (me 48 5), body := .stmts (fB (me 48 5)), scope := fS (me 48 5), globals := 3, closure := [], defaults := .none, kwdefaults := .none, doc := .none, pyModule := (T "thinstack.wheel" 1512), annotations := none, code := (.ref 1018), closureTuple := .none, builtins := 0 }), #[]⟩
noncomputable def o1022 (P : Params) : Obj := ⟨.none, none, (.func { name := s "due", qualname := s "Wheel.due", params := fP (me 48 6), body := .stmts (fB (me 48 6)), scope := fS (me 48 6), globals := 0, closure := [], defaults := .none, kwdefaults := .none, doc := .none, pyModule := .none, annotations := none, code := .none, closureTuple := .none, builtins := 0 }), #[]⟩
noncomputable def o1023 (P : Params) : Obj := ⟨(.type "code"), none, (.fields #[(T "due" 1576), (T "Wheel.due" 1577), (T "/claim/cut.py" 1578), (Z 676 0), (Z 2 0), (Z 0 0), (Z 0 0), (Z 3 0), (.ref 1020), (.bool true), (Z 181 0), (.ref 1021), .none, .none, .none, (.ref 1022), (Z 1579 0), (Z 676 0), (T "/claim/cut.py" 1580)]), #[]⟩
noncomputable def o1024 (P : Params) : Obj := ⟨(.type "function"), none, (.func { name := s "due", qualname := s "Wheel.due", params := fP (me 48 6), body := .stmts (fB (me 48 6)), scope := fS (me 48 6), globals := 3, closure := [], defaults := .none, kwdefaults := .none, doc := .none, pyModule := (T "thinstack.wheel" 1512), annotations := none, code := (.ref 1023), closureTuple := .none, builtins := 0 }), #[]⟩
noncomputable def o1027 (P : Params) : Obj := ⟨(.type "tuple"), none, (.seq #[(T "self" 1585), (T "now" 1586), (T "found" 1587), (T "time" 1588)] 0), #[]⟩
noncomputable def o1029 (P : Params) : Obj := ⟨.none, none, (.func { name := s "keys_until", qualname := s "Wheel.keys_until", params := fP (me 48 7), body := .stmts (fB (me 48 7)), scope := fS (me 48 7), globals := 0, closure := [], defaults := .none, kwdefaults := .none, doc := .none, pyModule := .none, annotations := none, code := .none, closureTuple := .none, builtins := 0 }), #[]⟩
noncomputable def o1030 (P : Params) : Obj := ⟨(.type "code"), none, (.fields #[(T "keys_until" 1582), (T "Wheel.keys_until" 1583), (T "/claim/cut.py" 1584), (Z 688 0), (Z 2 0), (Z 0 0), (Z 0 0), (Z 3 0), (.ref 1025), (.bool true), (Z 181 0), (.ref 1026), .none, (.ref 1027), (.ref 1028), (.ref 1029), (Z 1589 0), (Z 688 0), (T "/claim/cut.py" 1590)]), #[]⟩
noncomputable def o1031 (P : Params) : Obj := ⟨(.type "function"), none, (.func { name := s "keys_until", qualname := s "Wheel.keys_until", params := fP (me 48 7), body := .stmts (fB (me 48 7)), scope := fS (me 48 7), globals := 3, closure := [], defaults := .none, kwdefaults := .none, doc := .none, pyModule := (T "thinstack.wheel" 1512), annotations := none, code := (.ref 1030), closureTuple := .none, builtins := 0 }), #[]⟩
noncomputable def o1032 (P : Params) : Obj := ⟨(.type "tuple"), none, (.seq #[(T "entries" 1592), (T "given" 1593), (T "late" 1594), (T "reached" 1595), (T "size" 1596), (T "slots" 1597)] 0), #[]⟩
noncomputable def o1033 (P : Params) : Obj := ⟨(.type "dict"), none, (.dict #[e P "__module__" 1521 (T "thinstack.wheel" 1512), e P "__firstlineno__" 1525 (Z 642 1524), e P "__init__" 1532 (.ref 984), e P "put" 1541 (.ref 991), e P "list_of" 1549 (.ref 998), e P "cancel" 1560 (.ref 1005), e P "time_of" 1568 (.ref 1012), e P "next_time" 1575 (.ref 1019), e P "due" 1581 (.ref 1024), e P "keys_until" 1591 (.ref 1031), e P "__static_attributes__" 1598 (.ref 1032), e P "__dict__" 1600 (.ref 1035), e P "__weakref__" 1602 (.ref 1036), e P "__doc__" 1603 .none] 4), #[]⟩
noncomputable def o1034 (P : Params) : Obj := ⟨(.type "type"), none, (.cls { name := s "Wheel", bases := [(.type "object")], mro := [(.ref 1034), (.type "object")], ns := 1033, qualname := s "Wheel", hasDict := true, slotNames := [], subclasses := [], abstract := false, collection := none, hasDel := false }), #[none, none, (some (T "Wheel" 1514)), (some (T "Wheel" 1522)), (some (.builtin "object.__new__")), (some (.bool true))]⟩
noncomputable def o1035 (P : Params) : Obj := ⟨(.type "getset_descriptor"), none, (.fields #[(T "__dict__" 1599), (.ref 1034), (.builtin "function.__dict__"), (.builtin "function.__dict__#set")]), #[]⟩
noncomputable def o1036 (P : Params) : Obj := ⟨(.type "getset_descriptor"), none, (.fields #[(T "__weakref__" 1601), (.ref 1034), (.builtin "ExceptionGroup.__weakref__"), .none]), #[]⟩
noncomputable def o1037 (P : Params) : Obj := ⟨(.type "super"), none, (.fields #[(.ref 1034), (.ref 1034), (.ref 1034)]), #[]⟩
noncomputable def o1038 (P : Params) : Obj := ⟨(.type "builtin_function_or_method"), none, (.fields #[(.builtin "object.__init_subclass__"), (.ref 1034)]), #[]⟩
noncomputable def o1040 (P : Params) : Obj := ⟨(.type "builtin_function_or_method"), none, (.fields #[(.builtin "type.__prepare__"), (.type "type")]), #[]⟩
noncomputable def o1041 (P : Params) : Obj := ⟨(.type "dict"), none, (.dict #[e P "__module__" 1619 (T "thinstack.tcb" 1606), e P "__qualname__" 1621 (T "Limits" 1620), e P "__firstlineno__" 1623 (Z 698 1622), e P "__init__" 1640 (.ref 1052), e P "__static_attributes__" 1651 (.ref 1053)] 5), #[]⟩
noncomputable def o1043 (P : Params) : Obj := ⟨.none, none, (.fields #[(Z 700 0), (Z 4 0), (.ref 1051)]), #[]⟩
noncomputable def o1044 (P : Params) : Obj := ⟨(.type "code"), none, (.fields #[(T "Limits" 1614), (T "Limits" 1615), (T "/claim/cut.py" 1616), (Z 698 0), (Z 0 0), (Z 0 0), (Z 0 0), (Z 0 0), (.ref 1042), (.bool false), (Z 181 0), (.ref 1043), .none, .none, .none, .none, (Z 1617 0), (Z 698 0), (T "/claim/cut.py" 1618)]), #[]⟩
noncomputable def o1045 (P : Params) : Obj := ⟨(.type "frame"), none, .plain, #[(some (.ref 1044)), (some (.ref 3)), (some (.ref 1041)), none, (some (T "thinstack.tcb" 1606)), none, (some (.ref 0))]⟩
noncomputable def o1048 (P : Params) : Obj := ⟨(.type "tuple"), none, (.seq #[(T "self" 1627), (T "ring" 1628), (T "mss" 1629), (T "send_room" 1630), (T "receive_room" 1631), (T "first_timeout" 1632), (T "least_timeout" 1633), (T "most_timeout" 1634), (T "most_tries" 1635), (T "ack_delay" 1636), (T "time_wait" 1637)] 0), #[]⟩
noncomputable def o1050 (P : Params) : Obj := ⟨.none, none, (.func { name := s "__init__", qualname := s "Limits.__init__", params := fP (me 52 0), body := .stmts (fB (me 52 0)), scope := fS (me 52 0), globals := 0, closure := [], defaults := .none, kwdefaults := .none, doc := .none, pyModule := .none, annotations := none, code := .none, closureTuple := .none, builtins := 0 }), #[]⟩
noncomputable def o1051 (P : Params) : Obj := ⟨(.type "code"), none, (.fields #[(T "__init__" 1624), (T "Limits.__init__" 1625), (T "/claim/cut.py" 1626), (Z 700 0), (Z 11 0), (Z 0 0), (Z 0 0), (Z 3 0), (.ref 1046), (.bool true), (Z 181 0), (.ref 1047), .none, (.ref 1048), (.ref 1049), (.ref 1050), (Z 1638 0), (Z 700 0), (T "/claim/cut.py" 1639)]), #[]⟩
noncomputable def o1052 (P : Params) : Obj := ⟨(.type "function"), none, (.func { name := s "__init__", qualname := s "Limits.__init__", params := fP (me 52 0), body := .stmts (fB (me 52 0)), scope := fS (me 52 0), globals := 3, closure := [], defaults := .none, kwdefaults := .none, doc := .none, pyModule := (T "thinstack.tcb" 1606), annotations := none, code := (.ref 1051), closureTuple := .none, builtins := 0 }), #[]⟩
noncomputable def o1053 (P : Params) : Obj := ⟨(.type "tuple"), none, (.seq #[(T "ack_delay" 1641), (T "first_timeout" 1642), (T "least_timeout" 1643), (T "most_timeout" 1644), (T "most_tries" 1645), (T "mss" 1646), (T "receive_room" 1647), (T "ring" 1648), (T "send_room" 1649), (T "time_wait" 1650)] 0), #[]⟩
noncomputable def o1054 (P : Params) : Obj := ⟨(.type "dict"), none, (.dict #[e P "__module__" 1619 (T "thinstack.tcb" 1606), e P "__firstlineno__" 1623 (Z 698 1622), e P "__init__" 1640 (.ref 1052), e P "__static_attributes__" 1651 (.ref 1053), e P "__dict__" 1653 (.ref 1056), e P "__weakref__" 1655 (.ref 1057), e P "__doc__" 1656 .none] 4), #[]⟩
noncomputable def o1055 (P : Params) : Obj := ⟨(.type "type"), none, (.cls { name := s "Limits", bases := [(.type "object")], mro := [(.ref 1055), (.type "object")], ns := 1054, qualname := s "Limits", hasDict := true, slotNames := [], subclasses := [], abstract := false, collection := none, hasDel := false }), #[none, none, (some (T "Limits" 1612)), (some (T "Limits" 1620)), (some (.builtin "object.__new__")), (some (.bool true))]⟩
noncomputable def o1056 (P : Params) : Obj := ⟨(.type "getset_descriptor"), none, (.fields #[(T "__dict__" 1652), (.ref 1055), (.builtin "function.__dict__"), (.builtin "function.__dict__#set")]), #[]⟩
noncomputable def o1057 (P : Params) : Obj := ⟨(.type "getset_descriptor"), none, (.fields #[(T "__weakref__" 1654), (.ref 1055), (.builtin "ExceptionGroup.__weakref__"), .none]), #[]⟩
noncomputable def o1058 (P : Params) : Obj := ⟨(.type "super"), none, (.fields #[(.ref 1055), (.ref 1055), (.ref 1055)]), #[]⟩
noncomputable def o1059 (P : Params) : Obj := ⟨(.type "builtin_function_or_method"), none, (.fields #[(.builtin "object.__init_subclass__"), (.ref 1055)]), #[]⟩
noncomputable def o1062 (P : Params) : Obj := ⟨(.type "tuple"), none, (.seq #[(T "limits" 1662), (T "estimate" 1663)] 0), #[]⟩
noncomputable def o1064 (P : Params) : Obj := ⟨.none, none, (.func { name := s "clock_of", qualname := s "clock_of", params := fP (st 53), body := .stmts (fB (st 53)), scope := fS (st 53), globals := 0, closure := [], defaults := .none, kwdefaults := .none, doc := .none, pyModule := .none, annotations := none, code := .none, closureTuple := .none, builtins := 0 }), #[]⟩
noncomputable def o1065 (P : Params) : Obj := ⟨(.type "code"), none, (.fields #[(T "clock_of" 1659), (T "clock_of" 1660), (T "/claim/cut.py" 1661), (Z 711 0), (Z 1 0), (Z 0 0), (Z 0 0), (Z 3 0), (.ref 1060), (.bool true), (Z 181 0), (.ref 1061), .none, (.ref 1062), (.ref 1063), (.ref 1064), (Z 1664 0), (Z 711 0), (T "/claim/cut.py" 1665)]), #[]⟩
noncomputable def o1066 (P : Params) : Obj := ⟨(.type "function"), none, (.func { name := s "clock_of", qualname := s "clock_of", params := fP (st 53), body := .stmts (fB (st 53)), scope := fS (st 53), globals := 3, closure := [], defaults := .none, kwdefaults := .none, doc := .none, pyModule := (T "thinstack.tcb" 1606), annotations := none, code := (.ref 1065), closureTuple := .none, builtins := 0 }), #[]⟩
noncomputable def o1068 (P : Params) : Obj := ⟨(.type "builtin_function_or_method"), none, (.fields #[(.builtin "type.__prepare__"), (.type "type")]), #[]⟩
noncomputable def o1069 (P : Params) : Obj := ⟨(.type "dict"), none, (.dict #[e P "__module__" 1674 (T "thinstack.tcb" 1606), e P "__qualname__" 1676 (T "Tcb" 1675), e P "__firstlineno__" 1678 (Z 714 1677), e P "__init__" 1689 (.ref 1080), e P "window_now" 1696 (.ref 1087), e P "make" 1710 (.ref 1095), e P "__static_attributes__" 1725 (.ref 1096)] 7), #[]⟩
noncomputable def o1071 (P : Params) : Obj := ⟨.none, none, (.fields #[(Z 716 0), (Z 4 0), (.ref 1079), (Z 732 0), (Z 4 0), (.ref 1086), (Z 737 0), (Z 4 0), (.ref 1094)]), #[]⟩
noncomputable def o1072 (P : Params) : Obj := ⟨(.type "code"), none, (.fields #[(T "Tcb" 1669), (T "Tcb" 1670), (T "/claim/cut.py" 1671), (Z 714 0), (Z 0 0), (Z 0 0), (Z 0 0), (Z 0 0), (.ref 1070), (.bool false), (Z 181 0), (.ref 1071), .none, .none, .none, .none, (Z 1672 0), (Z 714 0), (T "/claim/cut.py" 1673)]), #[]⟩
noncomputable def o1073 (P : Params) : Obj := ⟨(.type "frame"), none, .plain, #[(some (.ref 1072)), (some (.ref 3)), (some (.ref 1069)), none, (some (T "thinstack.tcb" 1606)), none, (some (.ref 0))]⟩
noncomputable def o1076 (P : Params) : Obj := ⟨(.type "tuple"), none, (.seq #[(T "self" 1682), (T "limits" 1683), (T "local" 1684), (T "remote" 1685), (T "iss" 1686)] 0), #[]⟩
noncomputable def o1078 (P : Params) : Obj := ⟨.none, none, (.func { name := s "__init__", qualname := s "Tcb.__init__", params := fP (me 54 0), body := .stmts (fB (me 54 0)), scope := fS (me 54 0), globals := 0, closure := [], defaults := .none, kwdefaults := .none, doc := .none, pyModule := .none, annotations := none, code := .none, closureTuple := .none, builtins := 0 }), #[]⟩
noncomputable def o1079 (P : Params) : Obj := ⟨(.type "code"), none, (.fields #[(T "__init__" 1679), (T "Tcb.__init__" 1680), (T "/claim/cut.py" 1681), (Z 716 0), (Z 5 0), (Z 0 0), (Z 0 0), (Z 3 0), (.ref 1074), (.bool true), (Z 181 0), (.ref 1075), .none, (.ref 1076), (.ref 1077), (.ref 1078), (Z 1687 0), (Z 716 0), (T "/claim/cut.py" 1688)]), #[]⟩
noncomputable def o1080 (P : Params) : Obj := ⟨(.type "function"), none, (.func { name := s "__init__", qualname := s "Tcb.__init__", params := fP (me 54 0), body := .stmts (fB (me 54 0)), scope := fS (me 54 0), globals := 3, closure := [], defaults := .none, kwdefaults := .none, doc := .none, pyModule := (T "thinstack.tcb" 1606), annotations := none, code := (.ref 1079), closureTuple := .none, builtins := 0 }), #[]⟩
noncomputable def o1083 (P : Params) : Obj := ⟨(.type "tuple"), none, (.seq #[(T "self" 1693)] 0), #[]⟩
noncomputable def o1085 (P : Params) : Obj := ⟨.none, none, (.func { name := s "window_now", qualname := s "Tcb.window_now", params := fP (me 54 1), body := .stmts (fB (me 54 1)), scope := fS (me 54 1), globals := 0, closure := [], defaults := .none, kwdefaults := .none, doc := .none, pyModule := .none, annotations := none, code := .none, closureTuple := .none, builtins := 0 }), #[]⟩
noncomputable def o1086 (P : Params) : Obj := ⟨(.type "code"), none, (.fields #[(T "window_now" 1690), (T "Tcb.window_now" 1691), (T "/claim/cut.py" 1692), (Z 732 0), (Z 1 0), (Z 0 0), (Z 0 0), (Z 3 0), (.ref 1081), (.bool true), (Z 181 0), (.ref 1082), .none, (.ref 1083), (.ref 1084), (.ref 1085), (Z 1694 0), (Z 732 0), (T "/claim/cut.py" 1695)]), #[]⟩
noncomputable def o1087 (P : Params) : Obj := ⟨(.type "function"), none, (.func { name := s "window_now", qualname := s "Tcb.window_now", params := fP (me 54 1), body := .stmts (fB (me 54 1)), scope := fS (me 54 1), globals := 3, closure := [], defaults := .none, kwdefaults := .none, doc := .none, pyModule := (T "thinstack.tcb" 1606), annotations := none, code := (.ref 1086), closureTuple := .none, builtins := 0 }), #[]⟩
noncomputable def o1088 (P : Params) : Obj := ⟨(.type "tuple"), none, (.seq #[(.bytes #[] 1697)] 0), #[]⟩
noncomputable def o1091 (P : Params) : Obj := ⟨(.type "tuple"), none, (.seq #[(T "self" 1701), (T "flags" 1702), (T "seq" 1703), (T "payload" 1704), (T "ack" 1705), (T "options" 1706), (T "window" 1707)] 0), #[]⟩
noncomputable def o1093 (P : Params) : Obj := ⟨.none, none, (.func { name := s "make", qualname := s "Tcb.make", params := fP (me 54 2), body := .stmts (fB (me 54 2)), scope := fS (me 54 2), globals := 0, closure := [], defaults := .none, kwdefaults := .none, doc := .none, pyModule := .none, annotations := none, code := .none, closureTuple := .none, builtins := 0 }), #[]⟩
noncomputable def o1094 (P : Params) : Obj := ⟨(.type "code"), none, (.fields #[(T "make" 1698), (T "Tcb.make" 1699), (T "/claim/cut.py" 1700), (Z 737 0), (Z 4 0), (Z 0 0), (Z 0 0), (Z 3 0), (.ref 1089), (.bool true), (Z 181 0), (.ref 1090), .none, (.ref 1091), (.ref 1092), (.ref 1093), (Z 1708 0), (Z 737 0), (T "/claim/cut.py" 1709)]), #[]⟩
noncomputable def o1095 (P : Params) : Obj := ⟨(.type "function"), none, (.func { name := s "make", qualname := s "Tcb.make", params := fP (me 54 2), body := .stmts (fB (me 54 2)), scope := fS (me 54 2), globals := 3, closure := [], defaults := (.ref 1088), kwdefaults := .none, doc := .none, pyModule := (T "thinstack.tcb" 1606), annotations := none, code := (.ref 1094), closureTuple := .none, builtins := 0 }), #[]⟩
noncomputable def o1096 (P : Params) : Obj := ⟨(.type "tuple"), none, (.seq #[(T "acks" 1711), (T "clock" 1712), (T "congestion" 1713), (T "error" 1714), (T "is_nagle" 1715), (T "limits" 1716), (T "local" 1717), (T "probes" 1718), (T "receiver" 1719), (T "remote" 1720), (T "sender" 1721), (T "state" 1722), (T "unanswered" 1723), (T "wheel" 1724)] 0), #[]⟩
noncomputable def o1097 (P : Params) : Obj := ⟨(.type "dict"), none, (.dict #[e P "__module__" 1674 (T "thinstack.tcb" 1606), e P "__firstlineno__" 1678 (Z 714 1677), e P "__init__" 1689 (.ref 1080), e P "window_now" 1696 (.ref 1087), e P "make" 1710 (.ref 1095), e P "__static_attributes__" 1725 (.ref 1096), e P "__dict__" 1727 (.ref 1099), e P "__weakref__" 1729 (.ref 1100), e P "__doc__" 1730 .none] 4), #[]⟩
noncomputable def o1098 (P : Params) : Obj := ⟨(.type "type"), none, (.cls { name := s "Tcb", bases := [(.type "object")], mro := [(.ref 1098), (.type "object")], ns := 1097, qualname := s "Tcb", hasDict := true, slotNames := [], subclasses := [], abstract := false, collection := none, hasDel := false }), #[none, none, (some (T "Tcb" 1667)), (some (T "Tcb" 1675)), (some (.builtin "object.__new__")), (some (.bool true))]⟩
noncomputable def o1099 (P : Params) : Obj := ⟨(.type "getset_descriptor"), none, (.fields #[(T "__dict__" 1726), (.ref 1098), (.builtin "function.__dict__"), (.builtin "function.__dict__#set")]), #[]⟩
noncomputable def o1100 (P : Params) : Obj := ⟨(.type "getset_descriptor"), none, (.fields #[(T "__weakref__" 1728), (.ref 1098), (.builtin "ExceptionGroup.__weakref__"), .none]), #[]⟩
noncomputable def o1101 (P : Params) : Obj := ⟨(.type "super"), none, (.fields #[(.ref 1098), (.ref 1098), (.ref 1098)]), #[]⟩
noncomputable def o1102 (P : Params) : Obj := ⟨(.type "builtin_function_or_method"), none, (.fields #[(.builtin "object.__init_subclass__"), (.ref 1098)]), #[]⟩
noncomputable def o1105 (P : Params) : Obj := ⟨(.type "tuple"), none, (.seq #[(T "tcb" 1738)] 0), #[]⟩
noncomputable def o1107 (P : Params) : Obj := ⟨.none, none, (.func { name := s "ack_segment", qualname := s "ack_segment", params := fP (st 56), body := .stmts (fB (st 56)), scope := fS (st 56), globals := 0, closure := [], defaults := .none, kwdefaults := .none, doc := .none, pyModule := .none, annotations := none, code := .none, closureTuple := .none, builtins := 0 }), #[]⟩
noncomputable def o1108 (P : Params) : Obj := ⟨(.type "code"), none, (.fields #[(T "ack_segment" 1735), (T "ack_segment" 1736), (T "/claim/cut.py" 1737), (Z 748 0), (Z 1 0), (Z 0 0), (Z 0 0), (Z 3 0), (.ref 1103), (.bool true), (Z 181 0), (.ref 1104), .none, (.ref 1105), (.ref 1106), (.ref 1107), (Z 1739 0), (Z 748 0), (T "/claim/cut.py" 1740)]), #[]⟩
noncomputable def o1109 (P : Params) : Obj := ⟨(.type "function"), none, (.func { name := s "ack_segment", qualname := s "ack_segment", params := fP (st 56), body := .stmts (fB (st 56)), scope := fS (st 56), globals := 3, closure := [], defaults := .none, kwdefaults := .none, doc := .none, pyModule := (T "thinstack.tcp_user" 1733), annotations := none, code := (.ref 1108), closureTuple := .none, builtins := 0 }), #[]⟩
noncomputable def o1112 (P : Params) : Obj := ⟨(.type "tuple"), none, (.seq #[(T "script" 1747), (T "k" 1748), (T "cell" 1749), (T "big" 1750), (T "mixed" 1751)] 0), #[]⟩
noncomputable def o1114 (P : Params) : Obj := ⟨.none, none, (.func { name := s "_law_pool", qualname := s "_law_pool", params := fP (st 58), body := .stmts (fB (st 58)), scope := fS (st 58), globals := 0, closure := [], defaults := .none, kwdefaults := .none, doc := .none, pyModule := .none, annotations := none, code := .none, closureTuple := .none, builtins := 0 }), #[]⟩
noncomputable def o1115 (P : Params) : Obj := ⟨(.type "code"), none, (.fields #[(T "_law_pool" 1744), (T "_law_pool" 1745), (T "/claim/cut.py" 1746), (Z 751 0), (Z 2 0), (Z 0 0), (Z 0 0), (Z 3 0), (.ref 1110), (.bool true), (Z 181 0), (.ref 1111), .none, (.ref 1112), (.ref 1113), (.ref 1114), (Z 1752 0), (Z 751 0), (T "/claim/cut.py" 1753)]), #[]⟩
noncomputable def o1116 (P : Params) : Obj := ⟨(.type "function"), none, (.func { name := s "_law_pool", qualname := s "_law_pool", params := fP (st 58), body := .stmts (fB (st 58)), scope := fS (st 58), globals := 3, closure := [], defaults := .none, kwdefaults := .none, doc := .none, pyModule := (T "law_pq1200_01" 1742), annotations := none, code := (.ref 1115), closureTuple := .none, builtins := 0 }), #[]⟩
noncomputable def o1119 (P : Params) : Obj := ⟨(.type "tuple"), none, (.seq #[(T "source" 1758), (T "top" 1759), (T "drawn" 1760)] 0), #[]⟩
noncomputable def o1121 (P : Params) : Obj := ⟨.none, none, (.func { name := s "_law_take", qualname := s "_law_take", params := fP (st 59), body := .stmts (fB (st 59)), scope := fS (st 59), globals := 0, closure := [], defaults := .none, kwdefaults := .none, doc := .none, pyModule := .none, annotations := none, code := .none, closureTuple := .none, builtins := 0 }), #[]⟩
noncomputable def o1122 (P : Params) : Obj := ⟨(.type "code"), none, (.fields #[(T "_law_take" 1755), (T "_law_take" 1756), (T "/claim/cut.py" 1757), (Z 758 0), (Z 2 0), (Z 0 0), (Z 0 0), (Z 3 0), (.ref 1117), (.bool true), (Z 181 0), (.ref 1118), .none, (.ref 1119), (.ref 1120), (.ref 1121), (Z 1761 0), (Z 758 0), (T "/claim/cut.py" 1762)]), #[]⟩
noncomputable def o1123 (P : Params) : Obj := ⟨(.type "function"), none, (.func { name := s "_law_take", qualname := s "_law_take", params := fP (st 59), body := .stmts (fB (st 59)), scope := fS (st 59), globals := 3, closure := [], defaults := .none, kwdefaults := .none, doc := .none, pyModule := (T "law_pq1200_01" 1742), annotations := none, code := (.ref 1122), closureTuple := .none, builtins := 0 }), #[]⟩
noncomputable def o1126 (P : Params) : Obj := ⟨(.type "tuple"), none, (.seq #[(T "source" 1767), (T "things" 1768)] 0), #[]⟩
noncomputable def o1128 (P : Params) : Obj := ⟨.none, none, (.func { name := s "_law_one", qualname := s "_law_one", params := fP (st 60), body := .stmts (fB (st 60)), scope := fS (st 60), globals := 0, closure := [], defaults := .none, kwdefaults := .none, doc := .none, pyModule := .none, annotations := none, code := .none, closureTuple := .none, builtins := 0 }), #[]⟩
noncomputable def o1129 (P : Params) : Obj := ⟨(.type "code"), none, (.fields #[(T "_law_one" 1764), (T "_law_one" 1765), (T "/claim/cut.py" 1766), (Z 765 0), (Z 2 0), (Z 0 0), (Z 0 0), (Z 3 0), (.ref 1124), (.bool true), (Z 181 0), (.ref 1125), .none, (.ref 1126), (.ref 1127), (.ref 1128), (Z 1769 0), (Z 765 0), (T "/claim/cut.py" 1770)]), #[]⟩
noncomputable def o1130 (P : Params) : Obj := ⟨(.type "function"), none, (.func { name := s "_law_one", qualname := s "_law_one", params := fP (st 60), body := .stmts (fB (st 60)), scope := fS (st 60), globals := 3, closure := [], defaults := .none, kwdefaults := .none, doc := .none, pyModule := (T "law_pq1200_01" 1742), annotations := none, code := (.ref 1129), closureTuple := .none, builtins := 0 }), #[]⟩
noncomputable def o1133 (P : Params) : Obj := ⟨(.type "tuple"), none, (.seq #[(T "mss" 1775), (T "first" 1776), (T "own" 1777), (T "tcb" 1778)] 0), #[]⟩
noncomputable def o1135 (P : Params) : Obj := ⟨.none, none, (.func { name := s "_law_made", qualname := s "_law_made", params := fP (st 61), body := .stmts (fB (st 61)), scope := fS (st 61), globals := 0, closure := [], defaults := .none, kwdefaults := .none, doc := .none, pyModule := .none, annotations := none, code := .none, closureTuple := .none, builtins := 0 }), #[]⟩
noncomputable def o1136 (P : Params) : Obj := ⟨(.type "code"), none, (.fields #[(T "_law_made" 1772), (T "_law_made" 1773), (T "/claim/cut.py" 1774), (Z 767 0), (Z 3 0), (Z 0 0), (Z 0 0), (Z 3 0), (.ref 1131), (.bool true), (Z 181 0), (.ref 1132), .none, (.ref 1133), (.ref 1134), (.ref 1135), (Z 1779 0), (Z 767 0), (T "/claim/cut.py" 1780)]), #[]⟩
noncomputable def o1137 (P : Params) : Obj := ⟨(.type "function"), none, (.func { name := s "_law_made", qualname := s "_law_made", params := fP (st 61), body := .stmts (fB (st 61)), scope := fS (st 61), globals := 3, closure := [], defaults := .none, kwdefaults := .none, doc := .none, pyModule := (T "law_pq1200_01" 1742), annotations := none, code := (.ref 1136), closureTuple := .none, builtins := 0 }), #[]⟩
noncomputable def o1140 (P : Params) : Obj := ⟨(.type "tuple"), none, (.seq #[(T "book" 1785)] 0), #[]⟩
noncomputable def o1142 (P : Params) : Obj := ⟨.none, none, (.func { name := s "_law_window", qualname := s "_law_window", params := fP (st 62), body := .stmts (fB (st 62)), scope := fS (st 62), globals := 0, closure := [], defaults := .none, kwdefaults := .none, doc := .none, pyModule := .none, annotations := none, code := .none, closureTuple := .none, builtins := 0 }), #[]⟩
noncomputable def o1143 (P : Params) : Obj := ⟨(.type "code"), none, (.fields #[(T "_law_window" 1782), (T "_law_window" 1783), (T "/claim/cut.py" 1784), (Z 775 0), (Z 1 0), (Z 0 0), (Z 0 0), (Z 3 0), (.ref 1138), (.bool true), (Z 181 0), (.ref 1139), .none, (.ref 1140), (.ref 1141), (.ref 1142), (Z 1786 0), (Z 775 0), (T "/claim/cut.py" 1787)]), #[]⟩
noncomputable def o1144 (P : Params) : Obj := ⟨(.type "function"), none, (.func { name := s "_law_window", qualname := s "_law_window", params := fP (st 62), body := .stmts (fB (st 62)), scope := fS (st 62), globals := 3, closure := [], defaults := .none, kwdefaults := .none, doc := .none, pyModule := (T "law_pq1200_01" 1742), annotations := none, code := (.ref 1143), closureTuple := .none, builtins := 0 }), #[]⟩
noncomputable def o1147 (P : Params) : Obj := ⟨(.type "tuple"), none, (.seq #[(T "tcb" 1792), (T "book" 1793), (T "many" 1794), (T "told" 1795)] 0), #[]⟩
noncomputable def o1149 (P : Params) : Obj := ⟨.none, none, (.func { name := s "_law_come", qualname := s "_law_come", params := fP (st 63), body := .stmts (fB (st 63)), scope := fS (st 63), globals := 0, closure := [], defaults := .none, kwdefaults := .none, doc := .none, pyModule := .none, annotations := none, code := .none, closureTuple := .none, builtins := 0 }), #[]⟩
noncomputable def o1150 (P : Params) : Obj := ⟨(.type "code"), none, (.fields #[(T "_law_come" 1789), (T "_law_come" 1790), (T "/claim/cut.py" 1791), (Z 777 0), (Z 3 0), (Z 0 0), (Z 0 0), (Z 3 0), (.ref 1145), (.bool true), (Z 181 0), (.ref 1146), .none, (.ref 1147), (.ref 1148), (.ref 1149), (Z 1796 0), (Z 777 0), (T "/claim/cut.py" 1797)]), #[]⟩
noncomputable def o1151 (P : Params) : Obj := ⟨(.type "function"), none, (.func { name := s "_law_come", qualname := s "_law_come", params := fP (st 63), body := .stmts (fB (st 63)), scope := fS (st 63), globals := 3, closure := [], defaults := .none, kwdefaults := .none, doc := .none, pyModule := (T "law_pq1200_01" 1742), annotations := none, code := (.ref 1150), closureTuple := .none, builtins := 0 }), #[]⟩
noncomputable def o1154 (P : Params) : Obj := ⟨(.type "tuple"), none, (.seq #[(T "tcb" 1802), (T "book" 1803), (T "many" 1804)] 0), #[]⟩
noncomputable def o1156 (P : Params) : Obj := ⟨.none, none, (.func { name := s "_law_read", qualname := s "_law_read", params := fP (st 64), body := .stmts (fB (st 64)), scope := fS (st 64), globals := 0, closure := [], defaults := .none, kwdefaults := .none, doc := .none, pyModule := .none, annotations := none, code := .none, closureTuple := .none, builtins := 0 }), #[]⟩
noncomputable def o1157 (P : Params) : Obj := ⟨(.type "code"), none, (.fields #[(T "_law_read" 1799), (T "_law_read" 1800), (T "/claim/cut.py" 1801), (Z 784 0), (Z 3 0), (Z 0 0), (Z 0 0), (Z 3 0), (.ref 1152), (.bool true), (Z 181 0), (.ref 1153), .none, (.ref 1154), (.ref 1155), (.ref 1156), (Z 1805 0), (Z 784 0), (T "/claim/cut.py" 1806)]), #[]⟩
noncomputable def o1158 (P : Params) : Obj := ⟨(.type "function"), none, (.func { name := s "_law_read", qualname := s "_law_read", params := fP (st 64), body := .stmts (fB (st 64)), scope := fS (st 64), globals := 3, closure := [], defaults := .none, kwdefaults := .none, doc := .none, pyModule := (T "law_pq1200_01" 1742), annotations := none, code := (.ref 1157), closureTuple := .none, builtins := 0 }), #[]⟩
noncomputable def o1161 (P : Params) : Obj := ⟨(.type "tuple"), none, (.seq #[(T "tcb" 1811), (T "book" 1812), (T "free" 1813), (T "due" 1814)] 0), #[]⟩
noncomputable def o1163 (P : Params) : Obj := ⟨.none, none, (.func { name := s "_law_acked_right", qualname := s "_law_acked_right", params := fP (st 65), body := .stmts (fB (st 65)), scope := fS (st 65), globals := 0, closure := [], defaults := .none, kwdefaults := .none, doc := .none, pyModule := .none, annotations := none, code := .none, closureTuple := .none, builtins := 0 }), #[]⟩
noncomputable def o1164 (P : Params) : Obj := ⟨(.type "code"), none, (.fields #[(T "_law_acked_right" 1808), (T "_law_acked_right" 1809), (T "/claim/cut.py" 1810), (Z 788 0), (Z 2 0), (Z 0 0), (Z 0 0), (Z 3 0), (.ref 1159), (.bool true), (Z 181 0), (.ref 1160), .none, (.ref 1161), (.ref 1162), (.ref 1163), (Z 1815 0), (Z 788 0), (T "/claim/cut.py" 1816)]), #[]⟩
noncomputable def o1165 (P : Params) : Obj := ⟨(.type "function"), none, (.func { name := s "_law_acked_right", qualname := s "_law_acked_right", params := fP (st 65), body := .stmts (fB (st 65)), scope := fS (st 65), globals := 3, closure := [], defaults := .none, kwdefaults := .none, doc := .none, pyModule := (T "law_pq1200_01" 1742), annotations := none, code := (.ref 1164), closureTuple := .none, builtins := 0 }), #[]⟩
noncomputable def o1168 (P : Params) : Obj := ⟨(.type "tuple"), none, (.seq #[(T "tcb" 1821), (T "book" 1822), (T "many" 1823)] 0), #[]⟩
noncomputable def o1170 (P : Params) : Obj := ⟨.none, none, (.func { name := s "_law_sent", qualname := s "_law_sent", params := fP (st 66), body := .stmts (fB (st 66)), scope := fS (st 66), globals := 0, closure := [], defaults := .none, kwdefaults := .none, doc := .none, pyModule := .none, annotations := none, code := .none, closureTuple := .none, builtins := 0 }), #[]⟩
noncomputable def o1171 (P : Params) : Obj := ⟨(.type "code"), none, (.fields #[(T "_law_sent" 1818), (T "_law_sent" 1819), (T "/claim/cut.py" 1820), (Z 794 0), (Z 3 0), (Z 0 0), (Z 0 0), (Z 3 0), (.ref 1166), (.bool true), (Z 181 0), (.ref 1167), .none, (.ref 1168), (.ref 1169), (.ref 1170), (Z 1824 0), (Z 794 0), (T "/claim/cut.py" 1825)]), #[]⟩
noncomputable def o1172 (P : Params) : Obj := ⟨(.type "function"), none, (.func { name := s "_law_sent", qualname := s "_law_sent", params := fP (st 66), body := .stmts (fB (st 66)), scope := fS (st 66), globals := 3, closure := [], defaults := .none, kwdefaults := .none, doc := .none, pyModule := (T "law_pq1200_01" 1742), annotations := none, code := (.ref 1171), closureTuple := .none, builtins := 0 }), #[]⟩
noncomputable def o1175 (P : Params) : Obj := ⟨(.type "tuple"), none, (.seq #[(T "tcb" 1830), (T "book" 1831), (T "many" 1832)] 0), #[]⟩
noncomputable def o1177 (P : Params) : Obj := ⟨.none, none, (.func { name := s "_law_back", qualname := s "_law_back", params := fP (st 67), body := .stmts (fB (st 67)), scope := fS (st 67), globals := 0, closure := [], defaults := .none, kwdefaults := .none, doc := .none, pyModule := .none, annotations := none, code := .none, closureTuple := .none, builtins := 0 }), #[]⟩
noncomputable def o1178 (P : Params) : Obj := ⟨(.type "code"), none, (.fields #[(T "_law_back" 1827), (T "_law_back" 1828), (T "/claim/cut.py" 1829), (Z 800 0), (Z 3 0), (Z 0 0), (Z 0 0), (Z 3 0), (.ref 1173), (.bool true), (Z 181 0), (.ref 1174), .none, (.ref 1175), (.ref 1176), (.ref 1177), (Z 1833 0), (Z 800 0), (T "/claim/cut.py" 1834)]), #[]⟩
noncomputable def o1179 (P : Params) : Obj := ⟨(.type "function"), none, (.func { name := s "_law_back", qualname := s "_law_back", params := fP (st 67), body := .stmts (fB (st 67)), scope := fS (st 67), globals := 3, closure := [], defaults := .none, kwdefaults := .none, doc := .none, pyModule := (T "law_pq1200_01" 1742), annotations := none, code := (.ref 1178), closureTuple := .none, builtins := 0 }), #[]⟩
noncomputable def o1182 (P : Params) : Obj := ⟨.none, none, (.func { name := s "_law_let_right", qualname := s "_law_let_right", params := fP (st 68), body := .stmts (fB (st 68)), scope := fS (st 68), globals := 0, closure := [], defaults := .none, kwdefaults := .none, doc := .none, pyModule := .none, annotations := none, code := .none, closureTuple := .none, builtins := 0 }), #[]⟩
noncomputable def o1183 (P : Params) : Obj := ⟨(.type "code"), none, (.fields #[(T "_law_let_right" 1836), (T "_law_let_right" 1837), (T "/claim/cut.py" 1838), (Z 804 0), (Z 4 0), (Z 0 0), (Z 0 0), (Z 3 0), (.ref 1180), (.bool true), (Z 181 0), (.ref 1181), .none, .none, .none, (.ref 1182), (Z 1839 0), (Z 804 0), (T "/claim/cut.py" 1840)]), #[]⟩
noncomputable def o1184 (P : Params) : Obj := ⟨(.type "function"), none, (.func { name := s "_law_let_right", qualname := s "_law_let_right", params := fP (st 68), body := .stmts (fB (st 68)), scope := fS (st 68), globals := 3, closure := [], defaults := .none, kwdefaults := .none, doc := .none, pyModule := (T "law_pq1200_01" 1742), annotations := none, code := (.ref 1183), closureTuple := .none, builtins := 0 }), #[]⟩
noncomputable def o1187 (P : Params) : Obj := ⟨(.type "tuple"), none, (.seq #[(T "tcb" 1845), (T "book" 1846)] 0), #[]⟩
noncomputable def o1189 (P : Params) : Obj := ⟨.none, none, (.func { name := s "_law_told_first", qualname := s "_law_told_first", params := fP (st 69), body := .stmts (fB (st 69)), scope := fS (st 69), globals := 0, closure := [], defaults := .none, kwdefaults := .none, doc := .none, pyModule := .none, annotations := none, code := .none, closureTuple := .none, builtins := 0 }), #[]⟩
noncomputable def o1190 (P : Params) : Obj := ⟨(.type "code"), none, (.fields #[(T "_law_told_first" 1842), (T "_law_told_first" 1843), (T "/claim/cut.py" 1844), (Z 812 0), (Z 0 0), (Z 0 0), (Z 0 0), (Z 3 0), (.ref 1185), (.bool true), (Z 181 0), (.ref 1186), .none, (.ref 1187), (.ref 1188), (.ref 1189), (Z 1847 0), (Z 812 0), (T "/claim/cut.py" 1848)]), #[]⟩
noncomputable def o1191 (P : Params) : Obj := ⟨(.type "function"), none, (.func { name := s "_law_told_first", qualname := s "_law_told_first", params := fP (st 69), body := .stmts (fB (st 69)), scope := fS (st 69), globals := 3, closure := [], defaults := .none, kwdefaults := .none, doc := .none, pyModule := (T "law_pq1200_01" 1742), annotations := none, code := (.ref 1190), closureTuple := .none, builtins := 0 }), #[]⟩
noncomputable def o1194 (P : Params) : Obj := ⟨(.type "tuple"), none, (.seq #[(T "script" 1853), (T "source" 1854), (T "tcb" 1855), (T "book" 1856), (T "turn" 1857), (T "way" 1858), (T "many" 1859), (T "is_right" 1860), (T "again" 1861), (T "place" 1862)] 0), #[]⟩
noncomputable def o1196 (P : Params) : Obj := ⟨.none, none, (.func { name := s "law", qualname := s "law", params := fP (st 70), body := .stmts (fB (st 70)), scope := fS (st 70), globals := 0, closure := [], defaults := .none, kwdefaults := .none, doc := .none, pyModule := .none, annotations := none, code := .none, closureTuple := .none, builtins := 0 }), #[]⟩
noncomputable def o1197 (P : Params) : Obj := ⟨(.type "code"), none, (.fields #[(T "law" 1850), (T "law" 1851), (T "/claim/cut.py" 1852), (Z 817 0), (Z 1 0), (Z 0 0), (Z 0 0), (Z 3 0), (.ref 1192), (.bool true), (Z 181 0), (.ref 1193), .none, (.ref 1194), (.ref 1195), (.ref 1196), (Z 1863 0), (Z 817 0), (T "/claim/cut.py" 1864)]), #[]⟩
noncomputable def o1198 (P : Params) : Obj := ⟨(.type "function"), none, (.func { name := s "law", qualname := s "law", params := fP (st 70), body := .stmts (fB (st 70)), scope := fS (st 70), globals := 3, closure := [], defaults := .none, kwdefaults := .none, doc := .none, pyModule := (T "law_pq1200_01" 1742), annotations := none, code := (.ref 1197), closureTuple := .none, builtins := 0 }), #[]⟩
noncomputable def H (P : Params) : Heap := ⟨⟨[boot_o_0 P, boot_o_1 P, o2 P, o3 P, boot_o_4 P, boot_o_5 P, boot_o_6 P, boot_o_7 P, boot_o_8 P, boot_o_9 P, boot_o_10 P, oE P, o12 P, o13 P, o14 P, oE P, oF P, o17 P, oE P, o19 P, o20 P, o21 P, oE P, oF P, o24 P, oE P, o26 P, o27 P, o28 P, oE P, oF P, o31 P, oE P, o33 P, o34 P, o35 P, oE P, oF P, o38 P, oE P, o40 P, o41 P, o42 P, oE P, oF P, o45 P, oE P, o47 P, o48 P, o49 P, oE P, oF P, o52 P, oE P, o54 P, o55 P, o56 P, oE P, oF P, o59 P, oE P, o61 P, o62 P, o63 P, oE P, oF P, o66 P, oE P, o68 P, o69 P, o70 P, oE P, oF P, o73 P, oE P, o75 P, o76 P, o77 P, oE P, o79 P, o80 P, oE P, o82 P, o83 P, o84 P, oE P, oF P, o87 P, oE P, o89 P, o90 P, o91 P, oE P, oF P, o94 P, o95 P, o96 P, oE P, oF P, o99 P, oE P, o101 P, o102 P, o103 P, oE P, oF P, o106 P, oE P, o108 P, o109 P, o110 P, oE P, oF P, o113 P, oE P, o115 P, o116 P, o117 P, oE P, oF P, o120 P, oE P, o122 P, o123 P, o124 P, oE P, oF P, o127 P, oE P, o129 P, o130 P, o131 P, oE P, oF P, o134 P, oE P, o136 P, o137 P, o138 P, oE P, oF P, o141 P, oE P, o143 P, o144 P, o145 P, oE P, oF P, o148 P, oE P, o150 P, o151 P, o152 P, oE P, oF P, o155 P, oE P, o157 P, o158 P, o159 P, oE P, oF P, o162 P, oE P, o164 P, o165 P, o166 P, o167 P, o168 P, o169 P, o170 P, o171 P, o172 P, o173 P, oE P, o175 P, o176 P, oE P, o178 P, o179 P, o180 P, o181 P, oE P, oF P, o184 P, oE P, o186 P, o187 P, o188 P, oE P, oF P, o191 P, oE P, o193 P, o194 P, o195 P, oE P, oF P, o198 P, oE P, o200 P, o201 P, o202 P, oE P, oF P, o205 P, oE P, o207 P, o208 P, o209 P, oE P, oF P, o212 P, oE P, o214 P, o215 P, o216 P, oE P, oF P, o219 P, oE P, o221 P, o222 P, o223 P, oE P, oF P, o226 P, oE P, o228 P, o229 P, o230 P, oE P, oF P, o233 P, oE P, o235 P, o236 P, o237 P, oE P, oF P, o240 P, oE P, o242 P, o243 P, o244 P, oE P, oF P, o247 P, oE P, o249 P, o250 P, o251 P, oE P, oF P, o254 P, oE P, o256 P, o257 P, o258 P, oE P, oF P, o261 P, oE P, o263 P, o264 P, o265 P, oE P, oF P, o268 P, oE P, o270 P, o271 P, o272 P, oE P, oF P, o275 P, oE P, o277 P, o278 P, o279 P, oE P, oF P, o282 P, oE P, o284 P, o285 P, o286 P, oE P, oF P, o289 P, oE P, o291 P, o292 P, o293 P, oE P, oF P, o296 P, oE P, o298 P, o299 P, o300 P, o301 P, o302 P, o303 P, o304 P, o305 P, o306 P, o307 P, oE P, o309 P, o310 P, oE P, o312 P, o313 P, o314 P, oE P, oF P, o317 P, oE P, o319 P, o320 P, o321 P, o322 P, oE P, oF P, o325 P, oE P, o327 P, o328 P, o329 P, oE P, oF P, o332 P, oE P, o334 P, o335 P, o336 P, oE P, oF P, o339 P, oE P, o341 P, o342 P, o343 P, oE P, oF P, o346 P, oE P, o348 P, o349 P, o350 P, oE P, oF P, o353 P, oE P, o355 P, o356 P, o357 P, o358 P, o359 P, o360 P, o361 P, o362 P, o363 P, o364 P, oE P, o366 P, o367 P, oE P, o369 P, o370 P, o371 P, oE P, oF P, o374 P, oE P, o376 P, o377 P, o378 P, oE P, oF P, o381 P, oE P, o383 P, o384 P, o385 P, oE P, oF P, o388 P, oE P, o390 P, o391 P, o392 P, oE P, oF P, o395 P, oE P, o397 P, o398 P, o399 P, oE P, oF P, o402 P, oE P, o404 P, o405 P, o406 P, oE P, oF P, o409 P, oE P, o411 P, o412 P, o413 P, oE P, oF P, o416 P, oE P, o418 P, o419 P, o420 P, oE P, oF P, o423 P, oE P, o425 P, o426 P, o427 P, oE P, oF P, o430 P, oE P, o432 P, o433 P, o434 P, oE P, oF P, o437 P, oE P, o439 P, o440 P, o441 P, o442 P, o443 P, o444 P, o445 P, o446 P, o447 P, o448 P, oE P, o450 P, o451 P, oE P, o453 P, o454 P, o455 P, oE P, oF P, o458 P, oE P, o460 P, o461 P, o462 P, oE P, oF P, o465 P, oE P, o467 P, o468 P, o469 P, oE P, oF P, o472 P, oE P, o474 P, o475 P, o476 P, oE P, oF P, o479 P, oE P, o481 P, o482 P, o483 P, oE P, oF P, o486 P, oE P, o488 P, o489 P, o490 P, oE P, oF P, o493 P, oE P, o495 P, o496 P, o497 P, oE P, oF P, o500 P, oE P, o502 P, o503 P, o504 P, oE P, oF P, o507 P, oE P, o509 P, o510 P, o511 P, oE P, oF P, o514 P, oE P, o516 P, o517 P, o518 P, o519 P, o520 P, o521 P, o522 P, o523 P, o524 P, o525 P, oE P, o527 P, o528 P, oE P, o530 P, o531 P, o532 P, oE P, oF P, o535 P, oE P, o537 P, o538 P, o539 P, oE P, oF P, o542 P, oE P, o544 P, o545 P, o546 P, oE P, oF P, o549 P, oE P, o551 P, o552 P, o553 P, oE P, oF P, o556 P, oE P, o558 P, o559 P, o560 P, oE P, oF P, o563 P, oE P, o565 P, o566 P, o567 P, oE P, oF P, o570 P, oE P, o572 P, o573 P, o574 P, o575 P, o576 P, o577 P, o578 P, o579 P, o580 P, o581 P, o582 P, o583 P, o584 P, oE P, o586 P, o587 P, o588 P, oE P, oF P, o591 P, oE P, o593 P, o594 P, o595 P, o596 P, o597 P, o598 P, o599 P, o600 P, o601 P, o602 P, o603 P, o604 P, oE P, oF P, o607 P, o608 P, oE P, o610 P, o611 P, o612 P, o613 P, o614 P, o615 P, o616 P, oE P, oF P, o619 P, o620 P, oE P, o622 P, o623 P, o624 P, o625 P, oE P, o627 P, o628 P, oE P, o630 P, o631 P, o632 P, oE P, oF P, o635 P, oE P, o637 P, o638 P, o639 P, oE P, oF P, o642 P, oE P, o644 P, o645 P, o646 P, oE P, oF P, o649 P, oE P, o651 P, o652 P, o653 P, oE P, oF P, o656 P, oE P, o658 P, o659 P, o660 P, oE P, oF P, o663 P, oE P, o665 P, o666 P, o667 P, oE P, oF P, o670 P, oE P, o672 P, o673 P, o674 P, o675 P, o676 P, o677 P, o678 P, o679 P, o680 P, o681 P, oE P, o683 P, o684 P, oE P, o686 P, o687 P, o688 P, oE P, oF P, o691 P, oE P, o693 P, o694 P, o695 P, oE P, oF P, o698 P, oE P, o700 P, o701 P, o702 P, oE P, oF P, o705 P, oE P, o707 P, o708 P, o709 P, o710 P, o711 P, o712 P, o713 P, o714 P, o715 P, o716 P, oE P, o718 P, o719 P, oE P, o721 P, o722 P, o723 P, oE P, oF P, o726 P, oE P, o728 P, o729 P, o730 P, oE P, oF P, o733 P, oE P, o735 P, o736 P, o737 P, o738 P, oE P, oF P, o741 P, oE P, o743 P, o744 P, o745 P, oE P, oF P, o748 P, oE P, o750 P, o751 P, o752 P, oE P, oF P, o755 P, oE P, o757 P, o758 P, o759 P, oE P, oF P, o762 P, oE P, o764 P, o765 P, o766 P, oE P, oF P, o769 P, oE P, o771 P, o772 P, o773 P, oE P, oF P, o776 P, oE P, o778 P, o779 P, o780 P, oE P, oF P, o783 P, oE P, o785 P, o786 P, o787 P, oE P, oF P, o790 P, oE P, o792 P, o793 P, o794 P, oE P, oF P, o797 P, oE P, o799 P, o800 P, o801 P, oE P, oF P, o804 P, oE P, o806 P, o807 P, o808 P, oE P, oF P, o811 P, oE P, o813 P, o814 P, o815 P, oE P, oF P, o818 P, oE P, o820 P, o821 P, o822 P, oE P, oF P, o825 P, oE P, o827 P, o828 P, o829 P, o830 P, oE P, oF P, o833 P, oE P, o835 P, o836 P, o837 P, oE P, oF P, o840 P, oE P, o842 P, o843 P, o844 P, oE P, oF P, o847 P, oE P, o849 P, o850 P, o851 P, oE P, oF P, o854 P, oE P, o856 P, o857 P, o858 P, oE P, oF P, o861 P, oE P, o863 P, o864 P, o865 P, oE P, oF P, o868 P, oE P, o870 P, o871 P, o872 P, oE P, oF P, o875 P, oE P, o877 P, o878 P, o879 P, oE P, oF P, o882 P, oE P, o884 P, o885 P, o886 P, oE P, oF P, o889 P, oE P, o891 P, o892 P, o893 P, oE P, oF P, o896 P, oE P, o898 P, o899 P, o900 P, o901 P, o902 P, o903 P, o904 P, o905 P, o906 P, o907 P, oE P, oF P, o910 P, oE P, o912 P, o913 P, o914 P, oE P, o916 P, o917 P, oE P, o919 P, o920 P, o921 P, o922 P, oE P, oF P, o925 P, oE P, o927 P, o928 P, o929 P, oE P, oF P, o932 P, oE P, o934 P, o935 P, o936 P, oE P, oF P, o939 P, oE P, o941 P, o942 P, o943 P, oE P, oF P, o946 P, oE P, o948 P, o949 P, o950 P, o951 P, o952 P, o953 P, o954 P, o955 P, o956 P, o957 P, oE P, oF P, o960 P, oE P, o962 P, o963 P, o964 P, oE P, oF P, o967 P, oE P, o969 P, o970 P, o971 P, oE P, o973 P, o974 P, oE P, o976 P, o977 P, o978 P, o979 P, oE P, oF P, o982 P, o983 P, o984 P, oE P, oF P, o987 P, oE P, o989 P, o990 P, o991 P, oE P, oF P, o994 P, oE P, o996 P, o997 P, o998 P, oE P, oF P, o1001 P, oE P, o1003 P, o1004 P, o1005 P, oE P, oF P, o1008 P, oE P, o1010 P, o1011 P, o1012 P, oE P, oF P, o1015 P, oE P, o1017 P, o1018 P, o1019 P, oE P, oF P, o1022 P, o1023 P, o1024 P, oE P, oF P, o1027 P, oE P, o1029 P, o1030 P, o1031 P, o1032 P, o1033 P, o1034 P, o1035 P, o1036 P, o1037 P, o1038 P, oE P, o1040 P, o1041 P, oE P, o1043 P, o1044 P, o1045 P, oE P, oF P, o1048 P, oE P, o1050 P, o1051 P, o1052 P, o1053 P, o1054 P, o1055 P, o1056 P, o1057 P, o1058 P, o1059 P, oE P, oF P, o1062 P, oE P, o1064 P, o1065 P, o1066 P, oE P, o1068 P, o1069 P, oE P, o1071 P, o1072 P, o1073 P, oE P, oF P, o1076 P, oE P, o1078 P, o1079 P, o1080 P, oE P, oF P, o1083 P, oE P, o1085 P, o1086 P, o1087 P, o1088 P, oE P, oF P, o1091 P, oE P, o1093 P, o1094 P, o1095 P, o1096 P, o1097 P, o1098 P, o1099 P, o1100 P, o1101 P, o1102 P, oE P, oF P, o1105 P, oE P, o1107 P, o1108 P, o1109 P, oE P, oF P, o1112 P, oE P, o1114 P, o1115 P, o1116 P, oE P, oF P, o1119 P, oE P, o1121 P, o1122 P, o1123 P, oE P, oF P, o1126 P, oE P, o1128 P, o1129 P, o1130 P, oE P, oF P, o1133 P, oE P, o1135 P, o1136 P, o1137 P, oE P, oF P, o1140 P, oE P, o1142 P, o1143 P, o1144 P, oE P, oF P, o1147 P, oE P, o1149 P, o1150 P, o1151 P, oE P, oF P, o1154 P, oE P, o1156 P, o1157 P, o1158 P, oE P, oF P, o1161 P, oE P, o1163 P, o1164 P, o1165 P, oE P, oF P, o1168 P, oE P, o1170 P, o1171 P, o1172 P, oE P, oF P, o1175 P, oE P, o1177 P, o1178 P, o1179 P, oE P, oF P, o1182 P, o1183 P, o1184 P, oE P, oF P, o1187 P, oE P, o1189 P, o1190 P, o1191 P, oE P, oF P, o1194 P, oE P, o1196 P, o1197 P, o1198 P]⟩, {}⟩
noncomputable def K (P : Params) : Frag := (nat_lit 2, o2 P) :: (nat_lit 3, o3 P) :: (nat_lit 20, o20 P) :: (nat_lit 21, o21 P) :: (nat_lit 27, o27 P) :: (nat_lit 28, o28 P) :: (nat_lit 34, o34 P) :: (nat_lit 35, o35 P) :: (nat_lit 41, o41 P) :: (nat_lit 42, o42 P) :: (nat_lit 48, o48 P) :: (nat_lit 49, o49 P) :: (nat_lit 55, o55 P) :: (nat_lit 56, o56 P) :: (nat_lit 62, o62 P) :: (nat_lit 63, o63 P) :: (nat_lit 69, o69 P) :: (nat_lit 70, o70 P) :: (nat_lit 76, o76 P) :: (nat_lit 77, o77 P) :: (nat_lit 90, o90 P) :: (nat_lit 91, o91 P) :: (nat_lit 95, o95 P) :: (nat_lit 96, o96 P) :: (nat_lit 102, o102 P) :: (nat_lit 103, o103 P) :: (nat_lit 109, o109 P) :: (nat_lit 110, o110 P) :: (nat_lit 116, o116 P) :: (nat_lit 117, o117 P) :: (nat_lit 123, o123 P) :: (nat_lit 124, o124 P) :: (nat_lit 130, o130 P) :: (nat_lit 131, o131 P) :: (nat_lit 137, o137 P) :: (nat_lit 138, o138 P) :: (nat_lit 144, o144 P) :: (nat_lit 145, o145 P) :: (nat_lit 151, o151 P) :: (nat_lit 152, o152 P) :: (nat_lit 158, o158 P) :: (nat_lit 159, o159 P) :: (nat_lit 165, o165 P) :: (nat_lit 166, o166 P) :: (nat_lit 168, o168 P) :: (nat_lit 169, o169 P) :: (nat_lit 181, o181 P) :: (nat_lit 187, o187 P) :: (nat_lit 188, o188 P) :: (nat_lit 194, o194 P) :: (nat_lit 195, o195 P) :: (nat_lit 201, o201 P) :: (nat_lit 202, o202 P) :: (nat_lit 208, o208 P) :: (nat_lit 209, o209 P) :: (nat_lit 215, o215 P) :: (nat_lit 216, o216 P) :: (nat_lit 222, o222 P) :: (nat_lit 223, o223 P) :: (nat_lit 229, o229 P) :: (nat_lit 230, o230 P) :: (nat_lit 236, o236 P) :: (nat_lit 237, o237 P) :: (nat_lit 243, o243 P) :: (nat_lit 244, o244 P) :: (nat_lit 250, o250 P) :: (nat_lit 251, o251 P) :: (nat_lit 257, o257 P) :: (nat_lit 258, o258 P) :: (nat_lit 264, o264 P) :: (nat_lit 265, o265 P) :: (nat_lit 271, o271 P) :: (nat_lit 272, o272 P) :: (nat_lit 278, o278 P) :: (nat_lit 279, o279 P) :: (nat_lit 285, o285 P) :: (nat_lit 286, o286 P) :: (nat_lit 292, o292 P) :: (nat_lit 293, o293 P) :: (nat_lit 299, o299 P) :: (nat_lit 300, o300 P) :: (nat_lit 302, o302 P) :: (nat_lit 303, o303 P) :: (nat_lit 320, o320 P) :: (nat_lit 321, o321 P) :: (nat_lit 322, o322 P) :: (nat_lit 328, o328 P) :: (nat_lit 329, o329 P) :: (nat_lit 335, o335 P) :: (nat_lit 336, o336 P) :: (nat_lit 342, o342 P) :: (nat_lit 343, o343 P) :: (nat_lit 349, o349 P) :: (nat_lit 350, o350 P) :: (nat_lit 356, o356 P) :: (nat_lit 357, o357 P) :: (nat_lit 359, o359 P) :: (nat_lit 360, o360 P) :: (nat_lit 377, o377 P) :: (nat_lit 378, o378 P) :: (nat_lit 384, o384 P) :: (nat_lit 385, o385 P) :: (nat_lit 391, o391 P) :: (nat_lit 392, o392 P) :: (nat_lit 398, o398 P) :: (nat_lit 399, o399 P) :: (nat_lit 405, o405 P) :: (nat_lit 406, o406 P) :: (nat_lit 412, o412 P) :: (nat_lit 413, o413 P) :: (nat_lit 419, o419 P) :: (nat_lit 420, o420 P) :: (nat_lit 426, o426 P) :: (nat_lit 427, o427 P) :: (nat_lit 433, o433 P) :: (nat_lit 434, o434 P) :: (nat_lit 440, o440 P) :: (nat_lit 441, o441 P) :: (nat_lit 443, o443 P) :: (nat_lit 444, o444 P) :: (nat_lit 461, o461 P) :: (nat_lit 462, o462 P) :: (nat_lit 468, o468 P) :: (nat_lit 469, o469 P) :: (nat_lit 475, o475 P) :: (nat_lit 476, o476 P) :: (nat_lit 482, o482 P) :: (nat_lit 483, o483 P) :: (nat_lit 489, o489 P) :: (nat_lit 490, o490 P) :: (nat_lit 496, o496 P) :: (nat_lit 497, o497 P) :: (nat_lit 503, o503 P) :: (nat_lit 504, o504 P) :: (nat_lit 510, o510 P) :: (nat_lit 511, o511 P) :: (nat_lit 517, o517 P) :: (nat_lit 518, o518 P) :: (nat_lit 520, o520 P) :: (nat_lit 521, o521 P) :: (nat_lit 538, o538 P) :: (nat_lit 539, o539 P) :: (nat_lit 545, o545 P) :: (nat_lit 546, o546 P) :: (nat_lit 552, o552 P) :: (nat_lit 553, o553 P) :: (nat_lit 559, o559 P) :: (nat_lit 560, o560 P) :: (nat_lit 566, o566 P) :: (nat_lit 567, o567 P) :: (nat_lit 573, o573 P) :: (nat_lit 574, o574 P) :: (nat_lit 576, o576 P) :: (nat_lit 577, o577 P) :: (nat_lit 594, o594 P) :: (nat_lit 595, o595 P) :: (nat_lit 597, o597 P) :: (nat_lit 598, o598 P) :: (nat_lit 610, o610 P) :: (nat_lit 611, o611 P) :: (nat_lit 622, o622 P) :: (nat_lit 623, o623 P) :: (nat_lit 638, o638 P) :: (nat_lit 639, o639 P) :: (nat_lit 645, o645 P) :: (nat_lit 646, o646 P) :: (nat_lit 652, o652 P) :: (nat_lit 653, o653 P) :: (nat_lit 659, o659 P) :: (nat_lit 660, o660 P) :: (nat_lit 666, o666 P) :: (nat_lit 667, o667 P) :: (nat_lit 673, o673 P) :: (nat_lit 674, o674 P) :: (nat_lit 676, o676 P) :: (nat_lit 677, o677 P) :: (nat_lit 694, o694 P) :: (nat_lit 695, o695 P) :: (nat_lit 701, o701 P) :: (nat_lit 702, o702 P) :: (nat_lit 708, o708 P) :: (nat_lit 709, o709 P) :: (nat_lit 711, o711 P) :: (nat_lit 712, o712 P) :: (nat_lit 729, o729 P) :: (nat_lit 730, o730 P) :: (nat_lit 736, o736 P) :: (nat_lit 737, o737 P) :: (nat_lit 738, o738 P) :: (nat_lit 744, o744 P) :: (nat_lit 745, o745 P) :: (nat_lit 751, o751 P) :: (nat_lit 752, o752 P) :: (nat_lit 758, o758 P) :: (nat_lit 759, o759 P) :: (nat_lit 765, o765 P) :: (nat_lit 766, o766 P) :: (nat_lit 772, o772 P) :: (nat_lit 773, o773 P) :: (nat_lit 779, o779 P) :: (nat_lit 780, o780 P) :: (nat_lit 786, o786 P) :: (nat_lit 787, o787 P) :: (nat_lit 793, o793 P) :: (nat_lit 794, o794 P) :: (nat_lit 800, o800 P) :: (nat_lit 801, o801 P) :: (nat_lit 807, o807 P) :: (nat_lit 808, o808 P) :: (nat_lit 814, o814 P) :: (nat_lit 815, o815 P) :: (nat_lit 821, o821 P) :: (nat_lit 822, o822 P) :: (nat_lit 828, o828 P) :: (nat_lit 829, o829 P) :: (nat_lit 830, o830 P) :: (nat_lit 836, o836 P) :: (nat_lit 837, o837 P) :: (nat_lit 843, o843 P) :: (nat_lit 844, o844 P) :: (nat_lit 850, o850 P) :: (nat_lit 851, o851 P) :: (nat_lit 857, o857 P) :: (nat_lit 858, o858 P) :: (nat_lit 864, o864 P) :: (nat_lit 865, o865 P) :: (nat_lit 871, o871 P) :: (nat_lit 872, o872 P) :: (nat_lit 878, o878 P) :: (nat_lit 879, o879 P) :: (nat_lit 885, o885 P) :: (nat_lit 886, o886 P) :: (nat_lit 892, o892 P) :: (nat_lit 893, o893 P) :: (nat_lit 899, o899 P) :: (nat_lit 900, o900 P) :: (nat_lit 902, o902 P) :: (nat_lit 903, o903 P) :: (nat_lit 913, o913 P) :: (nat_lit 914, o914 P) :: (nat_lit 922, o922 P) :: (nat_lit 928, o928 P) :: (nat_lit 929, o929 P) :: (nat_lit 935, o935 P) :: (nat_lit 936, o936 P) :: (nat_lit 942, o942 P) :: (nat_lit 943, o943 P) :: (nat_lit 949, o949 P) :: (nat_lit 950, o950 P) :: (nat_lit 952, o952 P) :: (nat_lit 953, o953 P) :: (nat_lit 963, o963 P) :: (nat_lit 964, o964 P) :: (nat_lit 970, o970 P) :: (nat_lit 971, o971 P) :: (nat_lit 979, o979 P) :: (nat_lit 983, o983 P) :: (nat_lit 984, o984 P) :: (nat_lit 990, o990 P) :: (nat_lit 991, o991 P) :: (nat_lit 997, o997 P) :: (nat_lit 998, o998 P) :: (nat_lit 1004, o1004 P) :: (nat_lit 1005, o1005 P) :: (nat_lit 1011, o1011 P) :: (nat_lit 1012, o1012 P) :: (nat_lit 1018, o1018 P) :: (nat_lit 1019, o1019 P) :: (nat_lit 1023, o1023 P) :: (nat_lit 1024, o1024 P) :: (nat_lit 1030, o1030 P) :: (nat_lit 1031, o1031 P) :: (nat_lit 1033, o1033 P) :: (nat_lit 1034, o1034 P) :: (nat_lit 1051, o1051 P) :: (nat_lit 1052, o1052 P) :: (nat_lit 1054, o1054 P) :: (nat_lit 1055, o1055 P) :: (nat_lit 1065, o1065 P) :: (nat_lit 1066, o1066 P) :: (nat_lit 1079, o1079 P) :: (nat_lit 1080, o1080 P) :: (nat_lit 1086, o1086 P) :: (nat_lit 1087, o1087 P) :: (nat_lit 1088, o1088 P) :: (nat_lit 1094, o1094 P) :: (nat_lit 1095, o1095 P) :: (nat_lit 1097, o1097 P) :: (nat_lit 1098, o1098 P) :: (nat_lit 1108, o1108 P) :: (nat_lit 1109, o1109 P) :: (nat_lit 1115, o1115 P) :: (nat_lit 1116, o1116 P) :: (nat_lit 1122, o1122 P) :: (nat_lit 1123, o1123 P) :: (nat_lit 1129, o1129 P) :: (nat_lit 1130, o1130 P) :: (nat_lit 1136, o1136 P) :: (nat_lit 1137, o1137 P) :: (nat_lit 1143, o1143 P) :: (nat_lit 1144, o1144 P) :: (nat_lit 1150, o1150 P) :: (nat_lit 1151, o1151 P) :: (nat_lit 1157, o1157 P) :: (nat_lit 1158, o1158 P) :: (nat_lit 1164, o1164 P) :: (nat_lit 1165, o1165 P) :: (nat_lit 1171, o1171 P) :: (nat_lit 1172, o1172 P) :: (nat_lit 1178, o1178 P) :: (nat_lit 1179, o1179 P) :: (nat_lit 1183, o1183 P) :: (nat_lit 1184, o1184 P) :: (nat_lit 1190, o1190 P) :: (nat_lit 1191, o1191 P) :: (nat_lit 1197, o1197 P) :: (nat_lit 1198, o1198 P) :: []
noncomputable def Ks : List Addr := nat_lit 2 :: nat_lit 3 :: nat_lit 20 :: nat_lit 21 :: nat_lit 27 :: nat_lit 28 :: nat_lit 34 :: nat_lit 35 :: nat_lit 41 :: nat_lit 42 :: nat_lit 48 :: nat_lit 49 :: nat_lit 55 :: nat_lit 56 :: nat_lit 62 :: nat_lit 63 :: nat_lit 69 :: nat_lit 70 :: nat_lit 76 :: nat_lit 77 :: nat_lit 90 :: nat_lit 91 :: nat_lit 95 :: nat_lit 96 :: nat_lit 102 :: nat_lit 103 :: nat_lit 109 :: nat_lit 110 :: nat_lit 116 :: nat_lit 117 :: nat_lit 123 :: nat_lit 124 :: nat_lit 130 :: nat_lit 131 :: nat_lit 137 :: nat_lit 138 :: nat_lit 144 :: nat_lit 145 :: nat_lit 151 :: nat_lit 152 :: nat_lit 158 :: nat_lit 159 :: nat_lit 165 :: nat_lit 166 :: nat_lit 168 :: nat_lit 169 :: nat_lit 181 :: nat_lit 187 :: nat_lit 188 :: nat_lit 194 :: nat_lit 195 :: nat_lit 201 :: nat_lit 202 :: nat_lit 208 :: nat_lit 209 :: nat_lit 215 :: nat_lit 216 :: nat_lit 222 :: nat_lit 223 :: nat_lit 229 :: nat_lit 230 :: nat_lit 236 :: nat_lit 237 :: nat_lit 243 :: nat_lit 244 :: nat_lit 250 :: nat_lit 251 :: nat_lit 257 :: nat_lit 258 :: nat_lit 264 :: nat_lit 265 :: nat_lit 271 :: nat_lit 272 :: nat_lit 278 :: nat_lit 279 :: nat_lit 285 :: nat_lit 286 :: nat_lit 292 :: nat_lit 293 :: nat_lit 299 :: nat_lit 300 :: nat_lit 302 :: nat_lit 303 :: nat_lit 320 :: nat_lit 321 :: nat_lit 322 :: nat_lit 328 :: nat_lit 329 :: nat_lit 335 :: nat_lit 336 :: nat_lit 342 :: nat_lit 343 :: nat_lit 349 :: nat_lit 350 :: nat_lit 356 :: nat_lit 357 :: nat_lit 359 :: nat_lit 360 :: nat_lit 377 :: nat_lit 378 :: nat_lit 384 :: nat_lit 385 :: nat_lit 391 :: nat_lit 392 :: nat_lit 398 :: nat_lit 399 :: nat_lit 405 :: nat_lit 406 :: nat_lit 412 :: nat_lit 413 :: nat_lit 419 :: nat_lit 420 :: nat_lit 426 :: nat_lit 427 :: nat_lit 433 :: nat_lit 434 :: nat_lit 440 :: nat_lit 441 :: nat_lit 443 :: nat_lit 444 :: nat_lit 461 :: nat_lit 462 :: nat_lit 468 :: nat_lit 469 :: nat_lit 475 :: nat_lit 476 :: nat_lit 482 :: nat_lit 483 :: nat_lit 489 :: nat_lit 490 :: nat_lit 496 :: nat_lit 497 :: nat_lit 503 :: nat_lit 504 :: nat_lit 510 :: nat_lit 511 :: nat_lit 517 :: nat_lit 518 :: nat_lit 520 :: nat_lit 521 :: nat_lit 538 :: nat_lit 539 :: nat_lit 545 :: nat_lit 546 :: nat_lit 552 :: nat_lit 553 :: nat_lit 559 :: nat_lit 560 :: nat_lit 566 :: nat_lit 567 :: nat_lit 573 :: nat_lit 574 :: nat_lit 576 :: nat_lit 577 :: nat_lit 594 :: nat_lit 595 :: nat_lit 597 :: nat_lit 598 :: nat_lit 610 :: nat_lit 611 :: nat_lit 622 :: nat_lit 623 :: nat_lit 638 :: nat_lit 639 :: nat_lit 645 :: nat_lit 646 :: nat_lit 652 :: nat_lit 653 :: nat_lit 659 :: nat_lit 660 :: nat_lit 666 :: nat_lit 667 :: nat_lit 673 :: nat_lit 674 :: nat_lit 676 :: nat_lit 677 :: nat_lit 694 :: nat_lit 695 :: nat_lit 701 :: nat_lit 702 :: nat_lit 708 :: nat_lit 709 :: nat_lit 711 :: nat_lit 712 :: nat_lit 729 :: nat_lit 730 :: nat_lit 736 :: nat_lit 737 :: nat_lit 738 :: nat_lit 744 :: nat_lit 745 :: nat_lit 751 :: nat_lit 752 :: nat_lit 758 :: nat_lit 759 :: nat_lit 765 :: nat_lit 766 :: nat_lit 772 :: nat_lit 773 :: nat_lit 779 :: nat_lit 780 :: nat_lit 786 :: nat_lit 787 :: nat_lit 793 :: nat_lit 794 :: nat_lit 800 :: nat_lit 801 :: nat_lit 807 :: nat_lit 808 :: nat_lit 814 :: nat_lit 815 :: nat_lit 821 :: nat_lit 822 :: nat_lit 828 :: nat_lit 829 :: nat_lit 830 :: nat_lit 836 :: nat_lit 837 :: nat_lit 843 :: nat_lit 844 :: nat_lit 850 :: nat_lit 851 :: nat_lit 857 :: nat_lit 858 :: nat_lit 864 :: nat_lit 865 :: nat_lit 871 :: nat_lit 872 :: nat_lit 878 :: nat_lit 879 :: nat_lit 885 :: nat_lit 886 :: nat_lit 892 :: nat_lit 893 :: nat_lit 899 :: nat_lit 900 :: nat_lit 902 :: nat_lit 903 :: nat_lit 913 :: nat_lit 914 :: nat_lit 922 :: nat_lit 928 :: nat_lit 929 :: nat_lit 935 :: nat_lit 936 :: nat_lit 942 :: nat_lit 943 :: nat_lit 949 :: nat_lit 950 :: nat_lit 952 :: nat_lit 953 :: nat_lit 963 :: nat_lit 964 :: nat_lit 970 :: nat_lit 971 :: nat_lit 979 :: nat_lit 983 :: nat_lit 984 :: nat_lit 990 :: nat_lit 991 :: nat_lit 997 :: nat_lit 998 :: nat_lit 1004 :: nat_lit 1005 :: nat_lit 1011 :: nat_lit 1012 :: nat_lit 1018 :: nat_lit 1019 :: nat_lit 1023 :: nat_lit 1024 :: nat_lit 1030 :: nat_lit 1031 :: nat_lit 1033 :: nat_lit 1034 :: nat_lit 1051 :: nat_lit 1052 :: nat_lit 1054 :: nat_lit 1055 :: nat_lit 1065 :: nat_lit 1066 :: nat_lit 1079 :: nat_lit 1080 :: nat_lit 1086 :: nat_lit 1087 :: nat_lit 1088 :: nat_lit 1094 :: nat_lit 1095 :: nat_lit 1097 :: nat_lit 1098 :: nat_lit 1108 :: nat_lit 1109 :: nat_lit 1115 :: nat_lit 1116 :: nat_lit 1122 :: nat_lit 1123 :: nat_lit 1129 :: nat_lit 1130 :: nat_lit 1136 :: nat_lit 1137 :: nat_lit 1143 :: nat_lit 1144 :: nat_lit 1150 :: nat_lit 1151 :: nat_lit 1157 :: nat_lit 1158 :: nat_lit 1164 :: nat_lit 1165 :: nat_lit 1171 :: nat_lit 1172 :: nat_lit 1178 :: nat_lit 1179 :: nat_lit 1183 :: nat_lit 1184 :: nat_lit 1190 :: nat_lit 1191 :: nat_lit 1197 :: nat_lit 1198 :: []

end
section
open PySem PySem.W PyProof.Rows
noncomputable def p12 (P : Params) : Obj := ⟨.none, none, (.fields #[]), #[]⟩
noncomputable def Ha (P : Params) : Heap := ⟨⟨[boot_o_0 P, boot_o_1 P, boot_o_2 P, boot_o_3 P, boot_o_4 P, boot_o_5 P, boot_o_6 P, boot_o_7 P, boot_o_8 P, boot_o_9 P, boot_o_10 P, oE P, p12 P, o13 P, o14 P]⟩, {}⟩
noncomputable def Ta (P : Params) : BT := (.node (boot_o_0 P) (.node (boot_o_1 P) (.node (boot_o_3 P) (.node (boot_o_7 P) .nil .nil) (.node (oE P) .nil .nil)) (.node (boot_o_5 P) (.node (boot_o_9 P) .nil .nil) (.node (o13 P) .nil .nil))) (.node (boot_o_2 P) (.node (boot_o_4 P) (.node (boot_o_8 P) .nil .nil) (.node (p12 P) .nil .nil)) (.node (boot_o_6 P) (.node (boot_o_10 P) .nil .nil) (.node (o14 P) .nil .nil))))
noncomputable def Tf (P : Params) : BT := (.node (boot_o_0 P) (.node (boot_o_1 P) (.node (o3 P) (.node (boot_o_7 P) (.node (oE P) (.node (o31 P) (.node (o63 P) (.node (o127 P) (.node (oE P) (.node (o511 P) (.node (o1023 P) .nil .nil) .nil) (.node (oE P) .nil .nil)) (.node (o383 P) (.node (o639 P) (.node (o1151 P) .nil .nil) .nil) (.node (oF P) .nil .nil))) (.node (o191 P) (.node (o319 P) (.node (o575 P) (.node (o1087 P) .nil .nil) .nil) (.node (oE P) .nil .nil)) (.node (o447 P) (.node (oE P) .nil .nil) (.node (oF P) .nil .nil)))) (.node (o95 P) (.node (o159 P) (.node (oE P) (.node (oE P) (.node (o1055 P) .nil .nil) .nil) (.node (o799 P) .nil .nil)) (.node (oF P) (.node (oE P) (.node (o1183 P) .nil .nil) .nil) (.node (o927 P) .nil .nil))) (.node (o223 P) (.node (oE P) (.node (o607 P) (.node (o1119 P) .nil .nil) .nil) (.node (o863 P) .nil .nil)) (.node (o479 P) (.node (o735 P) .nil .nil) (.node (o991 P) .nil .nil))))) (.node (o47 P) (.node (o79 P) (.node (o143 P) (.node (o271 P) (.node (o527 P) (.node (oE P) .nil .nil) .nil) (.node (o783 P) .nil .nil)) (.node (o399 P) (.node (oF P) (.node (oF P) .nil .nil) .nil) (.node (oE P) .nil .nil))) (.node (o207 P) (.node (o335 P) (.node (o591 P) (.node (oE P) .nil .nil) .nil) (.node (o847 P) .nil .nil)) (.node (oE P) (.node (o719 P) .nil .nil) (.node (oE P) .nil .nil)))) (.node (oE P) (.node (o175 P) (.node (o303 P) (.node (o559 P) (.node (o1071 P) .nil .nil) .nil) (.node (o815 P) .nil .nil)) (.node (oE P) (.node (o687 P) .nil .nil) (.node (o943 P) .nil .nil))) (.node (oF P) (.node (o367 P) (.node (o623 P) (.node (o1135 P) .nil .nil) .nil) (.node (o879 P) .nil .nil)) (.node (o495 P) (.node (o751 P) .nil .nil) (.node (oF P) .nil .nil)))))) (.node (oF P) (.node (oE P) (.node (oE P) (.node (oE P) (.node (o263 P) (.node (o519 P) (.node (o1031 P) .nil .nil) .nil) (.node (oF P) .nil .nil)) (.node (o391 P) (.node (oE P) (.node (oE P) .nil .nil) .nil) (.node (o903 P) .nil .nil))) (.node (oE P) (.node (o327 P) (.node (o583 P) (.node (o1095 P) .nil .nil) .nil) (.node (oF P) .nil .nil)) (.node (o455 P) (.node (o711 P) .nil .nil) (.node (o967 P) .nil .nil)))) (.node (o103 P) (.node (o167 P) (.node (oF P) (.node (o551 P) (.node (oE P) .nil .nil) .nil) (.node (o807 P) .nil .nil)) (.node (o423 P) (.node (o679 P) (.node (o1191 P) .nil .nil) .nil) (.node (o935 P) .nil .nil))) (.node (oE P) (.node (o359 P) (.node (o615 P) (.node (oE P) .nil .nil) .nil) (.node (o871 P) .nil .nil)) (.node (oE P) (.node (o743 P) .nil .nil) (.node (oE P) .nil .nil))))) (.node (o55 P) (.node (o87 P) (.node (o151 P) (.node (o279 P) (.node (o535 P) (.node (oF P) .nil .nil) .nil) (.node (oE P) .nil .nil)) (.node (oE P) (.node (o663 P) (.node (o1175 P) .nil .nil) .nil) (.node (o919 P) .nil .nil))) (.node (o215 P) (.node (o343 P) (.node (o599 P) (.node (oF P) .nil .nil) .nil) (.node (oE P) .nil .nil)) (.node (oF P) (.node (oE P) .nil .nil) (.node (o983 P) .nil .nil)))) (.node (oF P) (.node (oF P) (.node (oE P) (.node (o567 P) (.node (o1079 P) .nil .nil) .nil) (.node (oE P) .nil .nil)) (.node (o439 P) (.node (o695 P) .nil .nil) (.node (o951 P) .nil .nil))) (.node (o247 P) (.node (oE P) (.node (o631 P) (.node (o1143 P) .nil .nil) .nil) (.node (oE P) .nil .nil)) (.node (o503 P) (.node (o759 P) .nil .nil) (.node (o1015 P) .nil .nil))))))) (.node (oE P) (.node (o19 P) (.node (o35 P) (.node (oE P) (.node (o131 P) (.node (oE P) (.node (oE P) (.node (o1027 P) .nil .nil) .nil) (.node (o771 P) .nil .nil)) (.node (oF P) (.node (oE P) (.node (oE P) .nil .nil) .nil) (.node (o899 P) .nil .nil))) (.node (o195 P) (.node (oE P) (.node (o579 P) (.node (o1091 P) .nil .nil) .nil) (.node (o835 P) .nil .nil)) (.node (o451 P) (.node (o707 P) .nil .nil) (.node (o963 P) .nil .nil)))) (.node (o99 P) (.node (oE P) (.node (o291 P) (.node (oE P) (.node (o1059 P) .nil .nil) .nil) (.node (oF P) .nil .nil)) (.node (o419 P) (.node (o675 P) (.node (o1187 P) .nil .nil) .nil) (.node (oF P) .nil .nil))) (.node (oE P) (.node (o355 P) (.node (o611 P) (.node (o1123 P) .nil .nil) .nil) (.node (oF P) .nil .nil)) (.node (o483 P) (.node (oE P) .nil .nil) (.node (oE P) .nil .nil))))) (.node (oF P) (.node (o83 P) (.node (oF P) (.node (o275 P) (.node (o531 P) (.node (o1043 P) .nil .nil) .nil) (.node (o787 P) .nil .nil)) (.node (oE P) (.node (o659 P) (.node (o1171 P) .nil .nil) .nil) (.node (oE P) .nil .nil))) (.node (oF P) (.node (o339 P) (.node (o595 P) (.node (o1107 P) .nil .nil) .nil) (.node (o851 P) .nil .nil)) (.node (o467 P) (.node (o723 P) .nil .nil) (.node (o979 P) .nil .nil)))) (.node (o115 P) (.node (o179 P) (.node (o307 P) (.node (o563 P) (.node (oF P) .nil .nil) .nil) (.node (oE P) .nil .nil)) (.node (oE P) (.node (o691 P) .nil .nil) (.node (oE P) .nil .nil))) (.node (o243 P) (.node (o371 P) (.node (o627 P) (.node (oF P) .nil .nil) .nil) (.node (oE P) .nil .nil)) (.node (oF P) (.node (o755 P) .nil .nil) (.node (o1011 P) .nil .nil)))))) (.node (o27 P) (.node (oE P) (.node (o75 P) (.node (oE P) (.node (oF P) (.node (o523 P) (.node (o1035 P) .nil .nil) .nil) (.node (o779 P) .nil .nil)) (.node (o395 P) (.node (o651 P) (.node (o1163 P) .nil .nil) .nil) (.node (o907 P) .nil .nil))) (.node (oE P) (.node (oF P) (.node (o587 P) (.node (o1099 P) .nil .nil) .nil) (.node (o843 P) .nil .nil)) (.node (oE P) (.node (o715 P) .nil .nil) (.node (o971 P) .nil .nil)))) (.node (oE P) (.node (o171 P) (.node (o299 P) (.node (oF P) (.node (oE P) .nil .nil) .nil) (.node (o811 P) .nil .nil)) (.node (o427 P) (.node (o683 P) (.node (oE P) .nil .nil) .nil) (.node (o939 P) .nil .nil))) (.node (o235 P) (.node (o363 P) (.node (o619 P) (.node (oE P) .nil .nil) .nil) (.node (o875 P) .nil .nil)) (.node (oE P) (.node (oF P) .nil .nil) (.node (o1003 P) .nil .nil))))) (.node (o59 P) (.node (o91 P) (.node (o155 P) (.node (oE P) (.node (o539 P) (.node (o1051 P) .nil .nil) .nil) (.node (oE P) .nil .nil)) (.node (o411 P) (.node (o667 P) (.node (o1179 P) .nil .nil) .nil) (.node (oE P) .nil .nil))) (.node (o219 P) (.node (oE P) (.node (o603 P) (.node (o1115 P) .nil .nil) .nil) (.node (oE P) .nil .nil)) (.node (o475 P) (.node (oE P) .nil .nil) (.node (o987 P) .nil .nil)))) (.node (o123 P) (.node (o187 P) (.node (oE P) (.node (oE P) (.node (o1083 P) .nil .nil) .nil) (.node (o827 P) .nil .nil)) (.node (o443 P) (.node (oE P) .nil .nil) (.node (o955 P) .nil .nil))) (.node (o251 P) (.node (oE P) (.node (o635 P) (.node (o1147 P) .nil .nil) .nil) (.node (o891 P) .nil .nil)) (.node (o507 P) (.node (oE P) .nil .nil) (.node (o1019 P) .nil .nil)))))))) (.node (boot_o_5 P) (.node (boot_o_9 P) (.node (o17 P) (.node (o33 P) (.node (oF P) (.node (o129 P) (.node (o257 P) (.node (oF P) (.node (oE P) .nil .nil) .nil) (.node (o769 P) .nil .nil)) (.node (o385 P) (.node (oF P) (.node (oF P) .nil .nil) .nil) (.node (oE P) .nil .nil))) (.node (o193 P) (.node (o321 P) (.node (o577 P) (.node (oE P) .nil .nil) .nil) (.node (o833 P) .nil .nil)) (.node (oE P) (.node (o705 P) .nil .nil) (.node (oE P) .nil .nil)))) (.node (oE P) (.node (oF P) (.node (o289 P) (.node (o545 P) (.node (o1057 P) .nil .nil) .nil) (.node (o801 P) .nil .nil)) (.node (oE P) (.node (o673 P) (.node (oE P) .nil .nil) .nil) (.node (o929 P) .nil .nil))) (.node (oF P) (.node (o353 P) (.node (oE P) (.node (o1121 P) .nil .nil) .nil) (.node (o865 P) .nil .nil)) (.node (o481 P) (.node (o737 P) .nil .nil) (.node (oF P) .nil .nil))))) (.node (o49 P) (.node (oE P) (.node (o145 P) (.node (oE P) (.node (oE P) (.node (o1041 P) .nil .nil) .nil) (.node (o785 P) .nil .nil)) (.node (oF P) (.node (oE P) (.node (oE P) .nil .nil) .nil) (.node (o913 P) .nil .nil))) (.node (o209 P) (.node (oE P) (.node (o593 P) (.node (o1105 P) .nil .nil) .nil) (.node (o849 P) .nil .nil)) (.node (o465 P) (.node (o721 P) .nil .nil) (.node (o977 P) .nil .nil)))) (.node (o113 P) (.node (oE P) (.node (o305 P) (.node (oE P) (.node (o1073 P) .nil .nil) .nil) (.node (oF P) .nil .nil)) (.node (o433 P) (.node (oE P) .nil .nil) (.node (oF P) .nil .nil))) (.node (oE P) (.node (o369 P) (.node (o625 P) (.node (o1137 P) .nil .nil) .nil) (.node (oF P) .nil .nil)) (.node (o497 P) (.node (oE P) .nil .nil) (.node (oE P) .nil .nil)))))) (.node (oE P) (.node (o41 P) (.node (o73 P) (.node (o137 P) (.node (o265 P) (.node (o521 P) (.node (o1033 P) .nil .nil) .nil) (.node (oE P) .nil .nil)) (.node (oE P) (.node (o649 P) (.node (o1161 P) .nil .nil) .nil) (.node (o905 P) .nil .nil))) (.node (o201 P) (.node (o329 P) (.node (oE P) (.node (o1097 P) .nil .nil) .nil) (.node (oE P) .nil .nil)) (.node (oF P) (.node (o713 P) .nil .nil) (.node (o969 P) .nil .nil)))) (.node (oF P) (.node (o169 P) (.node (oE P) (.node (o553 P) (.node (o1065 P) .nil .nil) .nil) (.node (oE P) .nil .nil)) (.node (o425 P) (.node (o681 P) (.node (oF P) .nil .nil) .nil) (.node (oE P) .nil .nil))) (.node (o233 P) (.node (o361 P) (.node (oE P) (.node (o1129 P) .nil .nil) .nil) (.node (oE P) .nil .nil)) (.node (o489 P) (.node (o745 P) .nil .nil) (.node (o1001 P) .nil .nil))))) (.node (oE P) (.node (o89 P) (.node (oE P) (.node (oF P) (.node (o537 P) (.node (oE P) .nil .nil) .nil) (.node (o793 P) .nil .nil)) (.node (o409 P) (.node (o665 P) (.node (o1177 P) .nil .nil) .nil) (.node (o921 P) .nil .nil))) (.node (oE P) (.node (oF P) (.node (o601 P) (.node (oE P) .nil .nil) .nil) (.node (o857 P) .nil .nil)) (.node (oE P) (.node (o729 P) .nil .nil) (.node (oE P) .nil .nil)))) (.node (oE P) (.node (oE P) (.node (o313 P) (.node (oF P) (.node (oE P) .nil .nil) .nil) (.node (o825 P) .nil .nil)) (.node (o441 P) (.node (oF P) .nil .nil) (.node (o953 P) .nil .nil))) (.node (o249 P) (.node (o377 P) (.node (oE P) (.node (oE P) .nil .nil) .nil) (.node (o889 P) .nil .nil)) (.node (oE P) (.node (oF P) .nil .nil) (.node (o1017 P) .nil .nil))))))) (.node (o13 P) (.node (o21 P) (.node (oF P) (.node (o69 P) (.node (oF P) (.node (o261 P) (.node (o517 P) (.node (o1029 P) .nil .nil) .nil) (.node (o773 P) .nil .nil)) (.node (oE P) (.node (o645 P) (.node (o1157 P) .nil .nil) .nil) (.node (o901 P) .nil .nil))) (.node (oF P) (.node (o325 P) (.node (o581 P) (.node (o1093 P) .nil .nil) .nil) (.node (o837 P) .nil .nil)) (.node (o453 P) (.node (o709 P) .nil .nil) (.node (oE P) .nil .nil)))) (.node (o101 P) (.node (o165 P) (.node (o293 P) (.node (o549 P) (.node (oF P) .nil .nil) .nil) (.node (oE P) .nil .nil)) (.node (oE P) (.node (o677 P) (.node (o1189 P) .nil .nil) .nil) (.node (oE P) .nil .nil))) (.node (o229 P) (.node (o357 P) (.node (o613 P) (.node (oF P) .nil .nil) .nil) (.node (oE P) .nil .nil)) (.node (oF P) (.node (o741 P) .nil .nil) (.node (o997 P) .nil .nil))))) (.node (oE P) (.node (oE P) (.node (oE P) (.node (o277 P) (.node (oE P) (.node (o1045 P) .nil .nil) .nil) (.node (oF P) .nil .nil)) (.node (o405 P) (.node (oE P) (.node (oE P) .nil .nil) .nil) (.node (o917 P) .nil .nil))) (.node (oE P) (.node (o341 P) (.node (o597 P) (.node (o1109 P) .nil .nil) .nil) (.node (oF P) .nil .nil)) (.node (o469 P) (.node (oF P) .nil .nil) (.node (oF P) .nil .nil)))) (.node (o117 P) (.node (o181 P) (.node (o309 P) (.node (o565 P) (.node (oE P) .nil .nil) .nil) (.node (o821 P) .nil .nil)) (.node (o437 P) (.node (o693 P) .nil .nil) (.node (o949 P) .nil .nil))) (.node (oE P) (.node (oF P) (.node (oE P) (.node (oE P) .nil .nil) .nil) (.node (o885 P) .nil .nil)) (.node (oE P) (.node (o757 P) .nil .nil) (.node (oE P) .nil .nil)))))) (.node (oE P) (.node (o45 P) (.node (o77 P) (.node (o141 P) (.node (oE P) (.node (o525 P) (.node (o1037 P) .nil .nil) .nil) (.node (oE P) .nil .nil)) (.node (o397 P) (.node (o653 P) (.node (o1165 P) .nil .nil) .nil) (.node (oF P) .nil .nil))) (.node (o205 P) (.node (oE P) (.node (oE P) (.node (o1101 P) .nil .nil) .nil) (.node (oE P) .nil .nil)) (.node (o461 P) (.node (oE P) .nil .nil) (.node (o973 P) .nil .nil)))) (.node (o109 P) (.node (o173 P) (.node (o301 P) (.node (oE P) (.node (o1069 P) .nil .nil) .nil) (.node (o813 P) .nil .nil)) (.node (oF P) (.node (oE P) (.node (o1197 P) .nil .nil) .nil) (.node (o941 P) .nil .nil))) (.node (o237 P) (.node (oE P) (.node (oE P) (.node (o1133 P) .nil .nil) .nil) (.node (o877 P) .nil .nil)) (.node (o493 P) (.node (oE P) .nil .nil) (.node (o1005 P) .nil .nil))))) (.node (o61 P) (.node (oF P) (.node (o157 P) (.node (o285 P) (.node (oF P) (.node (o1053 P) .nil .nil) .nil) (.node (o797 P) .nil .nil)) (.node (o413 P) (.node (oF P) (.node (oF P) .nil .nil) .nil) (.node (o925 P) .nil .nil))) (.node (o221 P) (.node (o349 P) (.node (oE P) (.node (oE P) .nil .nil) .nil) (.node (o861 P) .nil .nil)) (.node (oE P) (.node (o733 P) .nil .nil) (.node (o989 P) .nil .nil)))) (.node (oE P) (.node (oE P) (.node (o317 P) (.node (o573 P) (.node (o1085 P) .nil .nil) .nil) (.node (o829 P) .nil .nil)) (.node (o445 P) (.node (o701 P) .nil .nil) (.node (o957 P) .nil .nil))) (.node (oF P) (.node (o381 P) (.node (o637 P) (.node (o1149 P) .nil .nil) .nil) (.node (o893 P) .nil .nil)) (.node (o509 P) (.node (o765 P) .nil .nil) (.node (oF P) .nil .nil))))))))) (.node (o2 P) (.node (boot_o_4 P) (.node (boot_o_8 P) (.node (oF P) (.node (oE P) (.node (oE P) (.node (oE P) (.node (o256 P) (.node (oE P) (.node (o1024 P) .nil .nil) .nil) (.node (oF P) .nil .nil)) (.node (o384 P) (.node (oE P) (.node (oE P) .nil .nil) .nil) (.node (o896 P) .nil .nil))) (.node (oE P) (.node (o320 P) (.node (o576 P) (.node (o1088 P) .nil .nil) .nil) (.node (oF P) .nil .nil)) (.node (o448 P) (.node (oF P) .nil .nil) (.node (o960 P) .nil .nil)))) (.node (o96 P) (.node (oE P) (.node (oF P) (.node (o544 P) (.node (o1056 P) .nil .nil) .nil) (.node (o800 P) .nil .nil)) (.node (o416 P) (.node (o672 P) (.node (o1184 P) .nil .nil) .nil) (.node (o928 P) .nil .nil))) (.node (oE P) (.node (oF P) (.node (o608 P) (.node (oE P) .nil .nil) .nil) (.node (o864 P) .nil .nil)) (.node (oE P) (.node (o736 P) .nil .nil) (.node (oE P) .nil .nil))))) (.node (o48 P) (.node (o80 P) (.node (o144 P) (.node (o272 P) (.node (o528 P) (.node (o1040 P) .nil .nil) .nil) (.node (oE P) .nil .nil)) (.node (oE P) (.node (o656 P) (.node (o1168 P) .nil .nil) .nil) (.node (o912 P) .nil .nil))) (.node (o208 P) (.node (o336 P) (.node (oE P) (.node (oF P) .nil .nil) .nil) (.node (oE P) .nil .nil)) (.node (oF P) (.node (oE P) .nil .nil) (.node (o976 P) .nil .nil)))) (.node (oF P) (.node (o176 P) (.node (o304 P) (.node (o560 P) (.node (o1072 P) .nil .nil) .nil) (.node (oE P) .nil .nil)) (.node (o432 P) (.node (o688 P) .nil .nil) (.node (oE P) .nil .nil))) (.node (o240 P) (.node (oE P) (.node (o624 P) (.node (o1136 P) .nil .nil) .nil) (.node (oE P) .nil .nil)) (.node (o496 P) (.node (o752 P) .nil .nil) (.node (o1008 P) .nil .nil)))))) (.node (o24 P) (.node (o40 P) (.node (oF P) (.node (o136 P) (.node (o264 P) (.node (o520 P) (.node (o1032 P) .nil .nil) .nil) (.node (o776 P) .nil .nil)) (.node (o392 P) (.node (oF P) (.node (oF P) .nil .nil) .nil) (.node (o904 P) .nil .nil))) (.node (o200 P) (.node (o328 P) (.node (o584 P) (.node (o1096 P) .nil .nil) .nil) (.node (o840 P) .nil .nil)) (.node (oE P) (.node (o712 P) .nil .nil) (.node (oE P) .nil .nil)))) (.node (oE P) (.node (o168 P) (.node (o296 P) (.node (o552 P) (.node (o1064 P) .nil .nil) .nil) (.node (o808 P) .nil .nil)) (.node (oE P) (.node (o680 P) (.node (oE P) .nil .nil) .nil) (.node (o936 P) .nil .nil))) (.node (oF P) (.node (o360 P) (.node (o616 P) (.node (o1128 P) .nil .nil) .nil) (.node (o872 P) .nil .nil)) (.node (o488 P) (.node (o744 P) .nil .nil) (.node (oF P) .nil .nil))))) (.node (o56 P) (.node (oE P) (.node (o152 P) (.node (oE P) (.node (oE P) (.node (o1048 P) .nil .nil) .nil) (.node (o792 P) .nil .nil)) (.node (oF P) (.node (oE P) (.node (oE P) .nil .nil) .nil) (.node (o920 P) .nil .nil))) (.node (o216 P) (.node (oE P) (.node (o600 P) (.node (o1112 P) .nil .nil) .nil) (.node (o856 P) .nil .nil)) (.node (o472 P) (.node (o728 P) .nil .nil) (.node (o984 P) .nil .nil)))) (.node (o120 P) (.node (o184 P) (.node (o312 P) (.node (oE P) (.node (o1080 P) .nil .nil) .nil) (.node (oF P) .nil .nil)) (.node (o440 P) (.node (oE P) .nil .nil) (.node (o952 P) .nil .nil))) (.node (oE P) (.node (o376 P) (.node (o632 P) (.node (o1144 P) .nil .nil) .nil) (.node (oF P) .nil .nil)) (.node (o504 P) (.node (oE P) .nil .nil) (.node (oE P) .nil .nil))))))) (.node (o12 P) (.node (o20 P) (.node (oE P) (.node (o68 P) (.node (oE P) (.node (oF P) (.node (o516 P) (.node (oE P) .nil .nil) .nil) (.node (o772 P) .nil .nil)) (.node (o388 P) (.node (o644 P) (.node (o1156 P) .nil .nil) .nil) (.node (o900 P) .nil .nil))) (.node (oE P) (.node (oF P) (.node (o580 P) (.node (oE P) .nil .nil) .nil) (.node (o836 P) .nil .nil)) (.node (oE P) (.node (o708 P) .nil .nil) (.node (o964 P) .nil .nil)))) (.node (oE P) (.node (o164 P) (.node (o292 P) (.node (oF P) (.node (oE P) .nil .nil) .nil) (.node (o804 P) .nil .nil)) (.node (o420 P) (.node (o676 P) (.node (oE P) .nil .nil) .nil) (.node (o932 P) .nil .nil))) (.node (o228 P) (.node (o356 P) (.node (o612 P) (.node (oE P) .nil .nil) .nil) (.node (o868 P) .nil .nil)) (.node (oE P) (.node (oF P) .nil .nil) (.node (o996 P) .nil .nil))))) (.node (o52 P) (.node (o84 P) (.node (o148 P) (.node (oE P) (.node (o532 P) (.node (o1044 P) .nil .nil) .nil) (.node (oE P) .nil .nil)) (.node (o404 P) (.node (o660 P) (.node (o1172 P) .nil .nil) .nil) (.node (o916 P) .nil .nil))) (.node (o212 P) (.node (oE P) (.node (o596 P) (.node (o1108 P) .nil .nil) .nil) (.node (oE P) .nil .nil)) (.node (o468 P) (.node (oE P) .nil .nil) (.node (oE P) .nil .nil)))) (.node (o116 P) (.node (o180 P) (.node (oE P) (.node (oE P) (.node (o1076 P) .nil .nil) .nil) (.node (o820 P) .nil .nil)) (.node (oF P) (.node (oE P) .nil .nil) (.node (o948 P) .nil .nil))) (.node (o244 P) (.node (oE P) (.node (o628 P) (.node (o1140 P) .nil .nil) .nil) (.node (o884 P) .nil .nil)) (.node (o500 P) (.node (oE P) .nil .nil) (.node (o1012 P) .nil .nil)))))) (.node (o28 P) (.node (oF P) (.node (o76 P) (.node (oF P) (.node (o268 P) (.node (o524 P) (.node (o1036 P) .nil .nil) .nil) (.node (o780 P) .nil .nil)) (.node (oE P) (.node (o652 P) (.node (o1164 P) .nil .nil) .nil) (.node (oE P) .nil .nil))) (.node (oF P) (.node (o332 P) (.node (o588 P) (.node (o1100 P) .nil .nil) .nil) (.node (o844 P) .nil .nil)) (.node (o460 P) (.node (o716 P) .nil .nil) (.node (oE P) .nil .nil)))) (.node (o108 P) (.node (o172 P) (.node (o300 P) (.node (o556 P) (.node (o1068 P) .nil .nil) .nil) (.node (oE P) .nil .nil)) (.node (oE P) (.node (o684 P) (.node (o1196 P) .nil .nil) .nil) (.node (oE P) .nil .nil))) (.node (o236 P) (.node (o364 P) (.node (o620 P) (.node (oF P) .nil .nil) .nil) (.node (oE P) .nil .nil)) (.node (oF P) (.node (o748 P) .nil .nil) (.node (o1004 P) .nil .nil))))) (.node (oE P) (.node (oE P) (.node (oE P) (.node (o284 P) (.node (oE P) (.node (o1052 P) .nil .nil) .nil) (.node (oF P) .nil .nil)) (.node (o412 P) (.node (oE P) (.node (oE P) .nil .nil) .nil) (.node (oF P) .nil .nil))) (.node (oE P) (.node (o348 P) (.node (o604 P) (.node (o1116 P) .nil .nil) .nil) (.node (oF P) .nil .nil)) (.node (o476 P) (.node (oF P) .nil .nil) (.node (oE P) .nil .nil)))) (.node (o124 P) (.node (o188 P) (.node (oF P) (.node (o572 P) (.node (oE P) .nil .nil) .nil) (.node (o828 P) .nil .nil)) (.node (o444 P) (.node (o700 P) .nil .nil) (.node (o956 P) .nil .nil))) (.node (oE P) (.node (oF P) (.node (oE P) (.node (oE P) .nil .nil) .nil) (.node (o892 P) .nil .nil)) (.node (oE P) (.node (o764 P) .nil .nil) (.node (oE P) .nil .nil)))))))) (.node (boot_o_6 P) (.node (boot_o_10 P) (.node (oE P) (.node (o34 P) (.node (o66 P) (.node (o130 P) (.node (o258 P) (.node (o514 P) (.node (oF P) .nil .nil) .nil) (.node (oE P) .nil .nil)) (.node (oE P) (.node (o642 P) (.node (o1154 P) .nil .nil) .nil) (.node (o898 P) .nil .nil))) (.node (o194 P) (.node (o322 P) (.node (o578 P) (.node (oF P) .nil .nil) .nil) (.node (oE P) .nil .nil)) (.node (o450 P) (.node (oE P) .nil .nil) (.node (o962 P) .nil .nil)))) (.node (oF P) (.node (o162 P) (.node (oE P) (.node (o546 P) (.node (o1058 P) .nil .nil) .nil) (.node (oE P) .nil .nil)) (.node (o418 P) (.node (o674 P) (.node (oF P) .nil .nil) .nil) (.node (oE P) .nil .nil))) (.node (o226 P) (.node (oE P) (.node (o610 P) (.node (o1122 P) .nil .nil) .nil) (.node (oE P) .nil .nil)) (.node (o482 P) (.node (o738 P) .nil .nil) (.node (o994 P) .nil .nil))))) (.node (oE P) (.node (o82 P) (.node (oE P) (.node (oF P) (.node (o530 P) (.node (oE P) .nil .nil) .nil) (.node (o786 P) .nil .nil)) (.node (o402 P) (.node (o658 P) (.node (o1170 P) .nil .nil) .nil) (.node (o914 P) .nil .nil))) (.node (oE P) (.node (oF P) (.node (o594 P) (.node (oE P) .nil .nil) .nil) (.node (o850 P) .nil .nil)) (.node (oE P) (.node (o722 P) .nil .nil) (.node (o978 P) .nil .nil)))) (.node (oE P) (.node (o178 P) (.node (o306 P) (.node (oF P) (.node (oE P) .nil .nil) .nil) (.node (o818 P) .nil .nil)) (.node (o434 P) (.node (oF P) .nil .nil) (.node (o946 P) .nil .nil))) (.node (o242 P) (.node (o370 P) (.node (oE P) (.node (oE P) .nil .nil) .nil) (.node (o882 P) .nil .nil)) (.node (oE P) (.node (oF P) .nil .nil) (.node (o1010 P) .nil .nil)))))) (.node (o26 P) (.node (o42 P) (.node (oE P) (.node (o138 P) (.node (oE P) (.node (o522 P) (.node (o1034 P) .nil .nil) .nil) (.node (o778 P) .nil .nil)) (.node (oF P) (.node (oE P) (.node (oE P) .nil .nil) .nil) (.node (o906 P) .nil .nil))) (.node (o202 P) (.node (oE P) (.node (o586 P) (.node (o1098 P) .nil .nil) .nil) (.node (o842 P) .nil .nil)) (.node (o458 P) (.node (o714 P) .nil .nil) (.node (o970 P) .nil .nil)))) (.node (o106 P) (.node (o170 P) (.node (o298 P) (.node (oE P) (.node (o1066 P) .nil .nil) .nil) (.node (oF P) .nil .nil)) (.node (o426 P) (.node (oE P) (.node (o1194 P) .nil .nil) .nil) (.node (oF P) .nil .nil))) (.node (oE P) (.node (o362 P) (.node (oF P) (.node (o1130 P) .nil .nil) .nil) (.node (oF P) .nil .nil)) (.node (o490 P) (.node (oE P) .nil .nil) (.node (oE P) .nil .nil))))) (.node (oF P) (.node (o90 P) (.node (oF P) (.node (o282 P) (.node (o538 P) (.node (o1050 P) .nil .nil) .nil) (.node (o794 P) .nil .nil)) (.node (oE P) (.node (o666 P) (.node (o1178 P) .nil .nil) .nil) (.node (o922 P) .nil .nil))) (.node (oF P) (.node (o346 P) (.node (o602 P) (.node (o1114 P) .nil .nil) .nil) (.node (o858 P) .nil .nil)) (.node (o474 P) (.node (o730 P) .nil .nil) (.node (oF P) .nil .nil)))) (.node (o122 P) (.node (o186 P) (.node (o314 P) (.node (o570 P) (.node (oF P) .nil .nil) .nil) (.node (oE P) .nil .nil)) (.node (o442 P) (.node (o698 P) .nil .nil) (.node (o954 P) .nil .nil))) (.node (o250 P) (.node (o378 P) (.node (oF P) (.node (oF P) .nil .nil) .nil) (.node (oE P) .nil .nil)) (.node (oF P) (.node (o762 P) .nil .nil) (.node (o1018 P) .nil .nil))))))) (.node (o14 P) (.node (oE P) (.node (o38 P) (.node (o70 P) (.node (o134 P) (.node (oE P) (.node (o518 P) (.node (o1030 P) .nil .nil) .nil) (.node (oE P) .nil .nil)) (.node (o390 P) (.node (o646 P) (.node (o1158 P) .nil .nil) .nil) (.node (o902 P) .nil .nil))) (.node (o198 P) (.node (oE P) (.node (o582 P) (.node (o1094 P) .nil .nil) .nil) (.node (oE P) .nil .nil)) (.node (o454 P) (.node (o710 P) .nil .nil) (.node (oF P) .nil .nil)))) (.node (o102 P) (.node (o166 P) (.node (oE P) (.node (oE P) (.node (o1062 P) .nil .nil) .nil) (.node (o806 P) .nil .nil)) (.node (oF P) (.node (o678 P) (.node (o1190 P) .nil .nil) .nil) (.node (o934 P) .nil .nil))) (.node (o230 P) (.node (o358 P) (.node (o614 P) (.node (o1126 P) .nil .nil) .nil) (.node (o870 P) .nil .nil)) (.node (o486 P) (.node (oE P) .nil .nil) (.node (o998 P) .nil .nil))))) (.node (o54 P) (.node (oF P) (.node (o150 P) (.node (o278 P) (.node (oF P) (.node (oE P) .nil .nil) .nil) (.node (o790 P) .nil .nil)) (.node (o406 P) (.node (oF P) (.node (oF P) .nil .nil) .nil) (.node (oE P) .nil .nil))) (.node (o214 P) (.node (o342 P) (.node (o598 P) (.node (oE P) .nil .nil) .nil) (.node (o854 P) .nil .nil)) (.node (oE P) (.node (o726 P) .nil .nil) (.node (o982 P) .nil .nil)))) (.node (oE P) (.node (oE P) (.node (o310 P) (.node (o566 P) (.node (o1078 P) .nil .nil) .nil) (.node (o822 P) .nil .nil)) (.node (oE P) (.node (o694 P) .nil .nil) (.node (o950 P) .nil .nil))) (.node (oF P) (.node (o374 P) (.node (o630 P) (.node (o1142 P) .nil .nil) .nil) (.node (o886 P) .nil .nil)) (.node (o502 P) (.node (o758 P) .nil .nil) (.node (oF P) .nil .nil)))))) (.node (oF P) (.node (oE P) (.node (oE P) (.node (oE P) (.node (o270 P) (.node (oE P) (.node (o1038 P) .nil .nil) .nil) (.node (oF P) .nil .nil)) (.node (o398 P) (.node (oE P) (.node (oE P) .nil .nil) .nil) (.node (o910 P) .nil .nil))) (.node (oE P) (.node (o334 P) (.node (oF P) (.node (o1102 P) .nil .nil) .nil) (.node (oF P) .nil .nil)) (.node (o462 P) (.node (o718 P) .nil .nil) (.node (o974 P) .nil .nil)))) (.node (o110 P) (.node (oE P) (.node (o302 P) (.node (o558 P) (.node (oE P) .nil .nil) .nil) (.node (o814 P) .nil .nil)) (.node (o430 P) (.node (o686 P) (.node (o1198 P) .nil .nil) .nil) (.node (o942 P) .nil .nil))) (.node (oE P) (.node (o366 P) (.node (o622 P) (.node (oE P) .nil .nil) .nil) (.node (o878 P) .nil .nil)) (.node (oE P) (.node (o750 P) .nil .nil) (.node (oE P) .nil .nil))))) (.node (o62 P) (.node (o94 P) (.node (o158 P) (.node (o286 P) (.node (o542 P) (.node (o1054 P) .nil .nil) .nil) (.node (oE P) .nil .nil)) (.node (oE P) (.node (o670 P) (.node (o1182 P) .nil .nil) .nil) (.node (oE P) .nil .nil))) (.node (o222 P) (.node (o350 P) (.node (oF P) (.node (oF P) .nil .nil) .nil) (.node (oE P) .nil .nil)) (.node (oF P) (.node (oE P) .nil .nil) (.node (o990 P) .nil .nil)))) (.node (oF P) (.node (oF P) (.node (oE P) (.node (o574 P) (.node (o1086 P) .nil .nil) .nil) (.node (o830 P) .nil .nil)) (.node (o446 P) (.node (o702 P) .nil .nil) (.node (oE P) .nil .nil))) (.node (o254 P) (.node (oE P) (.node (o638 P) (.node (o1150 P) .nil .nil) .nil) (.node (oE P) .nil .nil)) (.node (o510 P) (.node (o766 P) .nil .nil) (.node (o1022 P) .nil .nil))))))))))
noncomputable abbrev env0 : Env := { scope := pw.main.scope, locals := mainNs, globals := mainNs, cells := [], code := .ref 13, frame := some 14 }
noncomputable abbrev cE : Code := .body (behindTheImports pw) env0
noncomputable abbrev q0 : Pos := ⟨0, 0, 0, 0⟩
noncomputable abbrev qz : Pos := ⟨817, 0, 838, 38⟩
noncomputable abbrev ann0 : Option Value := some (.ref 6)
noncomputable abbrev Sa (w : World) (os : OsState) : Shared := ⟨Ha w.params, ⟨[]⟩, {}, 187, os⟩
noncomputable abbrev SbT (w : World) (os : OsState) : SharedT := ⟨Ta w.params, 15, {}, ⟨[]⟩, {}, 187, os⟩
noncomputable abbrev SfT (w : World) (os : OsState) : SharedT := ⟨Tf w.params, 1199, {}, ⟨[]⟩, {}, 1866, os⟩
theorem r_open : ∀ w : World, (fencedOpening treeTable pw w 16034).map (fun s => (s.heap, s.gens, s.drawn, s.toks)) = some (boot_heap w.params, Array.mk [], boot_drawn, boot_toks) :=
  boot_open (by kernel_rfl) (by kernel_rfl) (fun s => by kernel_rfl)
theorem r_size (w : World) : ((boot_heap w.params).isNs mainGlobals && (⟨[]⟩ : Array GenState).size == 0, (boot_heap w.params).objs.size, (boot_heap w.params).nsMap mainGlobals "__annotations__") = (true, 11, ann0) := by kernel_rfl
theorem r_pre (w : World) (os : OsState) : topGo treeTable pw w 11 ann0 12 ⟨boot_heap w.params, ⟨[]⟩, boot_drawn, boot_toks, os⟩ (topStub pw) = some (Sa w os, ⟨denote treeTable cE, cE, q0, [topFrame q0]⟩) := by
  rw [PySem.W.Fast.te15667345088766844465, PySem.W.Fast.te11892475500146522536, PySem.W.Fast.te14364793385576792824]; kernel_rfl
theorem r_block (w : World) (os : OsState) : segRun treeTable pw w 11 ann0 1 1 (Sa w os) (blockOf (behindTheImports pw) env0 cE q0 [topFrame q0]) = some (.next, (SbT w os).abs, cE, q0) := by
  rw [PySem.W.Fast.te14374325043358763698, PySem.W.Fast.te14364793385576792824]; kernel_rfl
theorem r_fin (w : World) (os : OsState) : topRun treeTable pw w 11 ann0 2 (SfT w os).abs ⟨doneF .next, cE, qz, [topFrame q0]⟩ = some ⟨H w.params, ⟨[]⟩, {}, 1866, os⟩ := by
  rw [PySem.W.Fast.te14082659384304107361, PySem.W.Fast.te14364793385576792824]; kernel_rfl
end
section
open PySem PySem.W PyProof.Rows
noncomputable def c1_3 (P : Params) : Obj := ⟨(.type "dict"), none, (.dict #[e P "__name__" 165 (T "thinstack.acks" 609), e P "__doc__" 166 .none, e P "__package__" 167 .none, e P "__loader__" 168 (.builtin "__main__.__loader__#opaque"), e P "__spec__" 169 .none, e P "__annotations__" 170 (.ref 6), e P "__builtins__" 171 (.ref 4), e P "__file__" 173 (T "/claim/cut.py" 172), e P "__cached__" 174 .none, e P "_wall" 193 (.ref 21), e P "plus" 204 (.ref 28), e P "distance" 213 (.ref 35), e P "is_before" 223 (.ref 42), e P "is_at_most" 232 (.ref 49), e P "is_within" 242 (.ref 56), e P "latest" 251 (.ref 63), e P "is_acceptable" 264 (.ref 70), e P "is_let_in" 276 (.ref 77), e P "Assembly" 434 (.ref 169), e P "Receiver" 608 (.ref 303), e P "EVERY" 612 (Z 2 611), e P "AckPolicy" 684 (.ref 360)] 22), #[]⟩
noncomputable def c1_12 (P : Params) : Obj := ⟨.none, none, (.fields #[(Z 1 0), (Z 0 0), (.ref 20), (Z 5 0), (Z 0 0), (.ref 27), (Z 7 0), (Z 0 0), (.ref 34), (Z 9 0), (Z 0 0), (.ref 41), (Z 12 0), (Z 0 0), (.ref 48), (Z 14 0), (Z 0 0), (.ref 55), (Z 16 0), (Z 0 0), (.ref 62), (Z 19 0), (Z 0 0), (.ref 69), (Z 28 0), (Z 0 0), (.ref 76), (Z 35 0), (Z 0 0), (.ref 83), (Z 134 0), (Z 0 0), (.ref 179), (Z 232 0), (Z 0 0), (.ref 313)]), #[]⟩
noncomputable def T1 (P : Params) : BT := (.node (boot_o_0 P) (.node (boot_o_1 P) (.node (c1_3 P) (.node (boot_o_7 P) (.node (oE P) (.node (o31 P) (.node (o63 P) (.node (o127 P) (.node (oE P) .nil .nil) .nil) (.node (o191 P) (.node (o319 P) .nil .nil) .nil)) (.node (o95 P) (.node (o159 P) (.node (oE P) .nil .nil) .nil) (.node (o223 P) (.node (oE P) .nil .nil) .nil))) (.node (o47 P) (.node (o79 P) (.node (o143 P) (.node (o271 P) .nil .nil) .nil) (.node (o207 P) (.node (o335 P) .nil .nil) .nil)) (.node (oE P) (.node (o175 P) (.node (o303 P) .nil .nil) .nil) (.node (oF P) .nil .nil)))) (.node (oF P) (.node (oE P) (.node (oE P) (.node (oE P) (.node (o263 P) .nil .nil) .nil) (.node (oE P) (.node (o327 P) .nil .nil) .nil)) (.node (o103 P) (.node (o167 P) (.node (oF P) .nil .nil) .nil) (.node (oE P) (.node (o359 P) .nil .nil) .nil))) (.node (o55 P) (.node (o87 P) (.node (o151 P) (.node (o279 P) .nil .nil) .nil) (.node (o215 P) (.node (o343 P) .nil .nil) .nil)) (.node (oF P) (.node (oF P) (.node (oE P) .nil .nil) .nil) (.node (o247 P) .nil .nil))))) (.node (oE P) (.node (o19 P) (.node (o35 P) (.node (oE P) (.node (o131 P) (.node (oE P) .nil .nil) .nil) (.node (o195 P) (.node (oE P) .nil .nil) .nil)) (.node (o99 P) (.node (oE P) (.node (o291 P) .nil .nil) .nil) (.node (oE P) (.node (o355 P) .nil .nil) .nil))) (.node (oF P) (.node (o83 P) (.node (oF P) (.node (o275 P) .nil .nil) .nil) (.node (oF P) (.node (o339 P) .nil .nil) .nil)) (.node (o115 P) (.node (o179 P) (.node (o307 P) .nil .nil) .nil) (.node (o243 P) .nil .nil)))) (.node (o27 P) (.node (oE P) (.node (o75 P) (.node (oE P) (.node (oF P) .nil .nil) .nil) (.node (oE P) (.node (oF P) .nil .nil) .nil)) (.node (oE P) (.node (o171 P) (.node (o299 P) .nil .nil) .nil) (.node (o235 P) (.node (o363 P) .nil .nil) .nil))) (.node (o59 P) (.node (o91 P) (.node (o155 P) (.node (oE P) .nil .nil) .nil) (.node (o219 P) (.node (oE P) .nil .nil) .nil)) (.node (o123 P) (.node (o187 P) (.node (oE P) .nil .nil) .nil) (.node (o251 P) .nil .nil)))))) (.node (boot_o_5 P) (.node (boot_o_9 P) (.node (o17 P) (.node (o33 P) (.node (oF P) (.node (o129 P) (.node (o257 P) .nil .nil) .nil) (.node (o193 P) (.node (o321 P) .nil .nil) .nil)) (.node (oE P) (.node (oF P) (.node (o289 P) .nil .nil) .nil) (.node (oF P) (.node (o353 P) .nil .nil) .nil))) (.node (o49 P) (.node (oE P) (.node (o145 P) (.node (oE P) .nil .nil) .nil) (.node (o209 P) (.node (oE P) .nil .nil) .nil)) (.node (o113 P) (.node (oE P) (.node (o305 P) .nil .nil) .nil) (.node (oE P) .nil .nil)))) (.node (oE P) (.node (o41 P) (.node (o73 P) (.node (o137 P) (.node (o265 P) .nil .nil) .nil) (.node (o201 P) (.node (o329 P) .nil .nil) .nil)) (.node (oF P) (.node (o169 P) (.node (oE P) .nil .nil) .nil) (.node (o233 P) (.node (o361 P) .nil .nil) .nil))) (.node (oE P) (.node (o89 P) (.node (oE P) (.node (oF P) .nil .nil) .nil) (.node (oE P) (.node (oF P) .nil .nil) .nil)) (.node (oE P) (.node (oE P) (.node (o313 P) .nil .nil) .nil) (.node (o249 P) .nil .nil))))) (.node (o13 P) (.node (o21 P) (.node (oF P) (.node (o69 P) (.node (oF P) (.node (o261 P) .nil .nil) .nil) (.node (oF P) (.node (o325 P) .nil .nil) .nil)) (.node (o101 P) (.node (o165 P) (.node (o293 P) .nil .nil) .nil) (.node (o229 P) (.node (o357 P) .nil .nil) .nil))) (.node (oE P) (.node (oE P) (.node (oE P) (.node (o277 P) .nil .nil) .nil) (.node (oE P) (.node (o341 P) .nil .nil) .nil)) (.node (o117 P) (.node (o181 P) (.node (o309 P) .nil .nil) .nil) (.node (oE P) .nil .nil)))) (.node (oE P) (.node (o45 P) (.node (o77 P) (.node (o141 P) (.node (oE P) .nil .nil) .nil) (.node (o205 P) (.node (oE P) .nil .nil) .nil)) (.node (o109 P) (.node (o173 P) (.node (o301 P) .nil .nil) .nil) (.node (o237 P) .nil .nil))) (.node (o61 P) (.node (oF P) (.node (o157 P) (.node (o285 P) .nil .nil) .nil) (.node (o221 P) (.node (o349 P) .nil .nil) .nil)) (.node (oE P) (.node (oE P) (.node (o317 P) .nil .nil) .nil) (.node (oF P) .nil .nil))))))) (.node (boot_o_2 P) (.node (boot_o_4 P) (.node (boot_o_8 P) (.node (oF P) (.node (oE P) (.node (oE P) (.node (oE P) (.node (o256 P) .nil .nil) .nil) (.node (oE P) (.node (o320 P) .nil .nil) .nil)) (.node (o96 P) (.node (oE P) (.node (oF P) .nil .nil) .nil) (.node (oE P) (.node (oF P) .nil .nil) .nil))) (.node (o48 P) (.node (o80 P) (.node (o144 P) (.node (o272 P) .nil .nil) .nil) (.node (o208 P) (.node (o336 P) .nil .nil) .nil)) (.node (oF P) (.node (o176 P) (.node (o304 P) .nil .nil) .nil) (.node (o240 P) .nil .nil)))) (.node (o24 P) (.node (o40 P) (.node (oF P) (.node (o136 P) (.node (o264 P) .nil .nil) .nil) (.node (o200 P) (.node (o328 P) .nil .nil) .nil)) (.node (oE P) (.node (o168 P) (.node (o296 P) .nil .nil) .nil) (.node (oF P) (.node (o360 P) .nil .nil) .nil))) (.node (o56 P) (.node (oE P) (.node (o152 P) (.node (oE P) .nil .nil) .nil) (.node (o216 P) (.node (oE P) .nil .nil) .nil)) (.node (o120 P) (.node (o184 P) (.node (o312 P) .nil .nil) .nil) (.node (oE P) .nil .nil))))) (.node (c1_12 P) (.node (o20 P) (.node (oE P) (.node (o68 P) (.node (oE P) (.node (oF P) .nil .nil) .nil) (.node (oE P) (.node (oF P) .nil .nil) .nil)) (.node (oE P) (.node (o164 P) (.node (o292 P) .nil .nil) .nil) (.node (o228 P) (.node (o356 P) .nil .nil) .nil))) (.node (o52 P) (.node (o84 P) (.node (o148 P) (.node (oE P) .nil .nil) .nil) (.node (o212 P) (.node (oE P) .nil .nil) .nil)) (.node (o116 P) (.node (o180 P) (.node (oE P) .nil .nil) .nil) (.node (o244 P) .nil .nil)))) (.node (o28 P) (.node (oF P) (.node (o76 P) (.node (oF P) (.node (o268 P) .nil .nil) .nil) (.node (oF P) (.node (o332 P) .nil .nil) .nil)) (.node (o108 P) (.node (o172 P) (.node (o300 P) .nil .nil) .nil) (.node (o236 P) (.node (o364 P) .nil .nil) .nil))) (.node (oE P) (.node (oE P) (.node (oE P) (.node (o284 P) .nil .nil) .nil) (.node (oE P) (.node (o348 P) .nil .nil) .nil)) (.node (o124 P) (.node (o188 P) (.node (oF P) .nil .nil) .nil) (.node (oE P) .nil .nil)))))) (.node (boot_o_6 P) (.node (boot_o_10 P) (.node (oE P) (.node (o34 P) (.node (o66 P) (.node (o130 P) (.node (o258 P) .nil .nil) .nil) (.node (o194 P) (.node (o322 P) .nil .nil) .nil)) (.node (oF P) (.node (o162 P) (.node (oE P) .nil .nil) .nil) (.node (o226 P) (.node (oE P) .nil .nil) .nil))) (.node (oE P) (.node (o82 P) (.node (oE P) (.node (oF P) .nil .nil) .nil) (.node (oE P) (.node (oF P) .nil .nil) .nil)) (.node (oE P) (.node (o178 P) (.node (o306 P) .nil .nil) .nil) (.node (o242 P) .nil .nil)))) (.node (o26 P) (.node (o42 P) (.node (oE P) (.node (o138 P) (.node (oE P) .nil .nil) .nil) (.node (o202 P) (.node (oE P) .nil .nil) .nil)) (.node (o106 P) (.node (o170 P) (.node (o298 P) .nil .nil) .nil) (.node (oE P) (.node (o362 P) .nil .nil) .nil))) (.node (oF P) (.node (o90 P) (.node (oF P) (.node (o282 P) .nil .nil) .nil) (.node (oF P) (.node (o346 P) .nil .nil) .nil)) (.node (o122 P) (.node (o186 P) (.node (o314 P) .nil .nil) .nil) (.node (o250 P) .nil .nil))))) (.node (o14 P) (.node (oE P) (.node (o38 P) (.node (o70 P) (.node (o134 P) (.node (oE P) .nil .nil) .nil) (.node (o198 P) (.node (oE P) .nil .nil) .nil)) (.node (o102 P) (.node (o166 P) (.node (oE P) .nil .nil) .nil) (.node (o230 P) (.node (o358 P) .nil .nil) .nil))) (.node (o54 P) (.node (oF P) (.node (o150 P) (.node (o278 P) .nil .nil) .nil) (.node (o214 P) (.node (o342 P) .nil .nil) .nil)) (.node (oE P) (.node (oE P) (.node (o310 P) .nil .nil) .nil) (.node (oF P) .nil .nil)))) (.node (oF P) (.node (oE P) (.node (oE P) (.node (oE P) (.node (o270 P) .nil .nil) .nil) (.node (oE P) (.node (o334 P) .nil .nil) .nil)) (.node (o110 P) (.node (oE P) (.node (o302 P) .nil .nil) .nil) (.node (oE P) .nil .nil))) (.node (o62 P) (.node (o94 P) (.node (o158 P) (.node (o286 P) .nil .nil) .nil) (.node (o222 P) (.node (o350 P) .nil .nil) .nil)) (.node (oF P) (.node (oF P) (.node (oE P) .nil .nil) .nil) (.node (o254 P) .nil .nil))))))))
noncomputable def c2_3 (P : Params) : Obj := ⟨(.type "dict"), none, (.dict #[e P "__name__" 165 (T "thinstack.errors" 975), e P "__doc__" 166 .none, e P "__package__" 167 .none, e P "__loader__" 168 (.builtin "__main__.__loader__#opaque"), e P "__spec__" 169 .none, e P "__annotations__" 170 (.ref 6), e P "__builtins__" 171 (.ref 4), e P "__file__" 173 (T "/claim/cut.py" 172), e P "__cached__" 174 .none, e P "_wall" 193 (.ref 21), e P "plus" 204 (.ref 28), e P "distance" 213 (.ref 35), e P "is_before" 223 (.ref 42), e P "is_at_most" 232 (.ref 49), e P "is_within" 242 (.ref 56), e P "latest" 251 (.ref 63), e P "is_acceptable" 264 (.ref 70), e P "is_let_in" 276 (.ref 77), e P "Assembly" 434 (.ref 169), e P "Receiver" 608 (.ref 303), e P "EVERY" 612 (Z 2 611), e P "AckPolicy" 684 (.ref 360), e P "Congestion" 795 (.ref 444), e P "MOST_SHIFT" 799 (Z 7 798), e P "RetransmitClock" 898 (.ref 521), e P "RttEstimate" 974 (.ref 577), e P "StackError" 1005 (.ref 598), e P "SizeError" 1021 (.ref 611), e P "StateError" 1037 (.ref 623)] 29), #[]⟩
noncomputable def c2_12 (P : Params) : Obj := ⟨.none, none, (.fields #[(Z 1 0), (Z 0 0), (.ref 20), (Z 5 0), (Z 0 0), (.ref 27), (Z 7 0), (Z 0 0), (.ref 34), (Z 9 0), (Z 0 0), (.ref 41), (Z 12 0), (Z 0 0), (.ref 48), (Z 14 0), (Z 0 0), (.ref 55), (Z 16 0), (Z 0 0), (.ref 62), (Z 19 0), (Z 0 0), (.ref 69), (Z 28 0), (Z 0 0), (.ref 76), (Z 35 0), (Z 0 0), (.ref 83), (Z 134 0), (Z 0 0), (.ref 179), (Z 232 0), (Z 0 0), (.ref 313), (Z 264 0), (Z 0 0), (.ref 370), (Z 323 0), (Z 0 0), (.ref 454), (Z 367 0), (Z 0 0), (.ref 531), (Z 405 0), (Z 0 0), (.ref 587), (Z 409 0), (Z 0 0), (.ref 607), (Z 411 0), (Z 0 0), (.ref 619)]), #[]⟩
noncomputable def T2 (P : Params) : BT := (.node (boot_o_0 P) (.node (boot_o_1 P) (.node (c2_3 P) (.node (boot_o_7 P) (.node (oE P) (.node (o31 P) (.node (o63 P) (.node (o127 P) (.node (oE P) (.node (o511 P) .nil .nil) .nil) (.node (o383 P) .nil .nil)) (.node (o191 P) (.node (o319 P) (.node (o575 P) .nil .nil) .nil) (.node (o447 P) .nil .nil))) (.node (o95 P) (.node (o159 P) (.node (oE P) (.node (oE P) .nil .nil) .nil) (.node (oF P) .nil .nil)) (.node (o223 P) (.node (oE P) (.node (o607 P) .nil .nil) .nil) (.node (o479 P) .nil .nil)))) (.node (o47 P) (.node (o79 P) (.node (o143 P) (.node (o271 P) (.node (o527 P) .nil .nil) .nil) (.node (o399 P) .nil .nil)) (.node (o207 P) (.node (o335 P) (.node (o591 P) .nil .nil) .nil) (.node (oE P) .nil .nil))) (.node (oE P) (.node (o175 P) (.node (o303 P) (.node (o559 P) .nil .nil) .nil) (.node (oE P) .nil .nil)) (.node (oF P) (.node (o367 P) (.node (o623 P) .nil .nil) .nil) (.node (o495 P) .nil .nil))))) (.node (oF P) (.node (oE P) (.node (oE P) (.node (oE P) (.node (o263 P) (.node (o519 P) .nil .nil) .nil) (.node (o391 P) .nil .nil)) (.node (oE P) (.node (o327 P) (.node (o583 P) .nil .nil) .nil) (.node (o455 P) .nil .nil))) (.node (o103 P) (.node (o167 P) (.node (oF P) (.node (o551 P) .nil .nil) .nil) (.node (o423 P) .nil .nil)) (.node (oE P) (.node (o359 P) (.node (o615 P) .nil .nil) .nil) (.node (oE P) .nil .nil)))) (.node (o55 P) (.node (o87 P) (.node (o151 P) (.node (o279 P) (.node (o535 P) .nil .nil) .nil) (.node (oE P) .nil .nil)) (.node (o215 P) (.node (o343 P) (.node (o599 P) .nil .nil) .nil) (.node (oF P) .nil .nil))) (.node (oF P) (.node (oF P) (.node (oE P) (.node (o567 P) .nil .nil) .nil) (.node (o439 P) .nil .nil)) (.node (o247 P) (.node (oE P) .nil .nil) (.node (o503 P) .nil .nil)))))) (.node (oE P) (.node (o19 P) (.node (o35 P) (.node (oE P) (.node (o131 P) (.node (oE P) (.node (oE P) .nil .nil) .nil) (.node (oF P) .nil .nil)) (.node (o195 P) (.node (oE P) (.node (o579 P) .nil .nil) .nil) (.node (o451 P) .nil .nil))) (.node (o99 P) (.node (oE P) (.node (o291 P) (.node (oE P) .nil .nil) .nil) (.node (o419 P) .nil .nil)) (.node (oE P) (.node (o355 P) (.node (o611 P) .nil .nil) .nil) (.node (o483 P) .nil .nil)))) (.node (oF P) (.node (o83 P) (.node (oF P) (.node (o275 P) (.node (o531 P) .nil .nil) .nil) (.node (oE P) .nil .nil)) (.node (oF P) (.node (o339 P) (.node (o595 P) .nil .nil) .nil) (.node (o467 P) .nil .nil))) (.node (o115 P) (.node (o179 P) (.node (o307 P) (.node (o563 P) .nil .nil) .nil) (.node (oE P) .nil .nil)) (.node (o243 P) (.node (o371 P) .nil .nil) (.node (oF P) .nil .nil))))) (.node (o27 P) (.node (oE P) (.node (o75 P) (.node (oE P) (.node (oF P) (.node (o523 P) .nil .nil) .nil) (.node (o395 P) .nil .nil)) (.node (oE P) (.node (oF P) (.node (o587 P) .nil .nil) .nil) (.node (oE P) .nil .nil))) (.node (oE P) (.node (o171 P) (.node (o299 P) (.node (oF P) .nil .nil) .nil) (.node (o427 P) .nil .nil)) (.node (o235 P) (.node (o363 P) (.node (o619 P) .nil .nil) .nil) (.node (oE P) .nil .nil)))) (.node (o59 P) (.node (o91 P) (.node (o155 P) (.node (oE P) (.node (o539 P) .nil .nil) .nil) (.node (o411 P) .nil .nil)) (.node (o219 P) (.node (oE P) (.node (o603 P) .nil .nil) .nil) (.node (o475 P) .nil .nil))) (.node (o123 P) (.node (o187 P) (.node (oE P) (.node (oE P) .nil .nil) .nil) (.node (o443 P) .nil .nil)) (.node (o251 P) (.node (oE P) .nil .nil) (.node (o507 P) .nil .nil))))))) (.node (boot_o_5 P) (.node (boot_o_9 P) (.node (o17 P) (.node (o33 P) (.node (oF P) (.node (o129 P) (.node (o257 P) (.node (oF P) .nil .nil) .nil) (.node (o385 P) .nil .nil)) (.node (o193 P) (.node (o321 P) (.node (o577 P) .nil .nil) .nil) (.node (oE P) .nil .nil))) (.node (oE P) (.node (oF P) (.node (o289 P) (.node (o545 P) .nil .nil) .nil) (.node (oE P) .nil .nil)) (.node (oF P) (.node (o353 P) (.node (oE P) .nil .nil) .nil) (.node (o481 P) .nil .nil)))) (.node (o49 P) (.node (oE P) (.node (o145 P) (.node (oE P) (.node (oE P) .nil .nil) .nil) (.node (oF P) .nil .nil)) (.node (o209 P) (.node (oE P) (.node (o593 P) .nil .nil) .nil) (.node (o465 P) .nil .nil))) (.node (o113 P) (.node (oE P) (.node (o305 P) (.node (oE P) .nil .nil) .nil) (.node (o433 P) .nil .nil)) (.node (oE P) (.node (o369 P) (.node (o625 P) .nil .nil) .nil) (.node (o497 P) .nil .nil))))) (.node (oE P) (.node (o41 P) (.node (o73 P) (.node (o137 P) (.node (o265 P) (.node (o521 P) .nil .nil) .nil) (.node (oE P) .nil .nil)) (.node (o201 P) (.node (o329 P) (.node (oE P) .nil .nil) .nil) (.node (oF P) .nil .nil))) (.node (oF P) (.node (o169 P) (.node (oE P) (.node (o553 P) .nil .nil) .nil) (.node (o425 P) .nil .nil)) (.node (o233 P) (.node (o361 P) (.node (oE P) .nil .nil) .nil) (.node (o489 P) .nil .nil)))) (.node (oE P) (.node (o89 P) (.node (oE P) (.node (oF P) (.node (o537 P) .nil .nil) .nil) (.node (o409 P) .nil .nil)) (.node (oE P) (.node (oF P) (.node (o601 P) .nil .nil) .nil) (.node (oE P) .nil .nil))) (.node (oE P) (.node (oE P) (.node (o313 P) (.node (oF P) .nil .nil) .nil) (.node (o441 P) .nil .nil)) (.node (o249 P) (.node (o377 P) .nil .nil) (.node (oE P) .nil .nil)))))) (.node (o13 P) (.node (o21 P) (.node (oF P) (.node (o69 P) (.node (oF P) (.node (o261 P) (.node (o517 P) .nil .nil) .nil) (.node (oE P) .nil .nil)) (.node (oF P) (.node (o325 P) (.node (o581 P) .nil .nil) .nil) (.node (o453 P) .nil .nil))) (.node (o101 P) (.node (o165 P) (.node (o293 P) (.node (o549 P) .nil .nil) .nil) (.node (oE P) .nil .nil)) (.node (o229 P) (.node (o357 P) (.node (o613 P) .nil .nil) .nil) (.node (oF P) .nil .nil)))) (.node (oE P) (.node (oE P) (.node (oE P) (.node (o277 P) (.node (oE P) .nil .nil) .nil) (.node (o405 P) .nil .nil)) (.node (oE P) (.node (o341 P) (.node (o597 P) .nil .nil) .nil) (.node (o469 P) .nil .nil))) (.node (o117 P) (.node (o181 P) (.node (o309 P) (.node (o565 P) .nil .nil) .nil) (.node (o437 P) .nil .nil)) (.node (oE P) (.node (oF P) .nil .nil) (.node (oE P) .nil .nil))))) (.node (oE P) (.node (o45 P) (.node (o77 P) (.node (o141 P) (.node (oE P) (.node (o525 P) .nil .nil) .nil) (.node (o397 P) .nil .nil)) (.node (o205 P) (.node (oE P) (.node (oE P) .nil .nil) .nil) (.node (o461 P) .nil .nil))) (.node (o109 P) (.node (o173 P) (.node (o301 P) (.node (oE P) .nil .nil) .nil) (.node (oF P) .nil .nil)) (.node (o237 P) (.node (oE P) (.node (oE P) .nil .nil) .nil) (.node (o493 P) .nil .nil)))) (.node (o61 P) (.node (oF P) (.node (o157 P) (.node (o285 P) (.node (oF P) .nil .nil) .nil) (.node (o413 P) .nil .nil)) (.node (o221 P) (.node (o349 P) (.node (oE P) .nil .nil) .nil) (.node (oE P) .nil .nil))) (.node (oE P) (.node (oE P) (.node (o317 P) (.node (o573 P) .nil .nil) .nil) (.node (o445 P) .nil .nil)) (.node (oF P) (.node (o381 P) .nil .nil) (.node (o509 P) .nil .nil)))))))) (.node (o2 P) (.node (boot_o_4 P) (.node (boot_o_8 P) (.node (oF P) (.node (oE P) (.node (oE P) (.node (oE P) (.node (o256 P) (.node (oE P) .nil .nil) .nil) (.node (o384 P) .nil .nil)) (.node (oE P) (.node (o320 P) (.node (o576 P) .nil .nil) .nil) (.node (o448 P) .nil .nil))) (.node (o96 P) (.node (oE P) (.node (oF P) (.node (o544 P) .nil .nil) .nil) (.node (o416 P) .nil .nil)) (.node (oE P) (.node (oF P) (.node (o608 P) .nil .nil) .nil) (.node (oE P) .nil .nil)))) (.node (o48 P) (.node (o80 P) (.node (o144 P) (.node (o272 P) (.node (o528 P) .nil .nil) .nil) (.node (oE P) .nil .nil)) (.node (o208 P) (.node (o336 P) (.node (oE P) .nil .nil) .nil) (.node (oF P) .nil .nil))) (.node (oF P) (.node (o176 P) (.node (o304 P) (.node (o560 P) .nil .nil) .nil) (.node (o432 P) .nil .nil)) (.node (o240 P) (.node (oE P) (.node (o624 P) .nil .nil) .nil) (.node (o496 P) .nil .nil))))) (.node (o24 P) (.node (o40 P) (.node (oF P) (.node (o136 P) (.node (o264 P) (.node (o520 P) .nil .nil) .nil) (.node (o392 P) .nil .nil)) (.node (o200 P) (.node (o328 P) (.node (o584 P) .nil .nil) .nil) (.node (oE P) .nil .nil))) (.node (oE P) (.node (o168 P) (.node (o296 P) (.node (o552 P) .nil .nil) .nil) (.node (oE P) .nil .nil)) (.node (oF P) (.node (o360 P) (.node (o616 P) .nil .nil) .nil) (.node (o488 P) .nil .nil)))) (.node (o56 P) (.node (oE P) (.node (o152 P) (.node (oE P) (.node (oE P) .nil .nil) .nil) (.node (oF P) .nil .nil)) (.node (o216 P) (.node (oE P) (.node (o600 P) .nil .nil) .nil) (.node (o472 P) .nil .nil))) (.node (o120 P) (.node (o184 P) (.node (o312 P) (.node (oE P) .nil .nil) .nil) (.node (o440 P) .nil .nil)) (.node (oE P) (.node (o376 P) .nil .nil) (.node (o504 P) .nil .nil)))))) (.node (c2_12 P) (.node (o20 P) (.node (oE P) (.node (o68 P) (.node (oE P) (.node (oF P) (.node (o516 P) .nil .nil) .nil) (.node (o388 P) .nil .nil)) (.node (oE P) (.node (oF P) (.node (o580 P) .nil .nil) .nil) (.node (oE P) .nil .nil))) (.node (oE P) (.node (o164 P) (.node (o292 P) (.node (oF P) .nil .nil) .nil) (.node (o420 P) .nil .nil)) (.node (o228 P) (.node (o356 P) (.node (o612 P) .nil .nil) .nil) (.node (oE P) .nil .nil)))) (.node (o52 P) (.node (o84 P) (.node (o148 P) (.node (oE P) (.node (o532 P) .nil .nil) .nil) (.node (o404 P) .nil .nil)) (.node (o212 P) (.node (oE P) (.node (o596 P) .nil .nil) .nil) (.node (o468 P) .nil .nil))) (.node (o116 P) (.node (o180 P) (.node (oE P) (.node (oE P) .nil .nil) .nil) (.node (oF P) .nil .nil)) (.node (o244 P) (.node (oE P) .nil .nil) (.node (o500 P) .nil .nil))))) (.node (o28 P) (.node (oF P) (.node (o76 P) (.node (oF P) (.node (o268 P) (.node (o524 P) .nil .nil) .nil) (.node (oE P) .nil .nil)) (.node (oF P) (.node (o332 P) (.node (o588 P) .nil .nil) .nil) (.node (o460 P) .nil .nil))) (.node (o108 P) (.node (o172 P) (.node (o300 P) (.node (o556 P) .nil .nil) .nil) (.node (oE P) .nil .nil)) (.node (o236 P) (.node (o364 P) (.node (o620 P) .nil .nil) .nil) (.node (oF P) .nil .nil)))) (.node (oE P) (.node (oE P) (.node (oE P) (.node (o284 P) (.node (oE P) .nil .nil) .nil) (.node (o412 P) .nil .nil)) (.node (oE P) (.node (o348 P) (.node (o604 P) .nil .nil) .nil) (.node (o476 P) .nil .nil))) (.node (o124 P) (.node (o188 P) (.node (oF P) (.node (o572 P) .nil .nil) .nil) (.node (o444 P) .nil .nil)) (.node (oE P) (.node (oF P) .nil .nil) (.node (oE P) .nil .nil))))))) (.node (boot_o_6 P) (.node (boot_o_10 P) (.node (oE P) (.node (o34 P) (.node (o66 P) (.node (o130 P) (.node (o258 P) (.node (o514 P) .nil .nil) .nil) (.node (oE P) .nil .nil)) (.node (o194 P) (.node (o322 P) (.node (o578 P) .nil .nil) .nil) (.node (o450 P) .nil .nil))) (.node (oF P) (.node (o162 P) (.node (oE P) (.node (o546 P) .nil .nil) .nil) (.node (o418 P) .nil .nil)) (.node (o226 P) (.node (oE P) (.node (o610 P) .nil .nil) .nil) (.node (o482 P) .nil .nil)))) (.node (oE P) (.node (o82 P) (.node (oE P) (.node (oF P) (.node (o530 P) .nil .nil) .nil) (.node (o402 P) .nil .nil)) (.node (oE P) (.node (oF P) (.node (o594 P) .nil .nil) .nil) (.node (oE P) .nil .nil))) (.node (oE P) (.node (o178 P) (.node (o306 P) (.node (oF P) .nil .nil) .nil) (.node (o434 P) .nil .nil)) (.node (o242 P) (.node (o370 P) .nil .nil) (.node (oE P) .nil .nil))))) (.node (o26 P) (.node (o42 P) (.node (oE P) (.node (o138 P) (.node (oE P) (.node (o522 P) .nil .nil) .nil) (.node (oF P) .nil .nil)) (.node (o202 P) (.node (oE P) (.node (o586 P) .nil .nil) .nil) (.node (o458 P) .nil .nil))) (.node (o106 P) (.node (o170 P) (.node (o298 P) (.node (oE P) .nil .nil) .nil) (.node (o426 P) .nil .nil)) (.node (oE P) (.node (o362 P) (.node (oF P) .nil .nil) .nil) (.node (o490 P) .nil .nil)))) (.node (oF P) (.node (o90 P) (.node (oF P) (.node (o282 P) (.node (o538 P) .nil .nil) .nil) (.node (oE P) .nil .nil)) (.node (oF P) (.node (o346 P) (.node (o602 P) .nil .nil) .nil) (.node (o474 P) .nil .nil))) (.node (o122 P) (.node (o186 P) (.node (o314 P) (.node (o570 P) .nil .nil) .nil) (.node (o442 P) .nil .nil)) (.node (o250 P) (.node (o378 P) .nil .nil) (.node (oF P) .nil .nil)))))) (.node (o14 P) (.node (oE P) (.node (o38 P) (.node (o70 P) (.node (o134 P) (.node (oE P) (.node (o518 P) .nil .nil) .nil) (.node (o390 P) .nil .nil)) (.node (o198 P) (.node (oE P) (.node (o582 P) .nil .nil) .nil) (.node (o454 P) .nil .nil))) (.node (o102 P) (.node (o166 P) (.node (oE P) (.node (oE P) .nil .nil) .nil) (.node (oF P) .nil .nil)) (.node (o230 P) (.node (o358 P) (.node (o614 P) .nil .nil) .nil) (.node (o486 P) .nil .nil)))) (.node (o54 P) (.node (oF P) (.node (o150 P) (.node (o278 P) (.node (oF P) .nil .nil) .nil) (.node (o406 P) .nil .nil)) (.node (o214 P) (.node (o342 P) (.node (o598 P) .nil .nil) .nil) (.node (oE P) .nil .nil))) (.node (oE P) (.node (oE P) (.node (o310 P) (.node (o566 P) .nil .nil) .nil) (.node (oE P) .nil .nil)) (.node (oF P) (.node (o374 P) .nil .nil) (.node (o502 P) .nil .nil))))) (.node (oF P) (.node (oE P) (.node (oE P) (.node (oE P) (.node (o270 P) (.node (oE P) .nil .nil) .nil) (.node (o398 P) .nil .nil)) (.node (oE P) (.node (o334 P) (.node (oF P) .nil .nil) .nil) (.node (o462 P) .nil .nil))) (.node (o110 P) (.node (oE P) (.node (o302 P) (.node (o558 P) .nil .nil) .nil) (.node (o430 P) .nil .nil)) (.node (oE P) (.node (o366 P) (.node (o622 P) .nil .nil) .nil) (.node (oE P) .nil .nil)))) (.node (o62 P) (.node (o94 P) (.node (o158 P) (.node (o286 P) (.node (o542 P) .nil .nil) .nil) (.node (oE P) .nil .nil)) (.node (o222 P) (.node (o350 P) (.node (oF P) .nil .nil) .nil) (.node (oF P) .nil .nil))) (.node (oF P) (.node (oF P) (.node (oE P) (.node (o574 P) .nil .nil) .nil) (.node (o446 P) .nil .nil)) (.node (o254 P) (.node (oE P) .nil .nil) (.node (o510 P) .nil .nil)))))))))
noncomputable def c3_3 (P : Params) : Obj := ⟨(.type "dict"), none, (.dict #[e P "__name__" 165 (T "thinstack.octets" 1402), e P "__doc__" 166 .none, e P "__package__" 167 .none, e P "__loader__" 168 (.builtin "__main__.__loader__#opaque"), e P "__spec__" 169 .none, e P "__annotations__" 170 (.ref 6), e P "__builtins__" 171 (.ref 4), e P "__file__" 173 (T "/claim/cut.py" 172), e P "__cached__" 174 .none, e P "_wall" 193 (.ref 21), e P "plus" 204 (.ref 28), e P "distance" 213 (.ref 35), e P "is_before" 223 (.ref 42), e P "is_at_most" 232 (.ref 49), e P "is_within" 242 (.ref 56), e P "latest" 251 (.ref 63), e P "is_acceptable" 264 (.ref 70), e P "is_let_in" 276 (.ref 77), e P "Assembly" 434 (.ref 169), e P "Receiver" 608 (.ref 303), e P "EVERY" 612 (Z 2 611), e P "AckPolicy" 684 (.ref 360), e P "Congestion" 795 (.ref 444), e P "MOST_SHIFT" 799 (Z 7 798), e P "RetransmitClock" 898 (.ref 521), e P "RttEstimate" 974 (.ref 577), e P "StackError" 1005 (.ref 598), e P "SizeError" 1021 (.ref 611), e P "StateError" 1037 (.ref 623), e P "SendQueue" 1109 (.ref 677), e P "PeerWindow" 1164 (.ref 712), e P "Sender" 1401 (.ref 903), e P "put16" 1410 (.ref 914)] 33), #[]⟩
noncomputable def c3_12 (P : Params) : Obj := ⟨.none, none, (.fields #[(Z 1 0), (Z 0 0), (.ref 20), (Z 5 0), (Z 0 0), (.ref 27), (Z 7 0), (Z 0 0), (.ref 34), (Z 9 0), (Z 0 0), (.ref 41), (Z 12 0), (Z 0 0), (.ref 48), (Z 14 0), (Z 0 0), (.ref 55), (Z 16 0), (Z 0 0), (.ref 62), (Z 19 0), (Z 0 0), (.ref 69), (Z 28 0), (Z 0 0), (.ref 76), (Z 35 0), (Z 0 0), (.ref 83), (Z 134 0), (Z 0 0), (.ref 179), (Z 232 0), (Z 0 0), (.ref 313), (Z 264 0), (Z 0 0), (.ref 370), (Z 323 0), (Z 0 0), (.ref 454), (Z 367 0), (Z 0 0), (.ref 531), (Z 405 0), (Z 0 0), (.ref 587), (Z 409 0), (Z 0 0), (.ref 607), (Z 411 0), (Z 0 0), (.ref 619), (Z 414 0), (Z 0 0), (.ref 631), (Z 443 0), (Z 0 0), (.ref 687), (Z 468 0), (Z 0 0), (.ref 722), (Z 599 0), (Z 0 0), (.ref 913)]), #[]⟩
noncomputable def T3 (P : Params) : BT := (.node (boot_o_0 P) (.node (boot_o_1 P) (.node (c3_3 P) (.node (boot_o_7 P) (.node (oE P) (.node (o31 P) (.node (o63 P) (.node (o127 P) (.node (oE P) (.node (o511 P) .nil .nil) (.node (oE P) .nil .nil)) (.node (o383 P) (.node (o639 P) .nil .nil) (.node (oF P) .nil .nil))) (.node (o191 P) (.node (o319 P) (.node (o575 P) .nil .nil) (.node (oE P) .nil .nil)) (.node (o447 P) (.node (oE P) .nil .nil) .nil))) (.node (o95 P) (.node (o159 P) (.node (oE P) (.node (oE P) .nil .nil) (.node (o799 P) .nil .nil)) (.node (oF P) (.node (oE P) .nil .nil) .nil)) (.node (o223 P) (.node (oE P) (.node (o607 P) .nil .nil) (.node (o863 P) .nil .nil)) (.node (o479 P) (.node (o735 P) .nil .nil) .nil)))) (.node (o47 P) (.node (o79 P) (.node (o143 P) (.node (o271 P) (.node (o527 P) .nil .nil) (.node (o783 P) .nil .nil)) (.node (o399 P) (.node (oF P) .nil .nil) (.node (oE P) .nil .nil))) (.node (o207 P) (.node (o335 P) (.node (o591 P) .nil .nil) (.node (o847 P) .nil .nil)) (.node (oE P) (.node (o719 P) .nil .nil) .nil))) (.node (oE P) (.node (o175 P) (.node (o303 P) (.node (o559 P) .nil .nil) (.node (o815 P) .nil .nil)) (.node (oE P) (.node (o687 P) .nil .nil) .nil)) (.node (oF P) (.node (o367 P) (.node (o623 P) .nil .nil) (.node (o879 P) .nil .nil)) (.node (o495 P) (.node (o751 P) .nil .nil) .nil))))) (.node (oF P) (.node (oE P) (.node (oE P) (.node (oE P) (.node (o263 P) (.node (o519 P) .nil .nil) (.node (oF P) .nil .nil)) (.node (o391 P) (.node (oE P) .nil .nil) (.node (o903 P) .nil .nil))) (.node (oE P) (.node (o327 P) (.node (o583 P) .nil .nil) (.node (oF P) .nil .nil)) (.node (o455 P) (.node (o711 P) .nil .nil) .nil))) (.node (o103 P) (.node (o167 P) (.node (oF P) (.node (o551 P) .nil .nil) (.node (o807 P) .nil .nil)) (.node (o423 P) (.node (o679 P) .nil .nil) .nil)) (.node (oE P) (.node (o359 P) (.node (o615 P) .nil .nil) (.node (o871 P) .nil .nil)) (.node (oE P) (.node (o743 P) .nil .nil) .nil)))) (.node (o55 P) (.node (o87 P) (.node (o151 P) (.node (o279 P) (.node (o535 P) .nil .nil) (.node (oE P) .nil .nil)) (.node (oE P) (.node (o663 P) .nil .nil) .nil)) (.node (o215 P) (.node (o343 P) (.node (o599 P) .nil .nil) (.node (oE P) .nil .nil)) (.node (oF P) (.node (oE P) .nil .nil) .nil))) (.node (oF P) (.node (oF P) (.node (oE P) (.node (o567 P) .nil .nil) (.node (oE P) .nil .nil)) (.node (o439 P) (.node (o695 P) .nil .nil) .nil)) (.node (o247 P) (.node (oE P) (.node (o631 P) .nil .nil) (.node (oE P) .nil .nil)) (.node (o503 P) (.node (o759 P) .nil .nil) .nil)))))) (.node (oE P) (.node (o19 P) (.node (o35 P) (.node (oE P) (.node (o131 P) (.node (oE P) (.node (oE P) .nil .nil) (.node (o771 P) .nil .nil)) (.node (oF P) (.node (oE P) .nil .nil) (.node (o899 P) .nil .nil))) (.node (o195 P) (.node (oE P) (.node (o579 P) .nil .nil) (.node (o835 P) .nil .nil)) (.node (o451 P) (.node (o707 P) .nil .nil) .nil))) (.node (o99 P) (.node (oE P) (.node (o291 P) (.node (oE P) .nil .nil) (.node (oF P) .nil .nil)) (.node (o419 P) (.node (o675 P) .nil .nil) .nil)) (.node (oE P) (.node (o355 P) (.node (o611 P) .nil .nil) (.node (oF P) .nil .nil)) (.node (o483 P) (.node (oE P) .nil .nil) .nil)))) (.node (oF P) (.node (o83 P) (.node (oF P) (.node (o275 P) (.node (o531 P) .nil .nil) (.node (o787 P) .nil .nil)) (.node (oE P) (.node (o659 P) .nil .nil) .nil)) (.node (oF P) (.node (o339 P) (.node (o595 P) .nil .nil) (.node (o851 P) .nil .nil)) (.node (o467 P) (.node (o723 P) .nil .nil) .nil))) (.node (o115 P) (.node (o179 P) (.node (o307 P) (.node (o563 P) .nil .nil) (.node (oE P) .nil .nil)) (.node (oE P) (.node (o691 P) .nil .nil) .nil)) (.node (o243 P) (.node (o371 P) (.node (o627 P) .nil .nil) (.node (oE P) .nil .nil)) (.node (oF P) (.node (o755 P) .nil .nil) .nil))))) (.node (o27 P) (.node (oE P) (.node (o75 P) (.node (oE P) (.node (oF P) (.node (o523 P) .nil .nil) (.node (o779 P) .nil .nil)) (.node (o395 P) (.node (o651 P) .nil .nil) (.node (o907 P) .nil .nil))) (.node (oE P) (.node (oF P) (.node (o587 P) .nil .nil) (.node (o843 P) .nil .nil)) (.node (oE P) (.node (o715 P) .nil .nil) .nil))) (.node (oE P) (.node (o171 P) (.node (o299 P) (.node (oF P) .nil .nil) (.node (o811 P) .nil .nil)) (.node (o427 P) (.node (o683 P) .nil .nil) .nil)) (.node (o235 P) (.node (o363 P) (.node (o619 P) .nil .nil) (.node (o875 P) .nil .nil)) (.node (oE P) (.node (oF P) .nil .nil) .nil)))) (.node (o59 P) (.node (o91 P) (.node (o155 P) (.node (oE P) (.node (o539 P) .nil .nil) (.node (oE P) .nil .nil)) (.node (o411 P) (.node (o667 P) .nil .nil) .nil)) (.node (o219 P) (.node (oE P) (.node (o603 P) .nil .nil) (.node (oE P) .nil .nil)) (.node (o475 P) (.node (oE P) .nil .nil) .nil))) (.node (o123 P) (.node (o187 P) (.node (oE P) (.node (oE P) .nil .nil) (.node (o827 P) .nil .nil)) (.node (o443 P) (.node (oE P) .nil .nil) .nil)) (.node (o251 P) (.node (oE P) (.node (o635 P) .nil .nil) (.node (o891 P) .nil .nil)) (.node (o507 P) (.node (oE P) .nil .nil) .nil))))))) (.node (boot_o_5 P) (.node (boot_o_9 P) (.node (o17 P) (.node (o33 P) (.node (oF P) (.node (o129 P) (.node (o257 P) (.node (oF P) .nil .nil) (.node (o769 P) .nil .nil)) (.node (o385 P) (.node (oF P) .nil .nil) (.node (oE P) .nil .nil))) (.node (o193 P) (.node (o321 P) (.node (o577 P) .nil .nil) (.node (o833 P) .nil .nil)) (.node (oE P) (.node (o705 P) .nil .nil) .nil))) (.node (oE P) (.node (oF P) (.node (o289 P) (.node (o545 P) .nil .nil) (.node (o801 P) .nil .nil)) (.node (oE P) (.node (o673 P) .nil .nil) .nil)) (.node (oF P) (.node (o353 P) (.node (oE P) .nil .nil) (.node (o865 P) .nil .nil)) (.node (o481 P) (.node (o737 P) .nil .nil) .nil)))) (.node (o49 P) (.node (oE P) (.node (o145 P) (.node (oE P) (.node (oE P) .nil .nil) (.node (o785 P) .nil .nil)) (.node (oF P) (.node (oE P) .nil .nil) (.node (o913 P) .nil .nil))) (.node (o209 P) (.node (oE P) (.node (o593 P) .nil .nil) (.node (o849 P) .nil .nil)) (.node (o465 P) (.node (o721 P) .nil .nil) .nil))) (.node (o113 P) (.node (oE P) (.node (o305 P) (.node (oE P) .nil .nil) (.node (oF P) .nil .nil)) (.node (o433 P) (.node (oE P) .nil .nil) .nil)) (.node (oE P) (.node (o369 P) (.node (o625 P) .nil .nil) (.node (oF P) .nil .nil)) (.node (o497 P) (.node (oE P) .nil .nil) .nil))))) (.node (oE P) (.node (o41 P) (.node (o73 P) (.node (o137 P) (.node (o265 P) (.node (o521 P) .nil .nil) (.node (oE P) .nil .nil)) (.node (oE P) (.node (o649 P) .nil .nil) (.node (o905 P) .nil .nil))) (.node (o201 P) (.node (o329 P) (.node (oE P) .nil .nil) (.node (oE P) .nil .nil)) (.node (oF P) (.node (o713 P) .nil .nil) .nil))) (.node (oF P) (.node (o169 P) (.node (oE P) (.node (o553 P) .nil .nil) (.node (oE P) .nil .nil)) (.node (o425 P) (.node (o681 P) .nil .nil) .nil)) (.node (o233 P) (.node (o361 P) (.node (oE P) .nil .nil) (.node (oE P) .nil .nil)) (.node (o489 P) (.node (o745 P) .nil .nil) .nil)))) (.node (oE P) (.node (o89 P) (.node (oE P) (.node (oF P) (.node (o537 P) .nil .nil) (.node (o793 P) .nil .nil)) (.node (o409 P) (.node (o665 P) .nil .nil) .nil)) (.node (oE P) (.node (oF P) (.node (o601 P) .nil .nil) (.node (o857 P) .nil .nil)) (.node (oE P) (.node (o729 P) .nil .nil) .nil))) (.node (oE P) (.node (oE P) (.node (o313 P) (.node (oF P) .nil .nil) (.node (o825 P) .nil .nil)) (.node (o441 P) (.node (oF P) .nil .nil) .nil)) (.node (o249 P) (.node (o377 P) (.node (oE P) .nil .nil) (.node (o889 P) .nil .nil)) (.node (oE P) (.node (oF P) .nil .nil) .nil)))))) (.node (o13 P) (.node (o21 P) (.node (oF P) (.node (o69 P) (.node (oF P) (.node (o261 P) (.node (o517 P) .nil .nil) (.node (o773 P) .nil .nil)) (.node (oE P) (.node (o645 P) .nil .nil) (.node (o901 P) .nil .nil))) (.node (oF P) (.node (o325 P) (.node (o581 P) .nil .nil) (.node (o837 P) .nil .nil)) (.node (o453 P) (.node (o709 P) .nil .nil) .nil))) (.node (o101 P) (.node (o165 P) (.node (o293 P) (.node (o549 P) .nil .nil) (.node (oE P) .nil .nil)) (.node (oE P) (.node (o677 P) .nil .nil) .nil)) (.node (o229 P) (.node (o357 P) (.node (o613 P) .nil .nil) (.node (oE P) .nil .nil)) (.node (oF P) (.node (o741 P) .nil .nil) .nil)))) (.node (oE P) (.node (oE P) (.node (oE P) (.node (o277 P) (.node (oE P) .nil .nil) (.node (oF P) .nil .nil)) (.node (o405 P) (.node (oE P) .nil .nil) .nil)) (.node (oE P) (.node (o341 P) (.node (o597 P) .nil .nil) (.node (oF P) .nil .nil)) (.node (o469 P) (.node (oF P) .nil .nil) .nil))) (.node (o117 P) (.node (o181 P) (.node (o309 P) (.node (o565 P) .nil .nil) (.node (o821 P) .nil .nil)) (.node (o437 P) (.node (o693 P) .nil .nil) .nil)) (.node (oE P) (.node (oF P) (.node (oE P) .nil .nil) (.node (o885 P) .nil .nil)) (.node (oE P) (.node (o757 P) .nil .nil) .nil))))) (.node (oE P) (.node (o45 P) (.node (o77 P) (.node (o141 P) (.node (oE P) (.node (o525 P) .nil .nil) (.node (oE P) .nil .nil)) (.node (o397 P) (.node (o653 P) .nil .nil) (.node (oF P) .nil .nil))) (.node (o205 P) (.node (oE P) (.node (oE P) .nil .nil) (.node (oE P) .nil .nil)) (.node (o461 P) (.node (oE P) .nil .nil) .nil))) (.node (o109 P) (.node (o173 P) (.node (o301 P) (.node (oE P) .nil .nil) (.node (o813 P) .nil .nil)) (.node (oF P) (.node (oE P) .nil .nil) .nil)) (.node (o237 P) (.node (oE P) (.node (oE P) .nil .nil) (.node (o877 P) .nil .nil)) (.node (o493 P) (.node (oE P) .nil .nil) .nil)))) (.node (o61 P) (.node (oF P) (.node (o157 P) (.node (o285 P) (.node (oF P) .nil .nil) (.node (o797 P) .nil .nil)) (.node (o413 P) (.node (oF P) .nil .nil) .nil)) (.node (o221 P) (.node (o349 P) (.node (oE P) .nil .nil) (.node (o861 P) .nil .nil)) (.node (oE P) (.node (o733 P) .nil .nil) .nil))) (.node (oE P) (.node (oE P) (.node (o317 P) (.node (o573 P) .nil .nil) (.node (o829 P) .nil .nil)) (.node (o445 P) (.node (o701 P) .nil .nil) .nil)) (.node (oF P) (.node (o381 P) (.node (o637 P) .nil .nil) (.node (o893 P) .nil .nil)) (.node (o509 P) (.node (o765 P) .nil .nil) .nil)))))))) (.node (o2 P) (.node (boot_o_4 P) (.node (boot_o_8 P) (.node (oF P) (.node (oE P) (.node (oE P) (.node (oE P) (.node (o256 P) (.node (oE P) .nil .nil) (.node (oF P) .nil .nil)) (.node (o384 P) (.node (oE P) .nil .nil) (.node (o896 P) .nil .nil))) (.node (oE P) (.node (o320 P) (.node (o576 P) .nil .nil) (.node (oF P) .nil .nil)) (.node (o448 P) (.node (oF P) .nil .nil) .nil))) (.node (o96 P) (.node (oE P) (.node (oF P) (.node (o544 P) .nil .nil) (.node (o800 P) .nil .nil)) (.node (o416 P) (.node (o672 P) .nil .nil) .nil)) (.node (oE P) (.node (oF P) (.node (o608 P) .nil .nil) (.node (o864 P) .nil .nil)) (.node (oE P) (.node (o736 P) .nil .nil) .nil)))) (.node (o48 P) (.node (o80 P) (.node (o144 P) (.node (o272 P) (.node (o528 P) .nil .nil) (.node (oE P) .nil .nil)) (.node (oE P) (.node (o656 P) .nil .nil) (.node (o912 P) .nil .nil))) (.node (o208 P) (.node (o336 P) (.node (oE P) .nil .nil) (.node (oE P) .nil .nil)) (.node (oF P) (.node (oE P) .nil .nil) .nil))) (.node (oF P) (.node (o176 P) (.node (o304 P) (.node (o560 P) .nil .nil) (.node (oE P) .nil .nil)) (.node (o432 P) (.node (o688 P) .nil .nil) .nil)) (.node (o240 P) (.node (oE P) (.node (o624 P) .nil .nil) (.node (oE P) .nil .nil)) (.node (o496 P) (.node (o752 P) .nil .nil) .nil))))) (.node (o24 P) (.node (o40 P) (.node (oF P) (.node (o136 P) (.node (o264 P) (.node (o520 P) .nil .nil) (.node (o776 P) .nil .nil)) (.node (o392 P) (.node (oF P) .nil .nil) (.node (o904 P) .nil .nil))) (.node (o200 P) (.node (o328 P) (.node (o584 P) .nil .nil) (.node (o840 P) .nil .nil)) (.node (oE P) (.node (o712 P) .nil .nil) .nil))) (.node (oE P) (.node (o168 P) (.node (o296 P) (.node (o552 P) .nil .nil) (.node (o808 P) .nil .nil)) (.node (oE P) (.node (o680 P) .nil .nil) .nil)) (.node (oF P) (.node (o360 P) (.node (o616 P) .nil .nil) (.node (o872 P) .nil .nil)) (.node (o488 P) (.node (o744 P) .nil .nil) .nil)))) (.node (o56 P) (.node (oE P) (.node (o152 P) (.node (oE P) (.node (oE P) .nil .nil) (.node (o792 P) .nil .nil)) (.node (oF P) (.node (oE P) .nil .nil) .nil)) (.node (o216 P) (.node (oE P) (.node (o600 P) .nil .nil) (.node (o856 P) .nil .nil)) (.node (o472 P) (.node (o728 P) .nil .nil) .nil))) (.node (o120 P) (.node (o184 P) (.node (o312 P) (.node (oE P) .nil .nil) (.node (oF P) .nil .nil)) (.node (o440 P) (.node (oE P) .nil .nil) .nil)) (.node (oE P) (.node (o376 P) (.node (o632 P) .nil .nil) (.node (oF P) .nil .nil)) (.node (o504 P) (.node (oE P) .nil .nil) .nil)))))) (.node (c3_12 P) (.node (o20 P) (.node (oE P) (.node (o68 P) (.node (oE P) (.node (oF P) (.node (o516 P) .nil .nil) (.node (o772 P) .nil .nil)) (.node (o388 P) (.node (o644 P) .nil .nil) (.node (o900 P) .nil .nil))) (.node (oE P) (.node (oF P) (.node (o580 P) .nil .nil) (.node (o836 P) .nil .nil)) (.node (oE P) (.node (o708 P) .nil .nil) .nil))) (.node (oE P) (.node (o164 P) (.node (o292 P) (.node (oF P) .nil .nil) (.node (o804 P) .nil .nil)) (.node (o420 P) (.node (o676 P) .nil .nil) .nil)) (.node (o228 P) (.node (o356 P) (.node (o612 P) .nil .nil) (.node (o868 P) .nil .nil)) (.node (oE P) (.node (oF P) .nil .nil) .nil)))) (.node (o52 P) (.node (o84 P) (.node (o148 P) (.node (oE P) (.node (o532 P) .nil .nil) (.node (oE P) .nil .nil)) (.node (o404 P) (.node (o660 P) .nil .nil) .nil)) (.node (o212 P) (.node (oE P) (.node (o596 P) .nil .nil) (.node (oE P) .nil .nil)) (.node (o468 P) (.node (oE P) .nil .nil) .nil))) (.node (o116 P) (.node (o180 P) (.node (oE P) (.node (oE P) .nil .nil) (.node (o820 P) .nil .nil)) (.node (oF P) (.node (oE P) .nil .nil) .nil)) (.node (o244 P) (.node (oE P) (.node (o628 P) .nil .nil) (.node (o884 P) .nil .nil)) (.node (o500 P) (.node (oE P) .nil .nil) .nil))))) (.node (o28 P) (.node (oF P) (.node (o76 P) (.node (oF P) (.node (o268 P) (.node (o524 P) .nil .nil) (.node (o780 P) .nil .nil)) (.node (oE P) (.node (o652 P) .nil .nil) (.node (oE P) .nil .nil))) (.node (oF P) (.node (o332 P) (.node (o588 P) .nil .nil) (.node (o844 P) .nil .nil)) (.node (o460 P) (.node (o716 P) .nil .nil) .nil))) (.node (o108 P) (.node (o172 P) (.node (o300 P) (.node (o556 P) .nil .nil) (.node (oE P) .nil .nil)) (.node (oE P) (.node (o684 P) .nil .nil) .nil)) (.node (o236 P) (.node (o364 P) (.node (o620 P) .nil .nil) (.node (oE P) .nil .nil)) (.node (oF P) (.node (o748 P) .nil .nil) .nil)))) (.node (oE P) (.node (oE P) (.node (oE P) (.node (o284 P) (.node (oE P) .nil .nil) (.node (oF P) .nil .nil)) (.node (o412 P) (.node (oE P) .nil .nil) .nil)) (.node (oE P) (.node (o348 P) (.node (o604 P) .nil .nil) (.node (oF P) .nil .nil)) (.node (o476 P) (.node (oF P) .nil .nil) .nil))) (.node (o124 P) (.node (o188 P) (.node (oF P) (.node (o572 P) .nil .nil) (.node (o828 P) .nil .nil)) (.node (o444 P) (.node (o700 P) .nil .nil) .nil)) (.node (oE P) (.node (oF P) (.node (oE P) .nil .nil) (.node (o892 P) .nil .nil)) (.node (oE P) (.node (o764 P) .nil .nil) .nil))))))) (.node (boot_o_6 P) (.node (boot_o_10 P) (.node (oE P) (.node (o34 P) (.node (o66 P) (.node (o130 P) (.node (o258 P) (.node (o514 P) .nil .nil) (.node (oE P) .nil .nil)) (.node (oE P) (.node (o642 P) .nil .nil) (.node (o898 P) .nil .nil))) (.node (o194 P) (.node (o322 P) (.node (o578 P) .nil .nil) (.node (oE P) .nil .nil)) (.node (o450 P) (.node (oE P) .nil .nil) .nil))) (.node (oF P) (.node (o162 P) (.node (oE P) (.node (o546 P) .nil .nil) (.node (oE P) .nil .nil)) (.node (o418 P) (.node (o674 P) .nil .nil) .nil)) (.node (o226 P) (.node (oE P) (.node (o610 P) .nil .nil) (.node (oE P) .nil .nil)) (.node (o482 P) (.node (o738 P) .nil .nil) .nil)))) (.node (oE P) (.node (o82 P) (.node (oE P) (.node (oF P) (.node (o530 P) .nil .nil) (.node (o786 P) .nil .nil)) (.node (o402 P) (.node (o658 P) .nil .nil) (.node (o914 P) .nil .nil))) (.node (oE P) (.node (oF P) (.node (o594 P) .nil .nil) (.node (o850 P) .nil .nil)) (.node (oE P) (.node (o722 P) .nil .nil) .nil))) (.node (oE P) (.node (o178 P) (.node (o306 P) (.node (oF P) .nil .nil) (.node (o818 P) .nil .nil)) (.node (o434 P) (.node (oF P) .nil .nil) .nil)) (.node (o242 P) (.node (o370 P) (.node (oE P) .nil .nil) (.node (o882 P) .nil .nil)) (.node (oE P) (.node (oF P) .nil .nil) .nil))))) (.node (o26 P) (.node (o42 P) (.node (oE P) (.node (o138 P) (.node (oE P) (.node (o522 P) .nil .nil) (.node (o778 P) .nil .nil)) (.node (oF P) (.node (oE P) .nil .nil) (.node (o906 P) .nil .nil))) (.node (o202 P) (.node (oE P) (.node (o586 P) .nil .nil) (.node (o842 P) .nil .nil)) (.node (o458 P) (.node (o714 P) .nil .nil) .nil))) (.node (o106 P) (.node (o170 P) (.node (o298 P) (.node (oE P) .nil .nil) (.node (oF P) .nil .nil)) (.node (o426 P) (.node (oE P) .nil .nil) .nil)) (.node (oE P) (.node (o362 P) (.node (oF P) .nil .nil) (.node (oF P) .nil .nil)) (.node (o490 P) (.node (oE P) .nil .nil) .nil)))) (.node (oF P) (.node (o90 P) (.node (oF P) (.node (o282 P) (.node (o538 P) .nil .nil) (.node (o794 P) .nil .nil)) (.node (oE P) (.node (o666 P) .nil .nil) .nil)) (.node (oF P) (.node (o346 P) (.node (o602 P) .nil .nil) (.node (o858 P) .nil .nil)) (.node (o474 P) (.node (o730 P) .nil .nil) .nil))) (.node (o122 P) (.node (o186 P) (.node (o314 P) (.node (o570 P) .nil .nil) (.node (oE P) .nil .nil)) (.node (o442 P) (.node (o698 P) .nil .nil) .nil)) (.node (o250 P) (.node (o378 P) (.node (oF P) .nil .nil) (.node (oE P) .nil .nil)) (.node (oF P) (.node (o762 P) .nil .nil) .nil)))))) (.node (o14 P) (.node (oE P) (.node (o38 P) (.node (o70 P) (.node (o134 P) (.node (oE P) (.node (o518 P) .nil .nil) (.node (oE P) .nil .nil)) (.node (o390 P) (.node (o646 P) .nil .nil) (.node (o902 P) .nil .nil))) (.node (o198 P) (.node (oE P) (.node (o582 P) .nil .nil) (.node (oE P) .nil .nil)) (.node (o454 P) (.node (o710 P) .nil .nil) .nil))) (.node (o102 P) (.node (o166 P) (.node (oE P) (.node (oE P) .nil .nil) (.node (o806 P) .nil .nil)) (.node (oF P) (.node (o678 P) .nil .nil) .nil)) (.node (o230 P) (.node (o358 P) (.node (o614 P) .nil .nil) (.node (o870 P) .nil .nil)) (.node (o486 P) (.node (oE P) .nil .nil) .nil)))) (.node (o54 P) (.node (oF P) (.node (o150 P) (.node (o278 P) (.node (oF P) .nil .nil) (.node (o790 P) .nil .nil)) (.node (o406 P) (.node (oF P) .nil .nil) .nil)) (.node (o214 P) (.node (o342 P) (.node (o598 P) .nil .nil) (.node (o854 P) .nil .nil)) (.node (oE P) (.node (o726 P) .nil .nil) .nil))) (.node (oE P) (.node (oE P) (.node (o310 P) (.node (o566 P) .nil .nil) (.node (o822 P) .nil .nil)) (.node (oE P) (.node (o694 P) .nil .nil) .nil)) (.node (oF P) (.node (o374 P) (.node (o630 P) .nil .nil) (.node (o886 P) .nil .nil)) (.node (o502 P) (.node (o758 P) .nil .nil) .nil))))) (.node (oF P) (.node (oE P) (.node (oE P) (.node (oE P) (.node (o270 P) (.node (oE P) .nil .nil) (.node (oF P) .nil .nil)) (.node (o398 P) (.node (oE P) .nil .nil) (.node (o910 P) .nil .nil))) (.node (oE P) (.node (o334 P) (.node (oF P) .nil .nil) (.node (oF P) .nil .nil)) (.node (o462 P) (.node (o718 P) .nil .nil) .nil))) (.node (o110 P) (.node (oE P) (.node (o302 P) (.node (o558 P) .nil .nil) (.node (o814 P) .nil .nil)) (.node (o430 P) (.node (o686 P) .nil .nil) .nil)) (.node (oE P) (.node (o366 P) (.node (o622 P) .nil .nil) (.node (o878 P) .nil .nil)) (.node (oE P) (.node (o750 P) .nil .nil) .nil)))) (.node (o62 P) (.node (o94 P) (.node (o158 P) (.node (o286 P) (.node (o542 P) .nil .nil) (.node (oE P) .nil .nil)) (.node (oE P) (.node (o670 P) .nil .nil) .nil)) (.node (o222 P) (.node (o350 P) (.node (oF P) .nil .nil) (.node (oE P) .nil .nil)) (.node (oF P) (.node (oE P) .nil .nil) .nil))) (.node (oF P) (.node (oF P) (.node (oE P) (.node (o574 P) .nil .nil) (.node (o830 P) .nil .nil)) (.node (o446 P) (.node (o702 P) .nil .nil) .nil)) (.node (o254 P) (.node (oE P) (.node (o638 P) .nil .nil) (.node (oE P) .nil .nil)) (.node (o510 P) (.node (o766 P) .nil .nil) .nil)))))))))
noncomputable abbrev bl0 : List Stmt := behindTheImports pw
noncomputable abbrev bl1 : List Stmt := bl0.drop 19
noncomputable abbrev bl2 : List Stmt := bl1.drop 11
noncomputable abbrev bl3 : List Stmt := bl2.drop 7
theorem r_m0 (w : World) (os : OsState) : segRunT treeTable pw w 11 ann0 1 2093 (SbT w os) (piecesOf (bl0.take 19) env0 cE q0 [topFrame q0]) = some (.next, ⟨T1 w.params, 365, {}, ⟨[]⟩, {}, 685, os⟩, cE, ⟨232, 0, 262, 23⟩) := by
  rw [PySem.W.Fast.te10110043849684766642, PySem.W.Fast.te14364793385576792824]; kernel_rfl
theorem r_m1 (w : World) (os : OsState) : segRunT treeTable pw w 11 ann0 1 2089 (⟨T1 w.params, 365, {}, ⟨[]⟩, {}, 685, os⟩) (piecesOf (bl1.take 11) env0 cE ⟨232, 0, 262, 23⟩ [topFrame q0]) = some (.next, ⟨T2 w.params, 626, {}, ⟨[]⟩, {}, 1038, os⟩, cE, ⟨411, 0, 412, 8⟩) := by
  rw [PySem.W.Fast.te10110043849684766642, PySem.W.Fast.te14364793385576792824]; kernel_rfl
theorem r_m2 (w : World) (os : OsState) : segRunT treeTable pw w 11 ann0 1 1798 (⟨T2 w.params, 626, {}, ⟨[]⟩, {}, 1038, os⟩) (piecesOf (bl2.take 7) env0 cE ⟨411, 0, 412, 8⟩ [topFrame q0]) = some (.next, ⟨T3 w.params, 915, {}, ⟨[]⟩, {}, 1411, os⟩, cE, ⟨599, 0, 600, 41⟩) := by
  rw [PySem.W.Fast.te10110043849684766642, PySem.W.Fast.te14364793385576792824]; kernel_rfl
theorem r_m3 (w : World) (os : OsState) : segRunT treeTable pw w 11 ann0 1 1978 (⟨T3 w.params, 915, {}, ⟨[]⟩, {}, 1411, os⟩) (piecesOf bl3 env0 cE ⟨599, 0, 600, 41⟩ [topFrame q0]) = some (.next, SfT w os, cE, qz) := by
  rw [PySem.W.Fast.te10110043849684766642, PySem.W.Fast.te14364793385576792824]; kernel_rfl
theorem r_main (w : World) (os : OsState) : topRun treeTable pw w 11 ann0 7960 (SbT w os).abs (restOf bl0 env0 cE q0 [topFrame q0]) = some ⟨H w.params, ⟨[]⟩, {}, 1866, os⟩ := by
  have z3 := piece_app (rest := []) (n := 1978) (N := 2) (segRun_of (r_m3 w os)) (piece_nil (env := env0) (r_fin w os))
  rw [List.append_nil] at z3
  have z2 := piece_app (rest := bl3) (n := 1798) (N := 1980) (segRun_of (r_m2 w os)) z3
  rw [List.take_append_drop] at z2
  have z1 := piece_app (rest := bl2) (n := 2089) (N := 3778) (segRun_of (r_m1 w os)) z2
  rw [List.take_append_drop] at z1
  have z0 := piece_app (rest := bl1) (n := 2093) (N := 5867) (segRun_of (r_m0 w os)) z1
  rw [List.take_append_drop] at z0
  exact z0
end
section
open PySem PySem.W PyProof.Rows
noncomputable def qv : Program := { pw with main := { pw.main with body := [st 70] } }
noncomputable def loose : List Str := [s "_wall", s "plus", s "distance", s "is_before", s "is_at_most", s "is_within", s "latest", s "is_acceptable", s "is_let_in", s "Assembly", s "Receiver", s "EVERY", s "AckPolicy", s "Congestion", s "MOST_SHIFT", s "RetransmitClock", s "RttEstimate", s "StackError", s "SizeError", s "StateError", s "SendQueue", s "PeerWindow", s "Sender", s "put16", s "FIN", s "SYN", s "ACK", s "OPTION_MSS", s "MSS_SIZE", s "Segment", s "check_number", s "mss_option", s "CLOSED", s "Wheel", s "DELAYED", s "MOST_WINDOW", s "Limits", s "clock_of", s "Tcb", s "ack_segment", s "_law_pool", s "_law_take", s "_law_one", s "_law_made", s "_law_window", s "_law_come", s "_law_read", s "_law_acked_right", s "_law_sent", s "_law_back", s "_law_let_right", s "_law_told_first"]
noncomputable def XT (st : Shared) : Bool := xlAt qv [] st && recOk (RowW.records PySem.Challenge.rw_pq1200_01.row.toRowW) st
noncomputable abbrev Sf (w : World) (os : OsState) : Shared := ⟨H w.params, ⟨[]⟩, {}, 1866, os⟩
theorem k1a (w : World) : staticsOk (importedModules pw.main.body) (boot_heap w.params) (H w.params) = true := by kernel_rfl
theorem k1b (w : World) : namesBound pw (H w.params) = true := by kernel_rfl
theorem k1c (w : World) (os : OsState) : gensDone (Sf w os) = true := by kernel_rfl
theorem k1d (w : World) : laidKept (boot_heap w.params) (H w.params) = true := by kernel_rfl
theorem k2 (w : World) (os : OsState) : openSeen qv loose (importedModules pw.main.body) XT true (Sf w os) = openGood qv loose := by
  rw [PySem.W.Fast.te4187177175401517315]; kernel_rfl
/-- the entries of l at the growing places ks, read in one pass -/
noncomputable def pick {α : Type} : List α → Nat → List Nat → List (Option α)
  | [], _, ks => ks.map fun _ => none
  | x :: l, i, ks => match ks with
    | [] => []
    | k :: r => cond (Nat.beq k i) (some x :: pick l (i + 1) r) (pick l (i + 1) (k :: r))
noncomputable def grow : Nat → List Nat → Bool
  | _, [] => true
  | i, k :: r => Nat.ble i k && grow (k + 1) r
theorem grow_le {k : Nat} (r : List Nat) : ∀ {i : Nat}, grow i r = true → k ∈ r → i ≤ k := by
  induction r with
  | nil => exact fun _ hm => nomatch hm
  | cons j r ih =>
    intro i h hm
    have h' := Bool.and_eq_true_iff.mp (show (Nat.ble i j && grow (j + 1) r) = true from h)
    cases hm with
    | head => exact Nat.le_of_ble_eq_true h'.1
    | tail _ hm => exact Nat.le_trans (Nat.le_of_ble_eq_true h'.1) (Nat.le_of_lt (ih h'.2 hm))
theorem pick_eq {α : Type} (l : List α) : ∀ (i : Nat) (ks : List Nat), grow i ks = true → ks.map (fun k => l[k - i]?) = pick l i ks := by
  induction l with
  | nil => exact fun _ _ _ => rfl
  | cons x l ih =>
    intro i ks h
    have step : ∀ ks : List Nat, grow (i + 1) ks = true → ks.map (fun k => (x :: l)[k - i]?) = pick l (i + 1) ks := fun ks hk =>
      (List.map_congr_left fun k hm => by rw [← show k - (i + 1) + 1 = k - i from Nat.succ_pred_eq_of_ne_zero (Nat.sub_ne_zero_of_lt (grow_le ks hk hm))]; rfl).trans (ih (i + 1) ks hk)
    cases ks with
    | nil => rfl
    | cons k r =>
      have h' := Bool.and_eq_true_iff.mp (show (Nat.ble i k && grow (k + 1) r) = true from h)
      show _ = cond (Nat.beq k i) (some x :: pick l (i + 1) r) (pick l (i + 1) (k :: r))
      cases hb : Nat.beq k i with
      | true =>
        obtain rfl : k = i := Nat.eq_of_beq_eq_true hb
        show (x :: l)[k - k]? :: _ = some x :: _
        rw [Nat.sub_self, step r h'.2]
        rfl
      | false =>
        exact step (k :: r) (Bool.and_eq_true_iff.mpr ⟨Nat.ble_eq_true_of_le (Nat.lt_of_le_of_ne (Nat.le_of_ble_eq_true h'.1) fun e => Bool.noConfusion ((e ▸ Nat.beq_refl k : Nat.beq k i = true).symm.trans hb)), h'.2⟩)
noncomputable def held : Option Obj → Option Obj
  | some ⟨_, _, .freed, _⟩ => none
  | o => o
theorem gets_eq (l : List Obj) (f : Life) (ks : List Nat) (hk : grow 0 ks = true) : ks.map (Heap.mk ⟨l⟩ f).get? = (pick l 0 ks).map held := by
  rw [← pick_eq l 0 ks hk, List.map_map]
  exact List.map_congr_left fun a _ => congrArg held (List.getElem?_toArray (xs := l) (i := a))
theorem k3 (w : World) : Ks.map (H w.params).get? = (K w.params).map (fun p => some p.2) := (gets_eq (H w.params).objs.toList (H w.params).life Ks (by kernel_rfl)).trans (by kernel_rfl)
theorem hKs (P : Params) : Ks = (K P).map (·.1) := by kernel_rfl
end
section
open PySem PySem.W PyProof.Rows
theorem r_all (w : World) (os : OsState) : topRun treeTable pw w 11 ann0 7973 ⟨boot_heap w.params, ⟨[]⟩, boot_drawn, boot_toks, os⟩ (topStub pw) = some (Sf w os) :=
  go_top (n := 12) (N := 1 + 7960) (r_pre w os) (piece_block (n := 1) (N := 7960) (r_block w os) (r_main w os))
theorem looks_all (w : World) : (fun os => ((staticsOk (importedModules pw.main.body) (boot_heap w.params) (H w.params) && namesBound pw (H w.params) && gensDone ⟨H w.params, ⟨[]⟩, {}, 1866, os⟩ && laidKept (boot_heap w.params) (H w.params)),
    openSeen qv loose (importedModules pw.main.body) XT true ⟨H w.params, ⟨[]⟩, {}, 1866, os⟩, (kHook K Ks hKs).obs ⟨H w.params, ⟨[]⟩, {}, 1866, os⟩)) = fun _ => (true, openGood qv loose, (kHook K Ks hKs).val w) := by
  funext os
  refine Prod.ext ?_ (Prod.ext (k2 w os) (k3 w))
  show (_ && _ && _ && _) = true
  rw [k1a w, k1b w, k1d w]
  have := k1c w os
  simp only [Bool.true_and, Bool.and_true]
  exact this
theorem left : LeftO pw qv loose XT (kHook K Ks hKs).obs (kHook K Ks hKs).val 16034 :=
  LeftO.of_pieces (p := pw) (q := qv) (loose := loose) (Xt := XT) (N := 16034) (g0 := true) (H₀ := boot_heap) (H₁ := H) (gs₀ := ⟨[]⟩) (gs₁ := ⟨[]⟩) (d₀ := boot_drawn) (d₁ := {}) (k₀ := boot_toks) (k₁ := 1866) (m₀ := 11) (ann := ann0) (M := 7973)
    r_open r_size r_all (by kernel_rfl) looks_all
noncomputable def dLaw : DefRec := ⟨s "law", fP (st 70), fB (st 70), fS (st 70), ⟨817, 0, 838, 38⟩⟩
theorem both {a b : Bool} (h : a = true) (k : b = true) : (a && b) = true := by rw [h, k]; rfl
noncomputable abbrev lL : OpenLaw := PySem.Challenge.rw_pq1200_01
theorem s_names : namesResolve pw = true := by
  rw [PySem.W.Fast.te8377067652309620493]; kernel_rfl
theorem s_bare : (["vars", "dir", "locals"] : List Str).filter (readsOut pw pw.main.body) = [] := by
  rw [PySem.W.Fast.te13343964577679436407]; kernel_rfl
theorem s_cth : (!(importedModules pw.main.body).all cThrough.contains) = false := by kernel_rfl
theorem s_road0 : noRoadLSs { strict := false, foot := none, bare := [] } pw.main.body = true := by
  rw [PySem.W.Fast.te8326940854005059898]; kernel_rfl
theorem s_road : noRoadLSs { strict := !(importedModules pw.main.body).all cThrough.contains, foot := none, bare := (["vars", "dir", "locals"] : List Str).filter (readsOut pw pw.main.body) } pw.main.body = true := by
  rw [s_bare, s_cth]; exact s_road0
theorem s_meet : (namesMeet pw pw.main.body fun _ n => attrL n) = true := by
  rw [PySem.W.Fast.te17119622794617984870]; kernel_rfl
theorem s_open : looksOpen pw = true := both (both (both (both (both (by kernel_rfl) (by kernel_rfl)) s_names) (by kernel_rfl)) s_road) s_meet
theorem s_row : lL.row.wellSaid = true :=
  both (both (both (both (both (both (both (both (both (both (both (both (both (both (both s_open (by kernel_rfl)) (by kernel_rfl)) (by kernel_rfl)) (by kernel_rfl)) (by kernel_rfl)) (by kernel_rfl)) (by kernel_rfl)) (by kernel_rfl)) (by kernel_rfl)) (by kernel_rfl)) (by kernel_rfl)) (by kernel_rfl)) (by kernel_rfl)) (by kernel_rfl)) (by kernel_rfl)
theorem s_foot : noRoadLSs { strict := true, foot := some lL.bound', writes := lL.writes, may := lL.may } lL.footing = true := by kernel_rfl
theorem s_bound : lL.bound'.all (fun n => !builtinNamed n || lL.about == [n] || !lL.reads n) = true := by kernel_rfl
theorem s_above : (namesMeet lL.prog lL.above (fun _ n => !lL.own.contains n)) = true := by
  rw [PySem.W.Fast.te17119622794617984870]; kernel_rfl
theorem said : PySem.Challenge.rw_pq1200_01.wellSaid = true :=
  both (both (both (both (both (both (both (both (both (both (both (both (both (both (both (both (both (both s_row (by kernel_rfl)) (by kernel_rfl)) (by kernel_rfl)) (by kernel_rfl)) (by kernel_rfl)) s_foot) (by kernel_rfl)) (by kernel_rfl)) (by kernel_rfl)) s_bound) (by kernel_rfl)) (by kernel_rfl)) (by kernel_rfl)) (by kernel_rfl)) (by kernel_rfl)) (by kernel_rfl)) s_above) (by kernel_rfl)
theorem s_told : TablesWhole.wSs TablesWhole.gather pw.main.scope ⟨pw.main.scope, [], [], [], none⟩ pw.main.scope pw.main.body = [] := by kernel_rfl
theorem s_tabs : TablesWhole.wSs TablesWhole.holds pw.main.scope ⟨pw.main.scope, [], [], [], none⟩ pw.main.scope pw.main.body = true := by kernel_rfl
theorem tab_of (m : Module) (t : List Str) (h0 : TablesWhole.wSs TablesWhole.gather m.scope ⟨m.scope, [], [], [], none⟩ m.scope m.body = t) (h1 : TablesWhole.noTwice m.scope = true)
    (h2 : TablesWhole.wSs TablesWhole.holds m.scope ⟨m.scope, [], t, [], none⟩ m.scope m.body = true) : TablesWhole.wModule TablesWhole.holds m = true := by
  subst h0
  exact both h1 (both h2 rfl)
theorem whole_of (p : Program) (h : TablesWhole.wModule TablesWhole.holds p.main = true) (h1 : p.modules = []) (h2 : p.parses = []) (h3 : p.harvested = []) : p.tablesWhole = true := by
  refine both h ?_
  rw [h1, h2, h3]
  rfl
theorem s_whole : pw.tablesWhole = true := whole_of pw (tab_of pw.main [] s_told (by kernel_rfl) s_tabs) rfl rfl rfl
theorem hd (call : WalkOX qv loose (XL qv []) (kHook K Ks hKs).says PySem.Challenge.rw_pq1200_01.row.toRowW dLaw []) : PySem.Challenge.rw_pq1200_01.Holds :=
  holds_law said fun k1 =>
    holdsX_open (r := PySem.Challenge.rw_pq1200_01.row) (q := qv) (loose := loose) (Xt := XT) (XP := XL qv []) (Yf := (kHook K Ks hKs).obs) (Ya := (kHook K Ks hKs).val) (YP := (kHook K Ks hKs).says) (d := dLaw) (kwd := []) (N := 16034)
      left (kHook K Ks hKs).of (kHook K Ks hKs).keeps (fun s e => xl_of s (Bool.and_eq_true_iff.mp e).1) XL.keeps (by kernel_rfl) (by kernel_rfl) (by kernel_rfl) (fun s e => recFacts_of (Bool.and_eq_true_iff.mp e).2) (by kernel_rfl)
      k1 (by kernel_rfl) ⟨rfl, rfl, rfl, rfl, rfl, s_whole⟩ ⟨[.list []], by decide +kernel, by decide +kernel⟩ call
end
example : True := by
  k_with "s k_ne" => first | assumption | (refine' NeIn.ne ?mx ?my; (case my => assumption); (case mx => k_extra "s nein")) | (refine gtN ?_; k_extra "s cj") | (refine ltN' ?_; k_extra "s cj") | (refine neN ?_; (try dsimp only); omega)
  k_with "s k_upd" => (refine' PutA.upd ?mx ?my; (case mx => k_extra "s put"); (case my => assumption))
  k_with "s k_updF" => (refine' PutF.upd ?mx ?my; (case mx => k_extra "s putf"); (case my => assumption))
  k_with "s ktr_room" => first | (refine' rm1 ?mh ?me; (case mh => assumption); (case me => exact rfl)) | (refine' rm2 ?mh ?me; (case mh => assumption); (case me => exact rfl)) | (refine' rm3 ?mh ?me; (case mh => assumption); (case me => exact rfl))
  k_with "s ktr_units" => first | (refine' rm1 ?mh ?me; (case mh => assumption); (case me => exact rfl)) | (refine' rm2 ?mh ?me; (case mh => assumption); (case me => exact rfl)) | (refine' rm3 ?mh ?me; (case mh => assumption); (case me => exact rfl))
  trivial
example : True := by
  k_with "execs" => first | ((plain_pass; (conv in (execs _ _) => arg 1; whnf))) | fail "-"
  trivial
/-- what a pure call hands back -/
noncomputable abbrev Ret (h₀ : Heap) (L : Addr) (m : Str → Option Value) (news : List (Addr × Obj)) (s : Shared) (Q : Value → Shared → Prop) (R : Tok → Value) : Prop :=
  ∀ (t : Tok) (h' : Heap) (tk' : Nat), Fr h₀ L h' m → News h₀ L h' news → Q (R t) { s with heap := h', toks := tk' }
/-- a claim on a call of the text's function f -/
noncomputable abbrev Cl (hgt : Nat) (w : World) (f : Addr) (news : List (Addr × Obj)) (vs : List Value) (P : (Heap → Addr → (Str → Option Value) → Shared → (Value → Shared → Prop) → Prop)) : Prop :=
  ∀ (dp un : Nat) (gd : Option (List Code)) (cn : Str) (cs : Scope) (a : Addr) (ccd : Value) (cl : List (Str × Addr)) (outer : List Env) (A₀ : Around) (base h₀ : Heap) (L : Addr) (m : Str → Option Value) (s : Shared) (mg mb : Str → Option Value) (mean : ExcName → Option Value) (Q E : Value → Shared → Prop),
    Below A₀ base outer h₀ → Fr h₀ L s.heap m → (K w.params).In h₀ → News h₀ L s.heap news → Top qv loose mean mg mb h₀ → cs.kind = .function →
    dp + hgt < recursionLimit → un + 10 * hgt < cLine → P h₀ L m s Q →
      wpAny (model pw w) (ktrTop dp un gd cn cs L a ccd cl outer) (call (.ref f) vs) Q E s
noncomputable abbrev dummyT : Prop := (PySem.Challenge.rw_pq1200_01.name, K) = (PySem.Challenge.rw_pq1200_01.name, K)
example : True := by
  k_with "s fill" => first | (((have dummy : dummyT := rfl); revert dummy; dsimp only [dummyT]; k_fill; intro dummy; clear dummy)) | fail "-"
  k_with "s prem" => first | (((case k1 => k_asm); (case k2 => k_asm); (case k3 => k_asm); (case k4 => k_asm); (case k5 => k_asm); (case k6 => first | exact rfl | assumption); (case k7 => ktr_room); (case k8 => ktr_units))) | fail "-"
  k_with "s start" => first | ((refine wpAny_call ?_; cell_enter; k_steps)) | fail "-"
  trivial
noncomputable def isB (a b r : Int) : Bool := decide (0 < Int.fmod (b - a) r) && decide (2 * Int.fmod (b - a) r < r)
noncomputable def isAM (a b r : Int) : Bool := decide (a = b) || isB a b r
noncomputable def isW (x low size r : Int) : Bool := decide (Int.fmod (x - low) r < size)
noncomputable def lateI (a b r : Int) : Int := if isB a b r = true then b else a
noncomputable def isAcc (sq len ex win r : Int) : Bool := if len = 0 ∧ win = 0 then decide (sq = ex) else if len = 0 then isW sq ex win r else if win = 0 then false else isW sq ex win r || isW ex sq len r
example : True := by
  k_with "s nz" => first | (first | assumption | decide | omega) | fail "-"
  trivial
set_option maxHeartbeats 4000000 in
theorem plus_s {w : World} {news : List (Addr × Obj)} {a b r : Int} {t0 t1 t2 : Tok} (hr : r ≠ 0) : Cl 3 w 28 news [.int a t0, .int b t1, .int r t2] fun h₀ L m s Q => Ret h₀ L m news s Q (.int (Int.fmod (a + b) r)) := by
  k_extra "s fill"
  intro dp un gd cn cs a0 ccd cl outer A₀ base h₀ L m s mg mb mean Q E B F X N T hke hd hu hret
  dsimp only [Ret] at hret
  k_extra "s start"
  all_goals (skip)
  all_goals cb_end hret
example : True := by
  k_with "call ref" => first | ((k_here; (with_reducible show wpAny _ _ (call (Value.ref 28) _) _ _ _); k_dflt (refine' plus_s ?kr _ _ _ _ _ _ _ _ _ _ _ _ _ _ _ _ _ _ _ _ ?k1 ?k2 ?k3 ?k4 ?k5 ?k6 ?k7 ?k8 ?_; k_extra "s prem"; (case kr => k_extra "s nz"); k_whole); (try dsimp only [Ret]); intro t9 h9 tk9 F9 N9; (try dsimp only); (try k_fold))) | fail "-"
  trivial
set_option maxHeartbeats 4000000 in
theorem distance_s {w : World} {news : List (Addr × Obj)} {a b r : Int} {t0 t1 t2 : Tok} (hr : r ≠ 0) : Cl 3 w 35 news [.int a t0, .int b t1, .int r t2] fun h₀ L m s Q => Ret h₀ L m news s Q (.int (Int.fmod (b - a) r)) := by
  k_extra "s fill"
  intro dp un gd cn cs a0 ccd cl outer A₀ base h₀ L m s mg mb mean Q E B F X N T hke hd hu hret
  dsimp only [Ret] at hret
  k_extra "s start"
  all_goals (skip)
  all_goals cb_end hret
example : True := by
  k_with "call ref" => first | ((k_here; (with_reducible show wpAny _ _ (call (Value.ref 35) _) _ _ _); k_dflt (refine' distance_s ?kr _ _ _ _ _ _ _ _ _ _ _ _ _ _ _ _ _ _ _ _ ?k1 ?k2 ?k3 ?k4 ?k5 ?k6 ?k7 ?k8 ?_; k_extra "s prem"; (case kr => k_extra "s nz"); k_whole); (try dsimp only [Ret]); intro t9 h9 tk9 F9 N9; (try dsimp only); (try k_fold))) | fail "-"
  trivial
set_option maxHeartbeats 4000000 in
theorem is_before_s {w : World} {news : List (Addr × Obj)} {a b r : Int} {t0 t1 t2 : Tok} (hr : r ≠ 0) : Cl 6 w 42 news [.int a t0, .int b t1, .int r t2] fun h₀ L m s Q => Ret h₀ L m news s Q (fun _ => .bool (isB a b r)) := by
  k_extra "s fill"
  intro dp un gd cn cs a0 ccd cl outer A₀ base h₀ L m s mg mb mean Q E B F X N T hke hd hu hret
  dsimp only [Ret] at hret
  k_extra "s start"
  all_goals (k_with "tree" => simp only [isB])
  all_goals cb_end hret
example : True := by
  k_with "call ref" => first | ((k_here; (with_reducible show wpAny _ _ (call (Value.ref 42) _) _ _ _); k_dflt (refine' is_before_s ?kr _ _ _ _ _ _ _ _ _ _ _ _ _ _ _ _ _ _ _ _ ?k1 ?k2 ?k3 ?k4 ?k5 ?k6 ?k7 ?k8 ?_; k_extra "s prem"; (case kr => k_extra "s nz"); k_whole); (try dsimp only [Ret]); intro t9 h9 tk9 F9 N9; (try dsimp only); (try k_fold))) | fail "-"
  trivial
set_option maxHeartbeats 4000000 in
theorem is_at_most_s {w : World} {news : List (Addr × Obj)} {a b r : Int} {t0 t1 t2 : Tok} (hr : r ≠ 0) : Cl 9 w 49 news [.int a t0, .int b t1, .int r t2] fun h₀ L m s Q => Ret h₀ L m news s Q (fun _ => .bool (isAM a b r)) := by
  k_extra "s fill"
  intro dp un gd cn cs a0 ccd cl outer A₀ base h₀ L m s mg mb mean Q E B F X N T hke hd hu hret
  dsimp only [Ret] at hret
  k_extra "s start"
  all_goals (k_with "tree" => simp only [isAM])
  all_goals cb_end hret
example : True := by
  k_with "call ref" => first | ((k_here; (with_reducible show wpAny _ _ (call (Value.ref 49) _) _ _ _); k_dflt (refine' is_at_most_s ?kr _ _ _ _ _ _ _ _ _ _ _ _ _ _ _ _ _ _ _ _ ?k1 ?k2 ?k3 ?k4 ?k5 ?k6 ?k7 ?k8 ?_; k_extra "s prem"; (case kr => k_extra "s nz"); k_whole); (try dsimp only [Ret]); intro t9 h9 tk9 F9 N9; (try dsimp only); (try k_fold))) | fail "-"
  trivial
set_option maxHeartbeats 4000000 in
theorem is_within_s {w : World} {news : List (Addr × Obj)} {a b c r : Int} {t0 t1 t2 t3 : Tok} (hr : r ≠ 0) : Cl 6 w 56 news [.int a t0, .int b t1, .int c t2, .int r t3] fun h₀ L m s Q => Ret h₀ L m news s Q (fun _ => .bool (isW a b c r)) := by
  k_extra "s fill"
  intro dp un gd cn cs a0 ccd cl outer A₀ base h₀ L m s mg mb mean Q E B F X N T hke hd hu hret
  dsimp only [Ret] at hret
  k_extra "s start"
  all_goals (k_with "tree" => simp only [isW])
  all_goals cb_end hret
example : True := by
  k_with "call ref" => first | ((k_here; (with_reducible show wpAny _ _ (call (Value.ref 56) _) _ _ _); k_dflt (refine' is_within_s ?kr _ _ _ _ _ _ _ _ _ _ _ _ _ _ _ _ _ _ _ _ ?k1 ?k2 ?k3 ?k4 ?k5 ?k6 ?k7 ?k8 ?_; k_extra "s prem"; (case kr => k_extra "s nz"); k_whole); (try dsimp only [Ret]); intro t9 h9 tk9 F9 N9; (try dsimp only); (try k_fold))) | fail "-"
  trivial
set_option maxHeartbeats 4000000 in
theorem latest_s {w : World} {news : List (Addr × Obj)} {a b r : Int} {t0 t1 t2 : Tok} (hr : r ≠ 0) : Cl 9 w 63 news [.int a t0, .int b t1, .int r t2] fun h₀ L m s Q => Ret h₀ L m news s Q (fun t => .int (lateI a b r) t) := by
  k_extra "s fill"
  intro dp un gd cn cs a0 ccd cl outer A₀ base h₀ L m s mg mb mean Q E B F X N T hke hd hu hret
  dsimp only [Ret] at hret
  k_extra "s start"
  all_goals (k_with "tree" => simp only [lateI])
  all_goals cb_end hret
example : True := by
  k_with "call ref" => first | ((k_here; (with_reducible show wpAny _ _ (call (Value.ref 63) _) _ _ _); k_dflt (refine' latest_s ?kr _ _ _ _ _ _ _ _ _ _ _ _ _ _ _ _ _ _ _ _ ?k1 ?k2 ?k3 ?k4 ?k5 ?k6 ?k7 ?k8 ?_; k_extra "s prem"; (case kr => k_extra "s nz"); k_whole); (try dsimp only [Ret]); intro t9 h9 tk9 F9 N9; (try dsimp only); (try k_fold))) | fail "-"
  trivial
set_option maxHeartbeats 4000000 in
theorem is_acc_s {w : World} {news : List (Addr × Obj)} {a b c d r : Int} {t0 t1 t2 t3 t4 : Tok} (hr : r ≠ 0) : Cl 9 w 70 news [.int a t0, .int b t1, .int c t2, .int d t3, .int r t4] fun h₀ L m s Q => Ret h₀ L m news s Q (fun _ => .bool (isAcc a b c d r)) := by
  k_extra "s fill"
  intro dp un gd cn cs a0 ccd cl outer A₀ base h₀ L m s mg mb mean Q E B F X N T hke hd hu hret
  dsimp only [Ret] at hret
  k_extra "s start"
  all_goals (k_with "tree" => simp only [isAcc])
  all_goals cb_end hret
example : True := by
  k_with "call ref" => first | ((k_here; (with_reducible show wpAny _ _ (call (Value.ref 70) _) _ _ _); k_dflt (refine' is_acc_s ?kr _ _ _ _ _ _ _ _ _ _ _ _ _ _ _ _ _ _ _ _ ?k1 ?k2 ?k3 ?k4 ?k5 ?k6 ?k7 ?k8 ?_; k_extra "s prem"; (case kr => k_extra "s nz"); k_whole); (try dsimp only [Ret]); intro t9 h9 tk9 F9 N9; (try dsimp only); (try k_fold))) | fail "-"
  trivial
section
open PySem PySem.W PySem.Calls PySem.Spec PyProof.Rows
noncomputable abbrev Led := List (Addr × Obj)
noncomputable abbrev Nd (l : Led) : Prop := (l.map (·.1)).Nodup
/-- where a walked def ends: its frame, what it has in hand, what it says of that -/
noncomputable def EndM (g : Heap) (P : Value → Led → Prop) (s : Shared) (v : Value) (s' : Shared) : Prop :=
  ∃ L' m' news' h' tk', s' = { s with heap := h', toks := tk' } ∧ Fr g L' h' m' ∧ News g L' h' news' ∧ Nd news' ∧ P v news'
theorem endM {g : Heap} {P : Value → Led → Prop} {s : Shared} {v : Value} {L' : Addr} {m' : Str → Option Value} {l news' : Led} {h' : Heap} {tk' : Nat} (F : Fr g L' h' m') (N : News g L' h' l) (hs : ∀ p ∈ news', p ∈ l) (nd : Nd news') (hp : P v news') :
    EndM g P s v { s with heap := h', toks := tk' } := ⟨L', m', news', h', tk', rfl, F, fun p hp => N p (hs p hp), nd, hp⟩

noncomputable abbrev BackM (h₀ : Heap) (L : Addr) (m : Str → Option Value) (rest : Led) (s : Shared) (P : Value → Led → Prop) (Q : Value → Shared → Prop) : Prop :=
  ∀ v news' h' tk', Fr h₀ L h' m → News h₀ L h' (news' ++ rest) → Nd (news' ++ rest) → P v news' → Q v { s with heap := h', toks := tk' }

/-- it hands back a value, of which Q holds -/
noncomputable def Got (Q : Value → Shared → Prop) (r : Result) (s : Shared) : Prop := ∃ v, r = .ok (.ret v) ∧ Q v s
noncomputable def NeAll (a : Nat) : Led → Prop
  | [] => True
  | p :: r => @Ne Nat a p.1 ∧ NeAll a r
noncomputable def NdAll : Led → Prop
  | [] => True
  | p :: r => NeAll p.1 r ∧ NdAll r
theorem neAll_of {a : Addr} : ∀ {l : Led}, a ∉ l.map (·.1) → NeAll a l
  | [], _ => trivial
  | _ :: _, h => ⟨fun e => h (List.mem_cons.mpr (.inl e)), neAll_of fun q => h (List.mem_cons_of_mem _ q)⟩
theorem ndAll_of : ∀ {l : Led}, Nd l → NdAll l
  | [], _ => trivial
  | _ :: _, h => ⟨neAll_of (List.nodup_cons.mp h).1, ndAll_of (List.nodup_cons.mp h).2⟩
theorem nd_nil : Nd [] := List.nodup_nil
theorem nd_cons {p : Addr × Obj} {l : Led} (h : ∀ q ∈ l, p.1 ≠ q.1) (hn : Nd l) : Nd (p :: l) := List.nodup_cons.mpr ⟨fun hm => by
  obtain ⟨q, hq, e⟩ := List.mem_map.mp hm
  exact h q hq e.symm, hn⟩
theorem nd_append {a b : Led} (ha : Nd a) (hb : Nd b) (h : ∀ p ∈ a, ∀ q ∈ b, p.1 ≠ q.1) : Nd (a ++ b) := by
  unfold Nd
  rw [List.map_append]
  refine List.nodup_append.mpr ⟨ha, hb, fun x hx y hy => ?_⟩
  obtain ⟨p, hp, rfl⟩ := List.mem_map.mp hx
  obtain ⟨q, hq, rfl⟩ := List.mem_map.mp hy
  exact h p hp q hq
theorem nd_left {a b : Led} (h : Nd (a ++ b)) : Nd a := by
  unfold Nd at h; rw [List.map_append] at h; exact (List.nodup_append.mp h).1
theorem nd_right {a b : Led} (h : Nd (a ++ b)) : Nd b := by
  unfold Nd at h; rw [List.map_append] at h; exact (List.nodup_append.mp h).2.1
theorem nd_dis {a b : Led} (h : Nd (a ++ b)) : ∀ p ∈ b, p.1 ∉ a.map (·.1) := fun p hp hx => by
  unfold Nd at h
  rw [List.map_append] at h
  exact (List.nodup_append.mp h).2.2 _ hx _ (List.mem_map_of_mem hp) rfl

section
variable {prog : Program} {w : World} {A A₀ : Around} {s : Shared} {Kf : Frag} {L : Addr} {h₀ base : Heap} {m : Str → Option Value} {sub rest : Led} {env : Env} {outer : List Env} {Q E : Value → Shared → Prop} {P : Value → Led → Prop}

theorem groundM (B : Below A₀ base outer h₀) (F : Fr h₀ L s.heap m) (N : News h₀ L s.heap (sub ++ rest)) (hnd : Nd (sub ++ rest)) (hA : A.frames = some (env :: outer)) (hf : env.frame = some L) (hke : env.scope.kind = .function) (hret : BackM h₀ L m rest s P Q) :
    Fr h₀ L (hideAll s.heap (sub.map (·.1))) m ∧ Below A base (env :: outer) (hideAll s.heap (sub.map (·.1))) ∧ h₀.StaysIn (hideAll s.heap (sub.map (·.1))) ∧
      ∀ v s', EndM (hideAll s.heap (sub.map (·.1))) P s v s' → Q v s' := by
  have N1 : News h₀ L s.heap sub := fun p hp => N p (List.mem_append_left _ hp)
  have hdis := nd_dis hnd
  obtain ⟨FG, BG, st, _⟩ := groundX (R := fun _ _ => True) B F N1 hA hf hke
  refine ⟨FG, BG, st, fun v s' he => ?_⟩
  obtain ⟨L', m', news', h', tk', rfl, F', N', nd', hp⟩ := he
  obtain ⟨oL, es, ep, hL, hLd, hLk, hLf⟩ := FG.ns
  have inG : ∀ q ∈ rest, (hideAll s.heap (sub.map (·.1))).get? q.1 = some q.2 := fun q hq => hideAll_get _ (N q (List.mem_append_right _ hq)).1 (hdis q hq)
  refine hret v news' h' tk' ⟨⟨oL, es, ep, F'.keep L oL hL, hLd, hLk, hLf⟩, fun b o e => F'.keep b o (st b o e), FG.above⟩ (fun p hp => ?_) (nd_append nd' (nd_right hnd) fun p hp q hq e => ?_) hp
  · rcases List.mem_append.mp hp with hp | hp
    · refine ⟨(N' p hp).1, fun q => ?_, ?_⟩
      · have := (N' p hp).2.2; rw [q, hL] at this; cases this
      · cases q : h₀.get? p.1 with
        | none => rfl
        | some o => have := (N' p hp).2.2; rw [st _ _ q] at this; cases this
    · exact ⟨F'.keep _ _ (inG p hp), (N p (List.mem_append_right _ hp)).2⟩
  · have a := (N' p hp).2.2
    rw [e, inG q hq] at a; cases a

variable {name qual : Str} {params : Arguments} {body : List Stmt} {scope : Scope} {dV kV doc pm cdv ct oc : Value} {an od : Option Addr} {osl : Array (Option Value)} {f : Addr} {args : Args} {binds : List (Str × Value)} {p : Program} {loose : List Str} {mean : ExcName → Option Value} {mg mb : Str → Option Value}

theorem enterM {vs : List Value} {kw : List (Str × Value)} (B : Below A₀ base outer h₀) (F : Fr h₀ L s.heap m) (X₀ : Kf.In h₀) (N : News h₀ L s.heap (sub ++ rest)) (hnd : Nd (sub ++ rest)) (T : Top p loose mean mg mb h₀) (hA : A.frames = some (env :: outer)) (hf : env.frame = some L) (hke : env.scope.kind = .function)
    (ho : Kf.lookup f = some ⟨oc, od, .func (fnOf name qual params body scope dV kV doc pm an cdv ct), osl⟩) (hcd : codeIn Kf cdv qual = true) (hroom : A.depth < recursionLimit)
    (hbind : BindsTo s (fnOf name qual params body scope dV kV doc pm an cdv ct) ⟨vs, kw⟩ binds) (hloc : ∀ y ∈ binds, scope.names.lookup y.1 = some .local) (hret : BackM h₀ L m rest s P Q)
    (h : ∀ g L' h₁, Fr g L' h₁ (fun y => binds.reverse.lookup y) → News g L' h₁ sub → Nd sub → Below A base (env :: outer) g → Kf.In g → Top p loose mean mg mb g →
      wpAny (model prog w) (A.deeper (envOf qual scope L' f cdv)) (execs body (envOf qual scope L' f cdv))
        (fun fl s' => EndM g P s (match fl with | .ret v => v | _ => .none) s') (fun _ _ => False)
        { s with heap := h₁, toks := s.toks + binds.length })
    (hco : scope.isCoroutine = false) (hgen : scope.isGenerator = false) (hk : scope.kind = .function) (hcell : ∀ x ∈ scope.names, x.2 ≠ .cell) : codeAny (model prog w) A (.call (.ref f) ⟨vs, kw⟩) (Got Q) s := by
  obtain ⟨FG, BG, st, lv⟩ := groundM (P := P) (Q := Q) B F N hnd hA hf hke hret
  refine (codeAny_call_def (fd := fnOf name qual params body scope dV kV doc pm an cdv ct) (body := body) (binds := binds) hroom ((X₀.keeps F.keep) _ _ ho) rfl (T.nolimit.keeps F.keep) (codeRec_of (X₀.keeps F.keep) hcd) rfl hbind hcell hloc (fun h₁ hns hk₁ => ?_) hco hgen hk)
  exact wpAny_mono (h _ s.heap.objs.size h₁ ⟨hns, fun b o e => hk₁ b o (of_hideAll _ e), Nat.le_of_eq (hideAll_size _ _)⟩
    (fun p hp => ⟨hk₁ _ _ (N p (List.mem_append_left _ hp)).1, Nat.ne_of_lt (Heap.lt_size (N p (List.mem_append_left _ hp)).1), hideAll_none _ (List.mem_map_of_mem hp)⟩) (nd_left hnd) BG (X₀.keeps st) (T.keeps st)) (fun fl s' hl => ⟨_, rfl, lv _ _ hl⟩) fun _ _ y => y.elim

/-- the same, in the logic without decoders -/
theorem enterMX (B : Below A₀ base outer h₀) (F : Fr h₀ L s.heap m) (X₀ : Kf.In h₀) (N : News h₀ L s.heap (sub ++ rest)) (hnd : Nd (sub ++ rest)) (T : Top p loose mean mg mb h₀) (hA : A.frames = some (env :: outer)) (hf : env.frame = some L) (hke : env.scope.kind = .function)
    (ho : Kf.lookup f = some ⟨oc, od, .func (fnOf name qual params body scope dV kV doc pm an cdv ct), osl⟩) (hcd : codeIn Kf cdv qual = true) (hroom : A.depth < recursionLimit)
    (hbind : BindsTo s (fnOf name qual params body scope dV kV doc pm an cdv ct) args binds) (hloc : ∀ y ∈ binds, scope.names.lookup y.1 = some .local) (hret : BackM h₀ L m rest s P Q)
    (h : ∀ g L' h₁, Fr g L' h₁ (fun y => binds.reverse.lookup y) → News g L' h₁ sub → Nd sub → Below A base (env :: outer) g → Kf.In g → Top p loose mean mg mb g →
      wpX (model prog w) (A.deeper (envOf qual scope L' f cdv)) (execs body (envOf qual scope L' f cdv))
        (fun fl s' => EndM g P s (match fl with | .ret v => v | _ => .none) s')
        { s with heap := h₁, toks := s.toks + binds.length })
    (hco : scope.isCoroutine = false) (hgen : scope.isGenerator = false) (hk : scope.kind = .function) (hcell : ∀ x ∈ scope.names, x.2 ≠ .cell) : codeX (model prog w) A (.call (.ref f) args) (fun r s' => match r with | .ok (.ret v) => Q v s' | _ => False) s := by
  obtain ⟨FG, BG, st, lv⟩ := groundM (P := P) (Q := Q) B F N hnd hA hf hke hret
  refine codeX_of_tree ?_
  show wpX _ A.in1 (callAny (.ref f) args) _ s
  simp only [callAny]
  refine X_abind (wpAny_load ((X₀.keeps F.keep) _ _ ho) ?_)
  obtain ⟨c, oc', vs, tq, hc, hoc, hdc, hq⟩ := codeRec_of (X₀.keeps F.keep) hcd
  simp only [callFunction, hco, hgen, hc]
  refine X_abind (m := field (.ref c) 1) (wpAny_field hoc hdc hq ?_)
  refine X_abind (wpAny_pure ?_)
  rw [hc] at hbind h
  refine X_abind (hbind _ _ _ _ ?_)
  refine X_abind (wpAny_newFunctionEnv hcell hloc (fun h₁ hns hsb => ?_) hk)
  have hk₁ : ∀ b o, s.heap.get? b = some o → h₁.get? b = some o := fun b o e => hsb.extBut b o (Nat.ne_of_lt (Heap.lt_size e)) (Heap.get?_push_of_some _ e)
  refine X_abind (wpAny_enterFrame ((T.nolimit.keeps F.keep).fresh _ hsb) (by exact hroom) ?_)
  refine X_pure ⟨rfl, rfl, codeX_func ?_⟩
  exact X_mono (h _ s.heap.objs.size h₁ ⟨hns, fun b o e => hk₁ b o (of_hideAll _ e), Nat.le_of_eq (hideAll_size _ _)⟩
    (fun p hp => ⟨hk₁ _ _ (N p (List.mem_append_left _ hp)).1, Nat.ne_of_lt (Heap.lt_size (N p (List.mem_append_left _ hp)).1), hideAll_none _ (List.mem_map_of_mem hp)⟩) (nd_left hnd) BG (X₀.keeps st) (T.keeps st)) (fun fl s' hl => lv _ _ hl)
end

/-- p taken out of a ledger -/
structure Take (p : Addr × Obj) (l r : Led) : Prop where
  perm : l.Perm (p :: r)
theorem Take.head {p : Addr × Obj} {r : Led} : Take p (p :: r) r := ⟨.refl _⟩
theorem Take.tail {p q : Addr × Obj} {l r : Led} (h : Take p l r) : Take p (q :: l) (q :: r) := ⟨(List.Perm.cons _ h.perm).trans (List.Perm.swap ..)⟩
theorem Take.tailA {p : Addr × Obj} {q l r : Led} (h : Take p l r) : Take p (q ++ l) (q ++ r) := ⟨(List.Perm.append_left q h.perm).trans List.perm_middle⟩
/-- a part taken out of a ledger -/
structure TakeA (x l r : Led) : Prop where
  perm : l.Perm (x ++ r)
theorem TakeA.here {x : Led} : TakeA x x [] := ⟨by rw [List.append_nil]⟩
theorem TakeA.hereA {x r : Led} : TakeA x (x ++ r) r := ⟨.refl _⟩
theorem TakeA.skip {x : Led} {p : Addr × Obj} {l r : Led} (h : TakeA x l r) : TakeA x (p :: l) (p :: r) := ⟨(List.Perm.cons _ h.perm).trans List.perm_middle.symm⟩
theorem TakeA.skipA {x q l r : Led} (h : TakeA x l r) : TakeA x (q ++ l) (q ++ r) := ⟨by
    refine (List.Perm.append_left q h.perm).trans ?_
    rw [← List.append_assoc, ← List.append_assoc]
    exact List.Perm.append_right _ List.perm_append_comm⟩
theorem newsPerm {h₀ h : Heap} {L : Addr} {a b : Led} (x : a.Perm b) (N : News h₀ L h a) : News h₀ L h b := fun p hp => N p (x.mem_iff.mpr hp)
theorem ndPerm {a b : Led} (x : a.Perm b) (N : Nd a) : Nd b := ((List.Perm.map (fun p : Addr × Obj => p.1) x).nodup_iff).mp N
structure SubP (a l : Led) : Prop where
  mem : ∀ p ∈ a, p ∈ l
  nd : Nd l → Nd a
theorem SubP.nil {l : Led} : SubP [] l := ⟨fun _ h => (nomatch h), fun _ => nd_nil⟩
theorem SubP.same {l : Led} : SubP l l := ⟨fun _ h => h, fun h => h⟩
theorem SubP.cons {p : Addr × Obj} {a l r : Led} (t : Take p l r) (s : SubP a r) : SubP (p :: a) l :=
  ⟨fun q h => t.perm.mem_iff.mpr (by
      rcases List.mem_cons.mp h with rfl | h
      · exact .head _
      · exact .tail _ (s.mem q h)), fun hn => by
    have h := ndPerm t.perm hn
    refine List.nodup_cons.mpr ⟨fun hm => (List.nodup_cons.mp h).1 ?_, s.nd (List.nodup_cons.mp h).2⟩
    obtain ⟨q, hq, e⟩ := List.mem_map.mp hm
    exact List.mem_map.mpr ⟨q, s.mem q hq, e⟩⟩
theorem SubP.drop {p : Addr × Obj} {a l : Led} (s : SubP a l) : SubP a (p :: l) := ⟨fun q h => .tail _ (s.mem q h), fun h => s.nd (List.nodup_cons.mp h).2⟩
theorem SubP.consA {x a l r : Led} (t : TakeA x l r) (s : SubP a r) : SubP (x ++ a) l :=
  ⟨fun q h => t.perm.mem_iff.mpr (by
      rcases List.mem_append.mp h with h | h
      · exact List.mem_append_left _ h
      · exact List.mem_append_right _ (s.mem q h)), fun hn => by
    have h := ndPerm t.perm hn
    refine nd_append (nd_left h) (s.nd (nd_right h)) fun p hp q hq e => ?_
    exact nd_dis h q (s.mem q hq) (e ▸ List.mem_map_of_mem hp)⟩
theorem SubP.lastA {x l r : Led} (t : TakeA x l r) : SubP x l := ⟨fun q h => t.perm.mem_iff.mpr (List.mem_append_left _ h), fun hn => nd_left (ndPerm t.perm hn)⟩
theorem endMS {g : Heap} {P : Value → Led → Prop} {s : Shared} {v : Value} {L' : Addr} {m' : Str → Option Value} {l news' : Led} {h' : Heap} {tk' : Nat} (F : Fr g L' h' m') (N : News g L' h' l) (nd : Nd l) (sp : SubP news' l) (hp : P v news') :
    EndM g P s v { s with heap := h', toks := tk' } := endM F N sp.mem (sp.nd nd) hp

/-- tokens by their number -/
noncomputable def tokL : List Tok → Nat → Tok
  | [], _ => 0
  | a :: _, 0 => a
  | _ :: l, n + 1 => tokL l n
noncomputable abbrev Tks := Nat → Tok
structure PutA (d : Addr) (o o' : Obj) (l l' : Led) : Prop where
  mem : d ∈ l.map (·.1)
  upd : (l.map (·.1)).Nodup → Upd d o o' l l'
theorem PutA.head {d : Addr} {o o' : Obj} {r : Led} : PutA d o o' ((d, o) :: r) ((d, o') :: r) := ⟨.head _, fun hn => .head fun p hp e => (List.nodup_cons.mp hn).1 (List.mem_map.mpr ⟨p, hp, e⟩)⟩
theorem PutA.tail {d : Addr} {o o' : Obj} {p : Addr × Obj} {l l' : Led} (h : PutA d o o' l l') : PutA d o o' (p :: l) (p :: l') :=
  ⟨.tail _ h.mem, fun hn => .tail (fun e => (List.nodup_cons.mp hn).1 (by show p.1 ∈ _; rw [e]; exact h.mem)) (h.upd (List.nodup_cons.mp hn).2)⟩
/-- the same, what comes being a function of the new object -/
structure PutF (d : Addr) (o : Obj) (l : Led) (g : Obj → Led) : Prop where
  mem : d ∈ l.map (·.1)
  upd : (l.map (·.1)).Nodup → UpdF d o l g
theorem PutF.head {d : Addr} {o : Obj} {r : Led} : PutF d o ((d, o) :: r) (fun o' => (d, o') :: r) := ⟨.head _, fun hn => .head fun p hp e => (List.nodup_cons.mp hn).1 (List.mem_map.mpr ⟨p, hp, e⟩)⟩
theorem PutF.tail {d : Addr} {o : Obj} {p : Addr × Obj} {l : Led} {g : Obj → Led} (h : PutF d o l g) : PutF d o (p :: l) (fun o' => p :: g o') :=
  ⟨.tail _ h.mem, fun hn => .tail (fun e => (List.nodup_cons.mp hn).1 (by show p.1 ∈ _; rw [e]; exact h.mem)) (h.upd (List.nodup_cons.mp hn).2)⟩
/-- two addresses of a ledger differ -/
structure MemA (a : Addr) (l : List Addr) : Prop where
  mem : a ∈ l
theorem MemA.head {a : Addr} {l : List Addr} : MemA a (a :: l) := ⟨.head _⟩
theorem MemA.tail {a b : Addr} {l : List Addr} (h : MemA a l) : MemA a (b :: l) := ⟨.tail _ h.mem⟩
structure NeIn (a b : Addr) (l : List Addr) : Prop where
  ne : l.Nodup → a ≠ b
theorem NeIn.hd1 {a b : Addr} {l : List Addr} (h : MemA b l) : NeIn a b (a :: l) := ⟨fun hn e => (List.nodup_cons.mp hn).1 (e ▸ h.mem)⟩
theorem NeIn.hd2 {a b : Addr} {l : List Addr} (h : MemA a l) : NeIn a b (b :: l) := ⟨fun hn e => (List.nodup_cons.mp hn).1 (e ▸ h.mem)⟩
theorem NeIn.tl {a b c : Addr} {l : List Addr} (h : NeIn a b l) : NeIn a b (c :: l) := ⟨fun hn => h.ne (List.nodup_cons.mp hn).2⟩

/-- a claim on a call: what it holds ahead, what it hands back -/
noncomputable abbrev ClM (hgt : Nat) (w : World) (f : Addr) (sub : Led) (vs : List Value) (P : Value → Led → Prop) : Prop :=
  ∀ (dp un : Nat) (gd : Option (List Code)) (cn : Str) (cs : Scope) (a : Addr) (ccd : Value) (cl : List (Str × Addr)) (outer : List Env) (A₀ : Around) (base h₀ : Heap) (L : Addr) (m : Str → Option Value) (s : Shared) (mg mb : Str → Option Value) (mean : ExcName → Option Value) (Q : Value → Shared → Prop) (rest : Led),
    Below A₀ base outer h₀ → Fr h₀ L s.heap m → (K w.params).In h₀ → News h₀ L s.heap (sub ++ rest) → Nd (sub ++ rest) → Top qv loose mean mg mb h₀ → cs.kind = .function →
    dp + hgt < recursionLimit → un + 10 * hgt < cLine → BackM h₀ L m rest s P Q →
      codeAny (model pw w) (ktrTop dp un gd cn cs L a ccd cl outer) (.call (.ref f) ⟨vs, []⟩) (Got Q) s

/-- a ledger parted in two -/
structure Split (l a b : Led) : Prop where
  perm : l.Perm (a ++ b)
theorem Split.nil : Split [] [] [] := ⟨.refl _⟩
theorem Split.left {p : Addr × Obj} {l a b : Led} (h : Split l a b) : Split (p :: l) (p :: a) b := ⟨.cons _ h.perm⟩
theorem Split.right {p : Addr × Obj} {l a b : Led} (h : Split l a b) : Split (p :: l) a (p :: b) := ⟨(List.Perm.cons _ h.perm).trans List.perm_middle.symm⟩
theorem Split.rightA {q l a b : Led} (h : Split l a b) : Split (q ++ l) a (q ++ b) := ⟨(TakeA.skipA ⟨h.perm⟩).perm⟩
theorem Split.leftA {q l a b : Led} (h : Split l a b) : Split (q ++ l) (q ++ a) b := ⟨by rw [List.append_assoc]; exact List.Perm.append_left q h.perm⟩
theorem Split.one {q l : Led} : Split (q ++ l) q l := ⟨.refl _⟩
theorem Split.news {l a b : Led} {h₀ h : Heap} {L : Addr} (x : Split l a b) (N : News h₀ L h l) : News h₀ L h (a ++ b) := newsPerm x.perm N
theorem Split.nd {l a b : Led} (x : Split l a b) (N : Nd l) : Nd (a ++ b) := ndPerm x.perm N
theorem Split.all (l : Led) : Split l [] l := ⟨.refl _⟩
theorem Split.allL (l : Led) : Split l l [] := ⟨by rw [List.append_nil]⟩
theorem newsSwap {h₀ h : Heap} {L : Addr} {a b : Led} (N : News h₀ L h (a ++ b)) : News h₀ L h (b ++ a) := fun p hp => N p (List.perm_append_comm.mem_iff.mpr hp)
theorem ndSwap {a b : Led} (N : Nd (a ++ b)) : Nd (b ++ a) := ((List.Perm.map (fun p : Addr × Obj => p.1) (List.perm_append_comm (l₁ := a) (l₂ := b))).nodup_iff).mp N
theorem ne_of_allLt {D : Addr} : ∀ {l : Led}, AllLt D l → ∀ q ∈ l, @Ne Nat D q.1
  | [], _, _, h => (nomatch h)
  | _ :: _, x, q, h => by
    rcases List.mem_cons.mp h with rfl | h
    · exact Nat.ne_of_gt x.1
    · exact ne_of_allLt x.2 q h

section
variable {hgt : Nat} {w : World} {f : Addr} {sub : Led} {vs : List Value} {P : Value → Led → Prop}
    {dp un : Nat} {gd : Option (List Code)} {cn : Str} {cs : Scope} {a : Addr} {ccd : Value} {cl : List (Str × Addr)} {outer : List Env} {A₀ : Around} {base h₀ : Heap} {L : Addr} {m : Str → Option Value} {s : Shared} {mg mb : Str → Option Value} {mean : ExcName → Option Value} {Q E : Value → Shared → Prop} {l rest : Led}
theorem use_clm (c : ClM hgt w f sub vs P)
    (k1 : Below A₀ base outer h₀) (k2 : Fr h₀ L s.heap m) (k3 : (K w.params).In h₀) (k4 : News h₀ L s.heap l) (kn : Nd l) (ks : Split l sub rest) (k5 : Top qv loose mean mg mb h₀) (k6 : cs.kind = .function) (k7 : dp + hgt < recursionLimit) (k8 : un + 10 * hgt < cLine) (k9 : BackM h₀ L m rest s P Q) :
    wpAny (model pw w) (ktrTop dp un gd cn cs L a ccd cl outer) (call (.ref f) vs) Q E s :=
  wpAny_call (codeAny_mono (c _ _ _ _ _ _ _ _ _ _ _ _ _ _ _ _ _ _ _ _ k1 k2 k3 (ks.news k4) (ks.nd kn) k5 k6 k7 k8 k9) fun r s' h => by obtain ⟨v, rfl, h⟩ := h; exact h)
theorem top_under {C : Addr} : (ktrTop dp un gd cn cs L a ccd cl outer).under (.builtin "type.__call__" ⟨.ref C :: vs, []⟩) = ktrTop (dp + 1) (un + 1) gd cn cs L a ccd cl outer := rfl
theorem nd_two {x dx : Addr} {o o' : Obj} (hn : Nd l) (l1 : ∀ p ∈ l, p.1 < dx) (l2 : dx < x) : Nd ((x, o) :: (dx, o') :: l) := by
  unfold Nd at hn ⊢
  refine List.nodup_cons.mpr ⟨fun h => ?_, List.nodup_cons.mpr ⟨fun h => ?_, hn⟩⟩
  · rcases List.mem_cons.mp h with h | h
    · exact absurd h (Nat.ne_of_gt l2)
    · obtain ⟨p, hp, e⟩ := List.mem_map.mp h
      exact absurd e (Nat.ne_of_lt (Nat.lt_trans (l1 p hp) l2))
  · obtain ⟨p, hp, e⟩ := List.mem_map.mp h
    exact absurd e (Nat.ne_of_lt (l1 p hp))
/-- a class is called, by the claim on its __init__ -/
theorem use_cls {C fI : Addr} {P : Addr → Addr → Value → Led → Prop} (c : ∀ x dx, ClM hgt w fI ((x, instObj C dx) :: (dx, dictOf [] 0) :: sub) (.ref x :: vs) (fun v l => v = .none ∧ P x dx v l))
    (k1 : Below A₀ base outer h₀) (k2 : Fr h₀ L s.heap m) (k3 : (K w.params).In h₀) (k4 : News h₀ L s.heap l) (kn : Nd l) (ks : Split l sub rest) (k5 : Top qv loose mean mg mb h₀) (k6 : cs.kind = .function) (k7 : dp + (hgt + 1) < recursionLimit) (k8 : un + 10 * (hgt + 1) < cLine)
    (hm : makesIn (K w.params) C = true) (hi : findIn (K w.params) (.ref C) "__init__" = some (some (.ref fI))) (hf : isFn (K w.params) (.ref fI) = true)
    (k9 : ∀ x dx news' h' tk', Fr h₀ L h' m → News h₀ L h' (news' ++ rest) → Nd (news' ++ rest) → P x dx .none news' → Q (.ref x) { s with heap := h', toks := tk' }) :
    wpAny (model pw w) (ktrTop dp un gd cn cs L a ccd cl outer) (call (.ref C) vs) Q E s := by
  refine call_cls k2 k3 (ks.news k4) hm hi hf fun x dx h' F' N' l1 l2 => ?_
  rw [top_under]
  refine codeAny_mono (c x dx _ _ _ _ _ _ _ _ _ _ _ _ _ _ { s with heap := h' } _ _ _ (fun v s' => v = .none ∧ Q (.ref x) s') _ k1 F' k3 N' (nd_two (ks.nd kn) l1 l2) k5 k6 (by omega) (by omega) fun v news' h'' tk'' F'' N'' Nd'' hP => ?_) fun r s' hr => ?_
  · obtain ⟨rfl, hP⟩ := hP
    exact ⟨rfl, k9 x dx news' h'' tk'' F'' N'' Nd'' hP⟩
  · obtain ⟨v, rfl, rfl, hq⟩ := hr
    first | exact hq | exact ⟨rfl, hq⟩
end
theorem nd_fresh {D : Addr} {o : Obj} {l : Led} (h : AllLt D l) (n : Nd l) : Nd ((D, o) :: l) := nd_cons (ne_of_allLt h) n
section
variable {dp a b c d R : Nat}
theorem rm1 (h : dp + b < R) (e : Nat.ble a b = true) : dp + a < R := Nat.lt_of_le_of_lt (Nat.add_le_add_left (Nat.le_of_ble_eq_true e) _) h
theorem rm2 (h : dp + b < R) (e : Nat.ble (a + c) b = true) : dp + a + c < R := by rw [Nat.add_assoc]; exact rm1 h e
theorem rm3 (h : dp + b < R) (e : Nat.ble (a + (c + d)) b = true) : dp + a + c + d < R := by rw [Nat.add_assoc]; exact rm2 h e
end
theorem gtN {a b : Addr} (h : b < a) : @Ne Nat a b := Nat.ne_of_gt h
theorem ltN' {a b : Addr} (h : a < b) : @Ne Nat a b := Nat.ne_of_lt h
end
section
open PySem PySem.W PySem.Calls PySem.Spec PyProof.Rows
section
variable {prog : Program} {w : World} {A : Around} {E : Value → Shared → Prop} {s : Shared} {value slice : PySem.Expr} {b : Array UInt8} {t : Tok} {h₀ : Heap} {L : Addr} {m : PySem.Str → Option Value} {news : List (Addr × Obj)} {l u : Value} {lo hi : Option Int} {Q : Value → Shared → Prop}
theorem slice_B (hF : Fr h₀ L s.heap m) (hN : News h₀ L s.heap news) (hz : b.size ≤ 1048576) (hl : IsPart l lo) (hu : IsPart u hi)
    (h : ∀ h' t' k, Fr h₀ L h' m → News h₀ L h' news → Q (.bytes (KBy.picked b lo hi) t') { s with heap := h', toks := k })
    (hs : subscripted slice false (.bytes b t) (.ref s.heap.objs.size) = operate [.ref s.heap.objs.size, .bytes b t] (getItem (.bytes b t) (.ref s.heap.objs.size)) := by with_unfolding_all rfl)
    (ht : ∀ r, letTemporaryGo value (.bytes b t) r = pure () := by intro _; with_unfolding_all rfl) :
    wpAny (model prog w) A (subscriptTail value slice (.bytes b t) (.ref s.heap.objs.size)) Q E { s with heap := s.heap.push { cls := .type "slice", data := .fields #[l, u, .none] } } :=
  tail_of_ItemOn ⟨"bytes", _, FB.slot_bytes_getitem.lookup, typeIs_bytes _ _ _, getItem_meets (typeIs_bytes _ _ _) (by decide) FB.slot_bytes_getitem FB.entry_bytes_getitem (FB.args_bytes_getitem_2 _ _) (KBc.meets_slice2 b t _ hl hu)
    ⟨Heap.IsSliceOf.new _ _ _ _, Nat.le_trans (KBc.size_picked_le b lo hi) (by rw [sizeLine_eq]; omega), fun t' k => h _ _ _ (hF.push _) (News.pushKeep hN _)⟩⟩ hs ht
/-- the same, what is cut being a letter -/
theorem slice_C (hF : Fr h₀ L s.heap m) (hN : News h₀ L s.heap news) (hz : b.size ≤ 1048576) (hl : IsPart l lo) (hu : IsPart u hi)
    (h : ∀ c h' t' k, c = KBy.picked b lo hi → c.size ≤ b.size → Fr h₀ L h' m → News h₀ L h' news → Q (.bytes c t') { s with heap := h', toks := k })
    (hs : subscripted slice false (.bytes b t) (.ref s.heap.objs.size) = operate [.ref s.heap.objs.size, .bytes b t] (getItem (.bytes b t) (.ref s.heap.objs.size)) := by with_unfolding_all rfl)
    (ht : ∀ r, letTemporaryGo value (.bytes b t) r = pure () := by intro _; with_unfolding_all rfl) :
    wpAny (model prog w) A (subscriptTail value slice (.bytes b t) (.ref s.heap.objs.size)) Q E { s with heap := s.heap.push { cls := .type "slice", data := .fields #[l, u, .none] } } :=
  slice_B hF hN hz hl hu (fun h' t' k F N => h _ h' t' k rfl (KBc.size_picked_le b lo hi) F N) hs ht
end
theorem size_picked (b : Array UInt8) (hi : Int) (h0 : 0 ≤ hi) : (KBy.picked b none (some hi)).size = min hi.toNat b.size := by
  obtain ⟨k, rfl⟩ := Int.eq_ofNat_of_zero_le h0
  rw [KBc.picked_eq]
  simp only [Option.elim, clipAt_nat, Int.toNat_natCast, List.size_toArray, List.length_take, List.length_drop, Array.length_toList]
  omega
theorem picked_all (b : Array UInt8) (hi : Int) (h : (b.size : Int) ≤ hi) : KBy.picked b none (some hi) = b := by
  obtain ⟨k, rfl⟩ := Int.eq_ofNat_of_zero_le (show 0 ≤ hi by omega)
  rw [KBc.picked_eq]
  simp only [Option.elim, clipAt_nat, List.drop_zero, Nat.sub_zero]
  rw [Nat.min_eq_right (by omega), List.take_of_length_le (by simp), Array.toArray_toList]
theorem picked_zero (b : Array UInt8) : KBy.picked b (some 0) none = b := by
  rw [KBc.picked_eq]
  simp only [Option.elim, show clipAt b.size 0 = 0 from (clipAt_nat _ 0).trans (Nat.zero_min _), List.drop_zero, Nat.sub_zero]
  rw [List.take_of_length_le (by simp), Array.toArray_toList]
theorem size_picked_from (b : Array UInt8) (lo : Int) (h0 : 0 ≤ lo) : (KBy.picked b (some lo) none).size = b.size - lo.toNat := by
  obtain ⟨k, rfl⟩ := Int.eq_ofNat_of_zero_le h0
  rw [KBc.picked_eq]
  simp only [Option.elim, clipAt_nat, Int.toNat_natCast, List.size_toArray, List.length_take, List.length_drop, Array.length_toList]
  omega
end
section
open PySem PySem.W PySem.Calls PySem.Spec PyProof.Rows
/-- sixteen empty lists: the third alone is kept in the ledger -/
noncomputable def ledC (news : Led) (as : List Addr) : Led := match as[2]? with
  | some q => (q, W.listOf #[] 0) :: news
  | none => news
section
variable {prog : Program} {w : World} {A : Around} {h₀ : Heap} {L : Addr} {m : Str → Option Value} {env : Env} {x : Str} {scope : Scope} {cl : List (Str × Addr)} {s : Shared} {P : Nat → Value → Prop} {Fin : List Value → List (Addr × Obj) → Prop} {news : Led} {pos : Pos}
theorem comp_lists {n : Nat} (fin : ∀ as : List Addr, as.length = n → (∀ q, as[2]? = some q → ∀ p ∈ news, p.1 < q) → Fin (as.map .ref) (ledC news as)) :
    LCg.CompRest prog w A h₀ L m env (.List [] pos) x scope cl s (fun _ => True) P Fin n 0 [] news := by
  have key : ∀ (j : Nat) (as : List Addr), as.length + j = n → (∀ q, as[2]? = some q → ∀ p ∈ news, p.1 < q) → LCg.CompRest prog w A h₀ L m env (.List [] pos) x scope cl s (fun _ => True) P Fin j as.length (as.map .ref) (ledC news as) := by
    intro j
    induction j with
    | zero => intro as hi hy; exact LCg.CompRest.zero (fin as hi hy)
    | succ j ih =>
      intro as hi hy
      refine LCg.CompRest.succ ?_
      intro v I oI C oC D m₂ h tk E' hv hC hx F N off ne
      refine List_ (wpAny_mono (E := E') (Q := fun vs s' => vs = [] ∧ s' = { s with heap := h, toks := tk }) (Calls.spliced_nil ⟨rfl, rfl⟩) (fun vs s₁ hq => ?_) fun _ _ e => e)
      obtain ⟨rfl, rfl⟩ := hq
      refine newList_N F N (fun h' F' N' => ?_) (Nat.zero_le _)
      dsimp only at N' F' ⊢
      have lt : ∀ p ∈ (I, oI) :: (C, oC) :: (D, LCg.lst (as.map .ref)) :: ledC news as, p.1 < h.objs.size := fun p hp => Heap.lt_size (N p hp).1
      have e2 : ∀ q, (as ++ [h.objs.size])[2]? = some q → (as[2]? = some q) ∨ (as[2]? = none ∧ q = h.objs.size) := by
        intro q hq
        rw [List.getElem?_append] at hq
        split at hq
        · exact .inl hq
        · rename_i hl
          refine .inr ⟨List.getElem?_eq_none (by omega), ?_⟩
          rcases hk : 2 - as.length with _ | k
          · rw [hk] at hq; simpa using hq.symm
          · rw [hk] at hq; simp at hq
      have en : (as ++ [h.objs.size])[2]? = none → as[2]? = none := fun hq => by
        rw [List.getElem?_eq_none_iff] at hq ⊢
        rw [List.length_append, List.length_singleton] at hq; omega
      have led : (ledC news (as ++ [h.objs.size]) = ledC news as) ∨ (ledC news (as ++ [h.objs.size]) = (h.objs.size, W.listOf #[] 0) :: news ∧ ledC news as = news) := by
        unfold ledC
        cases hq : (as ++ [h.objs.size])[2]? with
        | none => rw [en hq]; exact .inl rfl
        | some q =>
          rcases e2 q hq with hq' | ⟨hn, rfl⟩
          · rw [hq']; exact .inl rfl
          · rw [hn]; exact .inr ⟨rfl, rfl⟩
      refine LCg.CompEnd.intro (s₁ := { s with heap := h, toks := tk }) F' N' (ledC news (as ++ [h.objs.size])) (fun p hp => ?_) ?_ trivial ?_
      · rcases List.mem_cons.mp hp with rfl | hp
        · exact List.mem_cons_of_mem _ (.head _)
        rcases List.mem_cons.mp hp with rfl | hp
        · exact List.mem_cons_of_mem _ (List.mem_cons_of_mem _ (.head _))
        rcases List.mem_cons.mp hp with rfl | hp
        · exact List.mem_cons_of_mem _ (List.mem_cons_of_mem _ (List.mem_cons_of_mem _ (.head _)))
        rcases led with e | ⟨e, e'⟩
        · rw [e] at hp
          exact List.mem_cons_of_mem _ (List.mem_cons_of_mem _ (List.mem_cons_of_mem _ (List.mem_cons_of_mem _ hp)))
        · rw [e] at hp
          rcases List.mem_cons.mp hp with rfl | hp
          · exact .head _
          · rw [e']; exact List.mem_cons_of_mem _ (List.mem_cons_of_mem _ (List.mem_cons_of_mem _ (List.mem_cons_of_mem _ hp)))
      · rcases led with e | ⟨e, e'⟩
        · rw [e]; exact off
        · rw [e]
          rw [e'] at off
          exact ⟨⟨Nat.ne_of_gt (lt _ (.head _)), Nat.ne_of_gt (lt _ (List.mem_cons_of_mem _ (.head _))), Nat.ne_of_gt (lt _ (List.mem_cons_of_mem _ (List.mem_cons_of_mem _ (.head _))))⟩, off⟩
      · have z := ih (as ++ [h.objs.size]) (by rw [List.length_append, List.length_singleton]; omega) (fun q hq p hp => by
          rcases e2 q hq with hq' | ⟨hn, rfl⟩
          · exact hy q hq' p hp
          · refine lt p (List.mem_cons_of_mem _ (List.mem_cons_of_mem _ (List.mem_cons_of_mem _ ?_)))
            unfold ledC; rw [hn]; exact hp)
        rw [List.length_append, List.length_singleton, List.map_append, List.map_singleton] at z
        exact z
  exact key n [] (by simp) (fun q hq => by simp at hq)
theorem comp_16 (fin : ∀ q0 q1 q2 q3 q4 q5 q6 q7 q8 q9 q10 q11 q12 q13 q14 q15 : Addr, (∀ p ∈ news, p.1 < q2) →
      Fin [.ref q0, .ref q1, .ref q2, .ref q3, .ref q4, .ref q5, .ref q6, .ref q7, .ref q8, .ref q9, .ref q10, .ref q11, .ref q12, .ref q13, .ref q14, .ref q15] ((q2, W.listOf #[] 0) :: news)) :
    LCg.CompRest prog w A h₀ L m env (.List [] pos) x scope cl s (fun _ => True) P Fin 16 0 [] news := comp_lists fun as hl hq => by
  match as, hl, hq with
  | [q0, q1, q2, q3, q4, q5, q6, q7, q8, q9, q10, q11, q12, q13, q14, q15], _, hq => exact fin q0 q1 q2 q3 q4 q5 q6 q7 q8 q9 q10 q11 q12 q13 q14 q15 (hq q2 rfl)
end
end
section
open PySem PySem.W PySem.Calls PySem.Spec PyProof.Rows
/-- what a call gives, in the logic without decoders -/
noncomputable abbrev GotX (Q : Value → Shared → Prop) (r : Result) (s : Shared) : Prop := match r with | .ok (.ret v) => Q v s | _ => False
/-- a claim on a call, in the logic without decoders -/
noncomputable abbrev ClMX (hgt : Nat) (w : World) (f : Addr) (sub : Led) (vs : List Value) (P : Value → Led → Prop) : Prop :=
  ∀ (dp un : Nat) (cn : Str) (cs : Scope) (a : Addr) (ccd : Value) (cl : List (Str × Addr)) (outer : List Env) (A₀ : Around) (base h₀ : Heap) (L : Addr) (m : Str → Option Value) (s : Shared) (mg mb : Str → Option Value) (mean : ExcName → Option Value) (Q : Value → Shared → Prop) (rest : Led),
    Below A₀ base outer h₀ → Fr h₀ L s.heap m → (K w.params).In h₀ → News h₀ L s.heap (sub ++ rest) → Nd (sub ++ rest) → Top qv loose mean mg mb h₀ → cs.kind = .function →
    dp + hgt < recursionLimit → un + 10 * hgt < cLine → BackM h₀ L m rest s P Q →
      codeX (model pw w) (ktrTop dp un (some []) cn cs L a ccd cl outer) (.call (.ref f) ⟨vs, []⟩) (GotX Q) s
section
variable {prog : Program} {w : World} {A : Around} {E : Value → Shared → Prop} {s : Shared} {h₀ : Heap} {L : Addr} {m : Str → Option Value} {news news' : Led} {Q : Value → Shared → Prop} {a : Addr} {b c : Array UInt8} {t : Tok}
theorem upd_news {f : Obj → Obj} {o : Obj} (F : Fr h₀ L s.heap m) (N : News h₀ L s.heap news) (U : Upd a o (f o) news news') (hf : (f o).isFreed = false) :
    s.heap.get? a = some o ∧ Fr h₀ L (s.heap.update a f) m ∧ News h₀ L (s.heap.update a f) news' := by
  obtain ⟨pre, post, rfl, rfl, hp, hq⟩ := U.split
  have ha := N (a, o) (by simp)
  have hs := Heap.SameBut.update s.heap a f
  refine ⟨ha.1, F.change hs ha.2.1 ha.2.2, fun p hp' => ?_⟩
  rcases List.mem_append.mp hp' with hp' | hp'
  · have z := N p (List.mem_append_left _ hp')
    exact ⟨(hs.2 _ (hp p hp')).trans z.1, z.2⟩
  · rcases List.mem_cons.mp hp' with rfl | hp'
    · exact ⟨Heap.get?_update_self f ha.1 hf, ha.2⟩
    · have z := N p (List.mem_append_right _ (List.mem_cons_of_mem _ hp'))
      exact ⟨(hs.2 _ (hq p hp')).trans z.1, z.2⟩
theorem new_baX (F : Fr h₀ L s.heap m) (N : News h₀ L s.heap news) (hg : A.guards = some [])
    (h : ∀ x h', Fr h₀ L h' m → News h₀ L h' ((x, baObj #[]) :: news) → (∀ p ∈ news, p.1 < x) → Q (.ref x) { s with heap := h' }) :
    wpX (model prog w) A (call (.type "bytearray") []) Q s := by
  have lt : ∀ p ∈ news, p.1 < s.heap.objs.size := fun p hp => Heap.lt_size (N p hp).1
  refine new_bytearray hg (h _ _ ?_ ?_ lt)
  all_goals
    have z := upd_news (s := { s with heap := s.heap.push (baObj #[]) }) (f := Obj.mapBytearray fun _ => #[]) (o := baObj #[]) (F.push _) (N.push F (baObj #[])) (Upd.head fun p hp => Nat.ne_of_lt (lt p hp)) rfl
  · exact z.2.1
  · exact z.2.2
theorem extendX (F : Fr h₀ L s.heap m) (N : News h₀ L s.heap news) (hg : A.guards = some []) (U : Upd a (baObj b) (baObj (b ++ c)) news news') (hz : b.size + c.size ≤ 1048576)
    (h : ∀ h', Fr h₀ L h' m → News h₀ L h' news' → Q .none { s with heap := h' }) :
    wpX (model prog w) A (call (.builtin "bytearray.extend") [.ref a, .bytes c t]) Q s := by
  have z := upd_news (f := Obj.mapBytearray (· ++ c)) (o := baObj b) F N U rfl
  exact call_extend hg z.1 hz (h _ z.2.1 z.2.2)
end
section
variable {hgt : Nat} {w : World} {f : Addr} {sub : Led} {vs : List Value} {P : Value → Led → Prop}
    {dp un : Nat} {cn : Str} {cs : Scope} {a : Addr} {ccd : Value} {cl : List (Str × Addr)} {outer : List Env} {A₀ : Around} {base h₀ : Heap} {L : Addr} {m : Str → Option Value} {s : Shared} {mg mb : Str → Option Value} {mean : ExcName → Option Value} {Q : Value → Shared → Prop} {l rest : Led}
theorem use_clmX (c : ClMX hgt w f sub vs P)
    (k1 : Below A₀ base outer h₀) (k2 : Fr h₀ L s.heap m) (k3 : (K w.params).In h₀) (k4 : News h₀ L s.heap l) (kn : Nd l) (ks : Split l sub rest) (k5 : Top qv loose mean mg mb h₀) (k6 : cs.kind = .function) (k7 : dp + hgt < recursionLimit) (k8 : un + 10 * hgt < cLine) (k9 : BackM h₀ L m rest s P Q) :
    wpX (model pw w) (ktrTop dp un (some []) cn cs L a ccd cl outer) (call (.ref f) vs) Q s :=
  X_call (c _ _ _ _ _ _ _ _ _ _ _ _ _ _ _ _ _ _ _ k1 k2 k3 (ks.news k4) (ks.nd kn) k5 k6 k7 k8 k9)
theorem use_clsX {C fI : Addr} {P : Addr → Addr → Value → Led → Prop} (c : ∀ x dx, ClMX hgt w fI ((x, instObj C dx) :: (dx, dictOf [] 0) :: sub) (.ref x :: vs) (fun v l => v = .none ∧ P x dx v l))
    (k1 : Below A₀ base outer h₀) (k2 : Fr h₀ L s.heap m) (k3 : (K w.params).In h₀) (k4 : News h₀ L s.heap l) (kn : Nd l) (ks : Split l sub rest) (k5 : Top qv loose mean mg mb h₀) (k6 : cs.kind = .function) (k7 : dp + (hgt + 1) < recursionLimit) (k8 : un + 10 * (hgt + 1) < cLine)
    (hm : makesIn (K w.params) C = true) (hi : findIn (K w.params) (.ref C) "__init__" = some (some (.ref fI))) (hf : typeIn (K w.params) (.ref fI) = some (.type "function"))
    (k9 : ∀ x dx news' h' tk', Fr h₀ L h' m → News h₀ L h' (news' ++ rest) → Nd (news' ++ rest) → P x dx .none news' → Q (.ref x) { s with heap := h', toks := tk' }) :
    wpX (model pw w) (ktrTop dp un (some []) cn cs L a ccd cl outer) (call (.ref C) vs) Q s := by
  refine X_call (makeX k2 (ks.news k4) k3 hm hi hf fun x dx h' F' N' l1 l2 => ?_)
  rw [top_under]
  refine codeX_mono (c x dx _ _ _ _ _ _ _ _ _ _ _ _ _ { s with heap := h' } _ _ _ (fun v s' => v = .none ∧ Q (.ref x) s') _ k1 F' k3 N' (nd_two (ks.nd kn) l1 l2) k5 k6 (by omega) (by omega) fun v news' h'' tk'' F'' N'' Nd'' hP => ?_) fun r s' hr => ?_
  · obtain ⟨rfl, hP⟩ := hP
    exact ⟨rfl, k9 x dx news' h'' tk'' F'' N'' Nd'' hP⟩
  · cases r with
    | error e => exact hr.elim
    | ok fl =>
      cases fl with
      | ret v => obtain ⟨rfl, hq⟩ := hr; exact ⟨rfl, hq⟩
      | _ => exact hr.elim
end
end
section
open PySem PySem.W PySem.Calls PySem.Spec PyProof.Rows
section
variable {prog : Program} {w : World} {A : Around} {E : Value → Shared → Prop} {s : Shared} {h₀ : Heap} {L : Addr} {news : Led} {Q : Value → Shared → Prop} {a b : Addr}
theorem eqAt_bytes (b c : Array UInt8) (t u : Tok) : SeqAt.EqAt A s (.bytes b t) (.bytes c u) (b.toList == c.toList) := fun prog w E Q hq => by
  unfold eqBool
  refine wpAny_holding ?_
  refine wpAny_ite_split (fun hab => ?_) (fun _ => ?_)
  · have e := eq_of_beq hab
    injection e with e1 e2
    subst e1
    rw [beq_self_eq_true] at hq
    exact wpAny_bind (wpAny_rule (wpAny_pure hq))
  · have z : wpAny (model prog w) A (compareOp .Eq (.bytes b t) (.bytes c u)) (fun v s' => wpAny (model prog w) A (truthOfDropped v) Q E s') E s := eq_bytes (wpAny_truthy_bool hq)
    exact wpAny_bind z
theorem ne_listsK {xs ys : Array Value} {n k : Nat} (N : News h₀ L s.heap news) (ha : (a, W.listOf xs n) ∈ news) (hb : (b, W.listOf ys k) ∈ news) (hz : (xs.size != ys.size) = true) (hu : A.units < cLine)
    (h : Q (.bool true) s) : wpAny (model prog w) A (compareOp .NotEq (.ref a) (.ref b)) Q E s :=
  SeqAt.RcNeAt.lists_lengths ⟨_, (N _ ha).1, rfl, _, rfl⟩ ⟨_, (N _ hb).1, rfl, _, rfl⟩ hz hu prog w E Q h
theorem eq_listsK {xs ys : Array Value} {n k : Nat} (N : News h₀ L s.heap news) (ha : (a, W.listOf xs n) ∈ news) (hb : (b, W.listOf ys k) ∈ news) (hz : (xs.size != ys.size) = true) (hu : A.units < cLine)
    (h : Q (.bool false) s) : wpAny (model prog w) A (compareOp .Eq (.ref a) (.ref b)) Q E s :=
  SeqAt.eq_list_lengthsAt ⟨_, (N _ ha).1, rfl, _, rfl⟩ ⟨_, (N _ hb).1, rfl, _, rfl⟩ hz hu h
/-- a row: seven numbers, two bytes -/
noncomputable abbrev row9 (i0 i1 i2 i3 i4 i5 i6 : Int) (b7 b8 : Array UInt8) (t0 t1 t2 t3 t4 t5 t6 t7 t8 : Tok) : Array Value := #[.int i0 t0, .int i1 t1, .int i2 t2, .int i3 t3, .int i4 t4, .int i5 t5, .int i6 t6, .bytes b7 t7, .bytes b8 t8]
theorem eq_row9 {i0 i1 i2 i3 i4 i5 i6 j0 j1 j2 j3 j4 j5 j6 : Int} {b7 b8 c7 c8 : Array UInt8} {t0 t1 t2 t3 t4 t5 t6 t7 t8 u0 u1 u2 u3 u4 u5 u6 u7 u8 : Tok} {n k : Nat} (N : News h₀ L s.heap news)
    (ha : (a, ({ cls := .type "tuple", data := .seq #[.int i0 t0, .int i1 t1, .int i2 t2, .int i3 t3, .int i4 t4, .int i5 t5, .int i6 t6, .bytes b7 t7, .bytes b8 t8] n } : Obj)) ∈ news)
    (hb : (b, ({ cls := .type "tuple", data := .seq #[.int j0 u0, .int j1 u1, .int j2 u2, .int j3 u3, .int j4 u4, .int j5 u5, .int j6 u6, .bytes c7 u7, .bytes c8 u8] k } : Obj)) ∈ news)
    (hu : A.units < cLine) (e0 : i0 = j0) (e1 : i1 = j1) (e2 : i2 = j2) (e3 : i3 = j3) (e4 : i4 = j4) (e5 : i5 = j5) (e6 : i6 = j6) (e7 : b7 = c7) (e8 : b8 = c8)
    (h : Q (.bool true) s) : wpAny (model prog w) A (compareOp .Eq (.ref a) (.ref b)) Q E s := by
  subst e0 e1 e2 e3 e4 e5 e6 e7 e8
  refine SeqAt.eq_tupleAt (e := fun _ => true) ⟨_, (N _ ha).1, rfl, _, rfl⟩ ⟨_, (N _ hb).1, rfl, _, rfl⟩ hu (fun j h1 h2 => ?_) ?_
  · have ii : ∀ (i : Int) (t u : Tok), SeqAt.EqAt A.in1 s (.int i t) (.int i u) true := fun i t u => by have z := SeqAt.EqAt.int_int (A := A.in1) (s := s) i t i u; rwa [beq_self_eq_true] at z
    have bb : ∀ (i : Array UInt8) (t u : Tok), SeqAt.EqAt A.in1 s (.bytes i t) (.bytes i u) true := fun i t u => by have z := eqAt_bytes (A := A.in1) (s := s) i i t u; rwa [beq_self_eq_true] at z
    match j, h1, h2 with
    | 0, _, _ => exact ii _ _ _
    | 1, _, _ => exact ii _ _ _
    | 2, _, _ => exact ii _ _ _
    | 3, _, _ => exact ii _ _ _
    | 4, _, _ => exact ii _ _ _
    | 5, _, _ => exact ii _ _ _
    | 6, _, _ => exact ii _ _ _
    | 7, _, _ => exact bb _ _ _
    | 8, _, _ => exact bb _ _ _
    | k + 9, h1, _ => simp at h1; omega
  · exact h
end
end
local macro_rules | `(tactic| k_ne) => `(tactic| k_extra "s k_ne")
local macro_rules | `(tactic| k_upd) => `(tactic| k_extra "s k_upd")
local macro_rules | `(tactic| k_updF) => `(tactic| k_extra "s k_updF")
local macro_rules | `(tactic| k_lt $h:ident) => `(tactic| (replace $h := allLt_of $h; dsimp only [AllLt] at $h:ident))
local macro_rules | `(tactic| ktr_room) => `(tactic| k_extra "s ktr_room")
local macro_rules | `(tactic| ktr_units) => `(tactic| k_extra "s ktr_units")
example : True := by
  k_with "execs" => first | ((plain_pass; (conv in (execs _ _) => arg 1; whnf))) | fail "-"
  k_with "s fill" => first | (((have dummy : dummyT := rfl); revert dummy; dsimp only [dummyT]; k_fill; intro dummy; clear dummy)) | fail "-"
  k_with "s prem" => first | (((case k1 => k_asm); (case k2 => k_asm); (case k3 => k_asm); (case k4 => k_asm); (case k5 => k_asm); (case k6 => first | exact rfl | assumption); (case k7 => ktr_room); (case k8 => ktr_units))) | fail "-"
  k_with "s start" => first | ((refine wpAny_call ?_; cell_enter; k_steps)) | fail "-"
  k_with "s enter" => first | ((refine' code_def ?k1 ?k2 ?k3 ?k4 ?k5 ?kA ?kF ?kK ?k6 ?k7 ?k8 ?k9 ?kB ?_ ?c2 ?c3 ?c4 ?c5; (case kA => exact rfl); (case kF => exact rfl); (case kK => first | exact rfl | assumption); (case k1 => k_asm); (case k2 => k_asm); (case k3 => k_asm); (case k4 => k_asm); (case k5 => k_asm); (case k6 => k_is); (case k7 => k_is); (case k8 => ktr_room); (case k9 => first | exact BindsTo.of_eq rfl | exact binds_K (by k_in) rfl (by k_is) rfl rfl rfl); (case c5 => decide); (case kB => exact locs rfl); (case c2 => exact rfl); (case c3 => exact rfl); (case c4 => exact rfl); k_whole; intro g' L' h' FG' F' N' B' X' T'; (try dsimp only); (try k_fold))) | fail "-"
  k_with "call ref" => first | ((k_here; k_dflt (first | (refine' call_cls ?k1 ?k2 ?k3 ?k4 ?k5 ?k6 ?_; (case k1 => k_asm); (case k2 => k_asm); (case k3 => k_asm); (case k4 => k_is); (case k5 => k_is); (case k6 => k_is); k_whole; intro x' d' h' F' N' l1 l2; (try k_lt l1); (try k_lt2 l2); (try k_sweep); k_extra "s enter") | (refine wpAny_call ?_; k_extra "s enter")))) | fail "-"
  k_with "callWith ref" => first | ((k_here; (with_reducible show wpAny _ _ (callWith _ _ _ (backTo _ (starEach [] _)) []) _ _ _); k_dflt (refine' callWith_K0 ?kw1 ?kw2 ?_; (case kw1 => k_in); (case kw2 => k_is); k_whole))) | fail "-"
  k_with "s nein1" => first | (first | exact MemA.head | (apply MemA.tail; k_extra "s nein1")) | fail "-"
  k_with "s nein" => first | (first | (apply NeIn.hd1; k_extra "s nein1") | (apply NeIn.hd2; k_extra "s nein1") | (apply NeIn.tl; k_extra "s nein")) | fail "-"
  k_with "s put" => first | (first | exact PutA.head | (apply PutA.tail; k_extra "s put")) | fail "-"
  k_with "s putf" => first | (first | exact PutF.head | (apply PutF.tail; k_extra "s putf")) | fail "-"
  k_with "s sub" => first | (first | exact List.forall_mem_nil _ | (refine' List.forall_mem_cons.mpr ⟨?sa, ?sb⟩; (case sa => k_mem); (case sb => k_extra "s sub"))) | fail "-"
  k_with "s tail" => first | (first | assumption | exact And.right (by assumption) | exact And.right (And.right (by assumption)) | exact And.right (And.right (And.right (by assumption))) | exact And.right (And.right (And.right (And.right (by assumption)))) | exact And.right (And.right (And.right (And.right (And.right (by assumption))))) | exact And.right (And.right (And.right (And.right (And.right (And.right (by assumption)))))) | exact And.right (And.right (And.right (And.right (And.right (And.right (And.right (by assumption))))))) | exact And.right (And.right (And.right (And.right (And.right (And.right (And.right (And.right (by assumption)))))))) | exact And.right (And.right (And.right (And.right (And.right (And.right (And.right (And.right (And.right (by assumption))))))))) | exact And.right (And.right (And.right (And.right (And.right (And.right (And.right (And.right (And.right (And.right (by assumption)))))))))) | exact And.right (And.right (And.right (And.right (And.right (And.right (And.right (And.right (And.right (And.right (And.right (by assumption))))))))))) | exact And.right (And.right (And.right (And.right (And.right (And.right (And.right (And.right (And.right (And.right (And.right (And.right (by assumption)))))))))))) | exact And.right (And.right (And.right (And.right (And.right (And.right (And.right (And.right (And.right (And.right (And.right (And.right (And.right (by assumption))))))))))))) | exact And.right (And.right (And.right (And.right (And.right (And.right (And.right (And.right (And.right (And.right (And.right (And.right (And.right (And.right (by assumption)))))))))))))) | exact And.right (And.right (And.right (And.right (And.right (And.right (And.right (And.right (And.right (And.right (And.right (And.right (And.right (And.right (And.right (by assumption))))))))))))))) | exact And.right (And.right (And.right (And.right (And.right (And.right (And.right (And.right (And.right (And.right (And.right (And.right (And.right (And.right (And.right (And.right (by assumption)))))))))))))))) | exact And.right (And.right (And.right (And.right (And.right (And.right (And.right (And.right (And.right (And.right (And.right (And.right (And.right (And.right (And.right (And.right (And.right (by assumption))))))))))))))))) | exact And.right (And.right (And.right (And.right (And.right (And.right (And.right (And.right (And.right (And.right (And.right (And.right (And.right (And.right (And.right (And.right (And.right (And.right (by assumption)))))))))))))))))) | exact And.right (And.right (And.right (And.right (And.right (And.right (And.right (And.right (And.right (And.right (And.right (And.right (And.right (And.right (And.right (And.right (And.right (And.right (And.right (by assumption))))))))))))))))))) | exact And.right (And.right (And.right (And.right (And.right (And.right (And.right (And.right (And.right (And.right (And.right (And.right (And.right (And.right (And.right (And.right (And.right (And.right (And.right (And.right (by assumption)))))))))))))))))))) | exact And.right (And.right (And.right (And.right (And.right (And.right (And.right (And.right (And.right (And.right (And.right (And.right (And.right (And.right (And.right (And.right (And.right (And.right (And.right (And.right (And.right (by assumption))))))))))))))))))))) | exact And.right (And.right (And.right (And.right (And.right (And.right (And.right (And.right (And.right (And.right (And.right (And.right (And.right (And.right (And.right (And.right (And.right (And.right (And.right (And.right (And.right (And.right (by assumption)))))))))))))))))))))) | exact And.right (And.right (And.right (And.right (And.right (And.right (And.right (And.right (And.right (And.right (And.right (And.right (And.right (And.right (And.right (And.right (And.right (And.right (And.right (And.right (And.right (And.right (And.right (by assumption))))))))))))))))))))))) | exact And.right (And.right (And.right (And.right (And.right (And.right (And.right (And.right (And.right (And.right (And.right (And.right (And.right (And.right (And.right (And.right (And.right (And.right (And.right (And.right (And.right (And.right (And.right (And.right (by assumption))))))))))))))))))))))))) | fail "-"
  k_with "s ne" => first | (first | exact List.forall_mem_nil _ | (refine' List.forall_mem_cons.mpr ⟨?ea, ?eb⟩; (case ea => k_ne); (case eb => k_extra "s ne")) | (refine ne_of_allLt ?_; k_extra "s tail")) | fail "-"
  k_with "s cj" => first | (first | assumption | exact And.left (by assumption) | exact And.left (And.right (by assumption)) | exact And.left (And.right (And.right (by assumption))) | exact And.left (And.right (And.right (And.right (by assumption)))) | exact And.left (And.right (And.right (And.right (And.right (by assumption))))) | exact And.left (And.right (And.right (And.right (And.right (And.right (by assumption)))))) | exact And.left (And.right (And.right (And.right (And.right (And.right (And.right (by assumption))))))) | exact And.left (And.right (And.right (And.right (And.right (And.right (And.right (And.right (by assumption)))))))) | exact And.left (And.right (And.right (And.right (And.right (And.right (And.right (And.right (And.right (by assumption))))))))) | exact And.left (And.right (And.right (And.right (And.right (And.right (And.right (And.right (And.right (And.right (by assumption)))))))))) | exact And.left (And.right (And.right (And.right (And.right (And.right (And.right (And.right (And.right (And.right (And.right (by assumption))))))))))) | exact And.left (And.right (And.right (And.right (And.right (And.right (And.right (And.right (And.right (And.right (And.right (And.right (by assumption)))))))))))) | exact And.left (And.right (And.right (And.right (And.right (And.right (And.right (And.right (And.right (And.right (And.right (And.right (And.right (by assumption))))))))))))) | exact And.left (And.right (And.right (And.right (And.right (And.right (And.right (And.right (And.right (And.right (And.right (And.right (And.right (And.right (by assumption)))))))))))))) | exact And.left (And.right (And.right (And.right (And.right (And.right (And.right (And.right (And.right (And.right (And.right (And.right (And.right (And.right (And.right (by assumption))))))))))))))) | exact And.left (And.right (And.right (And.right (And.right (And.right (And.right (And.right (And.right (And.right (And.right (And.right (And.right (And.right (And.right (And.right (by assumption)))))))))))))))) | exact And.left (And.right (And.right (And.right (And.right (And.right (And.right (And.right (And.right (And.right (And.right (And.right (And.right (And.right (And.right (And.right (And.right (by assumption))))))))))))))))) | exact And.left (And.right (And.right (And.right (And.right (And.right (And.right (And.right (And.right (And.right (And.right (And.right (And.right (And.right (And.right (And.right (And.right (And.right (by assumption)))))))))))))))))) | exact And.left (And.right (And.right (And.right (And.right (And.right (And.right (And.right (And.right (And.right (And.right (And.right (And.right (And.right (And.right (And.right (And.right (And.right (And.right (by assumption))))))))))))))))))) | exact And.left (And.right (And.right (And.right (And.right (And.right (And.right (And.right (And.right (And.right (And.right (And.right (And.right (And.right (And.right (And.right (And.right (And.right (And.right (And.right (by assumption)))))))))))))))))))) | exact And.left (And.right (And.right (And.right (And.right (And.right (And.right (And.right (And.right (And.right (And.right (And.right (And.right (And.right (And.right (And.right (And.right (And.right (And.right (And.right (And.right (by assumption))))))))))))))))))))) | exact And.left (And.right (And.right (And.right (And.right (And.right (And.right (And.right (And.right (And.right (And.right (And.right (And.right (And.right (And.right (And.right (And.right (And.right (And.right (And.right (And.right (And.right (by assumption)))))))))))))))))))))) | exact And.left (And.right (And.right (And.right (And.right (And.right (And.right (And.right (And.right (And.right (And.right (And.right (And.right (And.right (And.right (And.right (And.right (And.right (And.right (And.right (And.right (And.right (And.right (by assumption))))))))))))))))))))))) | exact And.left (And.right (And.right (And.right (And.right (And.right (And.right (And.right (And.right (And.right (And.right (And.right (And.right (And.right (And.right (And.right (And.right (And.right (And.right (And.right (And.right (And.right (And.right (And.right (by assumption))))))))))))))))))))))))) | fail "-"
  k_with "s nd" => first | (first | exact (by assumption) | exact nd_nil | (refine' nd_fresh ?da ?db; (case da => assumption); (case db => k_extra "s nd")) | (refine' nd_cons ?da ?db; (case da => k_extra "s ne"); (case db => k_extra "s nd"))) | fail "-"
  k_with "s premM" => first | (((case kA => exact rfl); (case kF => exact rfl); (case kK => first | exact rfl | assumption); (case k1 => k_asm); (case k2 => k_asm); (case k3 => k_asm); (case k4 => assumption); (case kn => assumption); (case k5 => k_asm); (case k6 => k_is); (case k7 => k_is); (case k8 => ktr_room); (case k9 => first | exact BindsTo.of_eq (by kernel_rfl!) | exact binds_K (by k_in) rfl (by k_is) rfl rfl (by kernel_rfl!)); (case c5 => decide); (case kB => exact locs rfl); (case c2 => exact rfl); (case c3 => exact rfl); (case c4 => exact rfl); (case kR => assumption); k_whole)) | fail "-"
  k_with "s hyp" => first | (first | assumption | (exact ⟨by assumption, by assumption⟩) | k_mem | decide | omega | (simp [*]; done)) | fail "-"
  k_with "s size" => first | (first | assumption | omega | decide | (simp only [Array.size_replicate] at *; omega)) | fail "-"
  k_with "call type:bytes" => first | ((k_here; (with_reducible show wpAny _ _ (call (Value.type "bytes") [Value.int _ _]) _ _ _); k_dflt (refine' bytes_of_int ?k1 ?k2 ?_; (case k1 => k_extra "s size"); (case k2 => k_extra "s size"); k_whole))) | fail "-"
  k_with "call type:bytes" => first | ((k_here; (with_reducible show wpAny _ _ (call (Value.type "bytes") [Value.bytes _ _]) _ _ _); k_dflt (refine' bytes_of_bytes ?_; k_whole))) | fail "-"
  k_with "s split" => first | (first | exact Split.nil | exact Split.allL _ | exact Split.all _ | exact Split.one | (apply Split.left; k_extra "s split") | (apply Split.right; k_extra "s split") | (apply Split.leftA; k_extra "s split") | (apply Split.rightA; k_extra "s split")) | fail "-"
  k_with "s hole" => first | (first | exact Hole.here | exact Hole.hereA | (apply Hole.skip; k_extra "s hole") | (apply Hole.skipA; k_extra "s hole")) | fail "-"
  k_with "s premH" => first | (((case ks => k_extra "s hole"); (case k1 => k_asm); (case k2 => k_asm); (case k3 => k_asm); (case k4 => k_asm); (case kn => k_extra "s nd"); (case k5 => k_asm); (case k6 => first | exact rfl | assumption); (case k7 => ktr_room); (case k8 => ktr_units))) | fail "-"
  k_with "s premU" => first | (((case k1 => k_asm); (case k2 => k_asm); (case k3 => k_asm); (case k4 => k_asm); (case ks => k_extra "s split"); (case kn => k_extra "s nd"); (case k5 => k_asm); (case k6 => first | exact rfl | assumption); (case k7 => ktr_room); (case k8 => ktr_units))) | fail "-"
  k_with "s take1" => first | (first | exact Take.head | (apply Take.tail; k_extra "s take1") | (apply Take.tailA; k_extra "s take1")) | fail "-"
  k_with "s takeA" => first | (first | exact TakeA.here | exact TakeA.hereA | (apply TakeA.skip; k_extra "s takeA") | (apply TakeA.skipA; k_extra "s takeA")) | fail "-"
  k_with "s take" => first | (first | exact SubP.nil | exact SubP.same | (apply SubP.cons; (k_extra "s take1"); (k_extra "s take")) | (apply SubP.consA; (k_extra "s takeA"); (k_extra "s take")) | (apply SubP.lastA; k_extra "s takeA")) | fail "-"
  k_with "subscriptTail" => first | ((k_here; (with_reducible show wpAny _ _ (subscriptTail _ (Expr.Slice _ _ none _) (Value.bytes _ _) (Value.ref _)) _ _ _); k_dflt (refine' slice_C (s := ⟨_, _, _, _, _⟩) ?k1 ?k2 ?k3 ?k4 ?k5 ?_; (case k1 => k_asm); (case k2 => k_asm); (case k3 => k_extra "s size"); (case k4 => constructor); (case k5 => constructor); k_whole); intro c' h' t' k' hc' hzc' F' N'; (try dsimp only); (try k_fold))) | fail "-"
  k_with "binaryOp Add bytes bytes" => first | ((k_here; (with_reducible show wpAny _ _ (binaryOp Operator.Add (Value.bytes _ _) (Value.bytes _ _)) _ _ _); k_dflt (refine' KBy.add_bytes ?k1 ?_; (case k1 => k_extra "s addz"); k_whole); intro _ _)) | fail "-"
  k_with "s addz" => first | ((simp only [Array.size_append, Array.size_empty, List.size_toArray, List.length_nil]; omega)) | fail "-"
  k_with "call builtin:len" => first | ((k_here; (with_reducible show wpAny _ _ (call (Value.builtin "len") [Value.bytes _ _]) _ _ _); k_dflt (refine' len_bytes ?z ?_; (case z => k_extra "s size"); k_whole))) | fail "-"
  k_with "call builtin:len" => first | ((k_here; (with_reducible show wpAny _ _ (call (Value.builtin "len") [Value.ref _]) _ _ _); k_dflt (refine' len_baK ?k1 ?k2 ?k3 ?_; (case k1 => k_asm); (case k2 => k_mem); (case k3 => assumption); k_whole))) | fail "-"
  k_with "compareOp NotEq ref ref" => first | ((k_here; (with_reducible show wpAny _ _ (compareOp CmpOp.NotEq (Value.ref _) (Value.ref _)) _ _ _); k_dflt (refine' ne_listsK ?rwN ?rwa ?rwb ?rwz ?rwu ?_; (case rwN => k_asm); (case rwa => k_mem); (case rwb => k_mem); (case rwz => rfl); (case rwu => ktr_units); k_whole))) | fail "-"
  k_with "compareOp Eq ref ref" => first | ((k_here; (with_reducible show wpAny _ _ (compareOp CmpOp.Eq (Value.ref _) (Value.ref _)) _ _ _); k_dflt (refine' eq_listsK ?rwN ?rwa ?rwb ?rwz ?rwu ?_; (case rwN => k_asm); (case rwa => k_mem); (case rwb => k_mem); (case rwz => rfl); (case rwu => ktr_units); k_whole))) | fail "-"
  k_with "x body" => first | ((conv in (execs _ _) => arg 1; whnf)) | fail "-"
  k_with "x any" => first | ((refine X_step ?_; (try k_fold); k_steps; (all_goals (try dsimp only)))) | fail "-"
  k_with "x nil" => first | ((refine X_nil ?_; (try dsimp only))) | fail "-"
  k_with "exec For Tuple Attribute cons nil" => first | ((k_here; (rename Fr _ _ _ _ => lF'); (with_unfolding_all refine' For_turns lF' ?_; k_whole))) | fail "-"
  k_with "s premC" => first | (((case kA => exact rfl); (case kF => exact rfl); (case kK => first | exact rfl | assumption); (case k1 => k_asm); (case k2 => k_asm); (case k3 => k_asm); (case k4 => assumption); (case kn => assumption); (case k5 => k_asm); (case k6 => k_is); (case k7 => k_is); (case k8 => ktr_room); (case k9 => first | exact BindsTo.of_eq (by kernel_rfl!) | exact binds_K (by k_in) rfl (by k_is) rfl rfl (by kernel_rfl!)); (case kB => exact rfl); (case kD => exact fun _ => rfl); (case c2 => exact rfl); (case c3 => exact rfl); (case c4 => exact rfl); (case kR => assumption); k_whole)) | fail "-"
  trivial
theorem use_cl {hgt : Nat} {w : World} {f : Addr} {news : List (Addr × Obj)} {vs : List Value} {P : (Heap → Addr → (Str → Option Value) → Shared → (Value → Shared → Prop) → Prop)} (c : Cl hgt w f news vs P)
    {dp un : Nat} {gd : Option (List Code)} {cn : Str} {cs : Scope} {a : Addr} {ccd : Value} {cl : List (Str × Addr)} {outer : List Env} {A₀ : Around} {base h₀ : Heap} {L : Addr} {m : Str → Option Value} {s : Shared} {mg mb : Str → Option Value} {mean : ExcName → Option Value} {Q E : Value → Shared → Prop}
    (k1 : Below A₀ base outer h₀) (k2 : Fr h₀ L s.heap m) (k3 : (K w.params).In h₀) (k4 : News h₀ L s.heap news) (k5 : Top qv loose mean mg mb h₀) (k6 : cs.kind = .function) (k7 : dp + hgt < recursionLimit) (k8 : un + 10 * hgt < cLine) (k9 : P h₀ L m s Q) :
    wpAny (model pw w) (ktrTop dp un gd cn cs L a ccd cl outer) (call (.ref f) vs) Q E s := c _ _ _ _ _ _ _ _ _ _ _ _ _ _ _ _ _ _ _ _ k1 k2 k3 k4 k5 k6 k7 k8 k9
noncomputable def toldW (nx ed : Int) : Int := if isB ed nx 256 = true then 0 else Int.fmod (ed - nx) 256
noncomputable def freeE (nx : Int) (n : Nat) : Int := Int.fmod (nx + (16 - (n : Int))) 256
noncomputable def shT (mss nx ed : Int) (n : Nat) : Bool := isB ed (freeE nx n) 256 && decide (max 1 (min mss 8) ≤ Int.fmod (freeE nx n - ed) 256)
theorem len_baK {prog : Program} {w : World} {A : Around} {E : Value → Shared → Prop} {s : Shared} {h₀ : Heap} {L : Addr} {news : List (Addr × Obj)} {a : Addr} {b : Array UInt8} {Q : Value → Shared → Prop} (N : News h₀ L s.heap news) (hm : (a, baObj b) ∈ news) (hz : b.size ≤ 1048576)
    (h : Q (.int b.size (s.toks + 1)) { s with toks := s.toks + 1 + 1 }) : wpAny (model prog w) A (call (.builtin "len") [.ref a]) Q E s := len_ba (N _ hm).1 hz h
noncomputable abbrev esT0 (P : Params) (k : Tks) (xL tl tr xS xC xG xK xW : Addr) : List DictEntry :=
  [e P "limits" (k 0) (.ref xL), e P "local" (k 1) (.ref tl), e P "remote" (k 2) (.ref tr), e P "state" (k 3) (T "closed" (k 14)), e P "sender" (k 4) (.ref xS), e P "receiver" (k 5) .none, e P "clock" (k 6) (.ref xC), e P "congestion" (k 7) (.ref xG), e P "acks" (k 8) (.ref xK), e P "wheel" (k 9) (.ref xW), e P "error" (k 10) .none, e P "probes" (k 11) (Z 0 (k 15)), e P "unanswered" (k 12) (Z 0 (k 16)), e P "is_nagle" (k 13) (.bool true)]
noncomputable abbrev esT (P : Params) (k : Tks) (xL tl tr xS xR xC xG xK xW : Addr) : List DictEntry :=
  [e P "limits" (k 0) (.ref xL), e P "local" (k 1) (.ref tl), e P "remote" (k 2) (.ref tr), e P "state" (k 3) (T "established" (k 14)), e P "sender" (k 4) (.ref xS), e P "receiver" (k 5) (.ref xR), e P "clock" (k 6) (.ref xC), e P "congestion" (k 7) (.ref xG), e P "acks" (k 8) (.ref xK), e P "wheel" (k 9) (.ref xW), e P "error" (k 10) .none, e P "probes" (k 11) (Z 0 (k 15)), e P "unanswered" (k 12) (Z 0 (k 16)), e P "is_nagle" (k 13) (.bool true)]
noncomputable abbrev esL (P : Params) (k : Tks) (mss : Int) : List DictEntry :=
  [e P "ring" (k 0) (Z 256 (k 10)), e P "mss" (k 1) (Z mss (k 11)), e P "send_room" (k 2) (Z 40 (k 12)), e P "receive_room" (k 3) (Z 16 (k 13)), e P "first_timeout" (k 4) (Z 5 (k 14)), e P "least_timeout" (k 5) (Z 2 (k 15)), e P "most_timeout" (k 6) (Z 60 (k 16)), e P "most_tries" (k 7) (Z 3 (k 17)), e P "ack_delay" (k 8) (Z 4 (k 18)), e P "time_wait" (k 9) (Z 4 (k 19))]
noncomputable abbrev esR (P : Params) (k : Tks) (mss nx ed : Int) (ba xA : Addr) : List DictEntry :=
  [e P "ring" (k 0) (Z 256 (k 10)), e P "room" (k 1) (Z 16 (k 11)), e P "mss" (k 2) (Z mss (k 12)), e P "next" (k 3) (Z nx (k 13)), e P "ready" (k 4) (.ref ba), e P "assembly" (k 5) (.ref xA), e P "told_edge" (k 6) (Z ed (k 14)), e P "fin_at" (k 7) .none, e P "has_fin" (k 8) (.bool false), e P "urgent_at" (k 9) .none]
noncomputable abbrev esS (P : Params) (k : Tks) (sp tp sq ak fl wi : Int) (pl : Array UInt8) : List DictEntry :=
  [e P "source_port" (k 0) (Z sp (k 9)), e P "target_port" (k 1) (Z tp (k 10)), e P "seq" (k 2) (Z sq (k 11)), e P "ack" (k 3) (Z ak (k 12)), e P "flags" (k 4) (Z fl (k 13)), e P "window" (k 5) (Z wi (k 14)), e P "urgent" (k 6) (Z 0 (k 15)), e P "options" (k 7) (.bytes #[] (k 16)), e P "payload" (k 8) (.bytes pl (k 17))]
noncomputable abbrev esK (P : Params) (k : Tks) (wt : Int) (due : Value) : List DictEntry :=
  [e P "delay" (k 0) (Z 4 (k 4)), e P "waiting" (k 1) (Z wt (k 5)), e P "due" (k 2) due, e P "has_gap" (k 3) (.bool false)]
noncomputable abbrev esQ (P : Params) (k : Tks) (hd : Array UInt8) : List DictEntry :=
  [e P "room" (k 0) (Z 40 (k 2)), e P "held" (k 1) (.bytes hd (k 3))]
noncomputable abbrev esN (P : Params) (k : Tks) (iss mss una snt gr : Int) (xP xQ : Addr) (sy : Bool) : List DictEntry :=
  [e P "iss" (k 0) (Z iss (k 11)), e P "ring" (k 1) (Z 256 (k 12)), e P "mss" (k 2) (Z mss (k 13)), e P "una" (k 3) (Z una (k 14)), e P "next" (k 4) (Z snt (k 15)), e P "greatest" (k 5) (Z gr (k 16)), e P "peer" (k 6) (.ref xP), e P "queue" (k 7) (.ref xQ), e P "syn_pending" (k 8) (.bool sy), e P "fin_asked" (k 9) (.bool false), e P "fin_sent" (k 10) (.bool false)]
noncomputable abbrev esA (P : Params) (k : Tks) (pl : Addr) : List DictEntry :=
  [e P "ring" (k 0) (Z 256 (k 2)), e P "parts" (k 1) (.ref pl)]
noncomputable abbrev esW (P : Params) (k : Tks) (gv : Int) (sl la en : Addr) : List DictEntry :=
  [e P "size" (k 0) (Z 16 (k 6)), e P "slots" (k 1) (.ref sl), e P "late" (k 2) (.ref la), e P "entries" (k 3) (.ref en), e P "reached" (k 4) .none, e P "given" (k 5) (Z gv (k 7))]
example : True := by
  k_with "call ref" => first | ((k_here; k_dflt ((with_reducible show wpAny _ _ (call (Value.ref 28) _) _ _ _); refine' use_cl (plus_s ?h0) ?k1 ?k2 ?k3 ?k4 ?k5 ?k6 ?k7 ?k8 ?_; k_extra "s prem"; (case h0 => k_extra "s hyp"); k_whole); (try dsimp only [Ret]); intro t9 h9 tk9 F9 N9; (try dsimp only); (try k_fold))) | fail "-"
  k_with "call ref" => first | ((k_here; k_dflt ((with_reducible show wpAny _ _ (call (Value.ref 35) _) _ _ _); refine' use_cl (distance_s ?h0) ?k1 ?k2 ?k3 ?k4 ?k5 ?k6 ?k7 ?k8 ?_; k_extra "s prem"; (case h0 => k_extra "s hyp"); k_whole); (try dsimp only [Ret]); intro t9 h9 tk9 F9 N9; (try dsimp only); (try k_fold))) | fail "-"
  k_with "call ref" => first | ((k_here; k_dflt ((with_reducible show wpAny _ _ (call (Value.ref 42) _) _ _ _); refine' use_cl (is_before_s ?h0) ?k1 ?k2 ?k3 ?k4 ?k5 ?k6 ?k7 ?k8 ?_; k_extra "s prem"; (case h0 => k_extra "s hyp"); k_whole); (try dsimp only [Ret]); intro t9 h9 tk9 F9 N9; (try dsimp only); (try k_fold))) | fail "-"
  k_with "call ref" => first | ((k_here; k_dflt ((with_reducible show wpAny _ _ (call (Value.ref 49) _) _ _ _); refine' use_cl (is_at_most_s ?h0) ?k1 ?k2 ?k3 ?k4 ?k5 ?k6 ?k7 ?k8 ?_; k_extra "s prem"; (case h0 => k_extra "s hyp"); k_whole); (try dsimp only [Ret]); intro t9 h9 tk9 F9 N9; (try dsimp only); (try k_fold))) | fail "-"
  k_with "call ref" => first | ((k_here; k_dflt ((with_reducible show wpAny _ _ (call (Value.ref 56) _) _ _ _); refine' use_cl (is_within_s ?h0) ?k1 ?k2 ?k3 ?k4 ?k5 ?k6 ?k7 ?k8 ?_; k_extra "s prem"; (case h0 => k_extra "s hyp"); k_whole); (try dsimp only [Ret]); intro t9 h9 tk9 F9 N9; (try dsimp only); (try k_fold))) | fail "-"
  k_with "call ref" => first | ((k_here; k_dflt ((with_reducible show wpAny _ _ (call (Value.ref 63) _) _ _ _); refine' use_cl (latest_s ?h0) ?k1 ?k2 ?k3 ?k4 ?k5 ?k6 ?k7 ?k8 ?_; k_extra "s prem"; (case h0 => k_extra "s hyp"); k_whole); (try dsimp only [Ret]); intro t9 h9 tk9 F9 N9; (try dsimp only); (try k_fold))) | fail "-"
  k_with "call ref" => first | ((k_here; k_dflt ((with_reducible show wpAny _ _ (call (Value.ref 70) _) _ _ _); refine' use_cl (is_acc_s ?h0) ?k1 ?k2 ?k3 ?k4 ?k5 ?k6 ?k7 ?k8 ?_; k_extra "s prem"; (case h0 => k_extra "s hyp"); k_whole); (try dsimp only [Ret]); intro t9 h9 tk9 F9 N9; (try dsimp only); (try k_fold))) | fail "-"
  trivial
theorem told_window_s {w : World} {news : Led} {k : Tks} {mss nx ed : Int} {ba xA x d : Addr} (hx : (x, instObj 303 d) ∈ news) (hd : (d, dictOf (esR w.params k mss nx ed ba xA) 10) ∈ news) :
    Cl 9 w 209 news [.ref x] fun h₀ L m s Q => Ret h₀ L m news s Q (fun t => .int (toldW nx ed) t) := by
  k_extra "s fill"
  intro dp un gd cn cs a0 ccd cl outer A₀ base h₀ L m s mg mb mean Q E B F X N T hke hd hu hret
  dsimp only [Ret] at hret
  k_extra "s start"
  all_goals (k_with "tree" => simp only [toldW])
  all_goals cb_end hret
theorem free_edge_s {w : World} {news : Led} {b : Array UInt8} {k : Tks} {mss nx ed : Int} {ba xA x d : Addr} (hx : (x, instObj 303 d) ∈ news) (hd : (d, dictOf (esR w.params k mss nx ed ba xA) 10) ∈ news) (hb : (ba, baObj b) ∈ news) (hz : b.size ≤ 1048576) :
    Cl 9 w 195 news [.ref x] fun h₀ L m s Q => Ret h₀ L m news s Q (fun t => .int (freeE nx b.size) t) := by
  k_extra "s fill"
  intro dp un gd cn cs a0 ccd cl outer A₀ base h₀ L m s mg mb mean Q E B F X N T hke hd hu hret
  dsimp only [Ret] at hret
  k_extra "s start"
  all_goals (k_with "tree" => simp only [freeE])
  all_goals cb_end hret
example : True := by
  k_with "call ref" => first | ((k_here; k_dflt ((with_reducible show wpAny _ _ (call (Value.ref 209) _) _ _ _); refine' use_cl (told_window_s (k := tokL [_, _, _, _, _, _, _, _, _, _, _, _, _, _, _]) ?h0 ?h1) ?k1 ?k2 ?k3 ?k4 ?k5 ?k6 ?k7 ?k8 ?_; k_extra "s prem"; (case h0 => k_extra "s hyp"); (case h1 => k_extra "s hyp"); k_whole); (try dsimp only [Ret]); intro t9 h9 tk9 F9 N9; (try dsimp only); (try k_fold))) | fail "-"
  k_with "call ref" => first | ((k_here; k_dflt ((with_reducible show wpAny _ _ (call (Value.ref 195) _) _ _ _); refine' use_cl (free_edge_s (k := tokL [_, _, _, _, _, _, _, _, _, _, _, _, _, _, _]) ?h0 ?h1 ?h2 ?h3) ?k1 ?k2 ?k3 ?k4 ?k5 ?k6 ?k7 ?k8 ?_; k_extra "s prem"; (case h0 => k_extra "s hyp"); (case h1 => k_extra "s hyp"); (case h2 => k_extra "s hyp"); (case h3 => k_extra "s hyp"); k_whole); (try dsimp only [Ret]); intro t9 h9 tk9 F9 N9; (try dsimp only); (try k_fold))) | fail "-"
  trivial
theorem should_tell_s {w : World} {news : Led} {b : Array UInt8} {ms : Int} {tm : Tok} {k : Tks} {mss nx ed : Int} {ba xA x d : Addr} (hx : (x, instObj 303 d) ∈ news) (hd : (d, dictOf (esR w.params k mss nx ed ba xA) 10) ∈ news) (hb : (ba, baObj b) ∈ news) (hz : b.size ≤ 1048576) :
    Cl 12 w 202 news [.ref x, .int ms tm] fun h₀ L m s Q => Ret h₀ L m news s Q (fun _ => .bool (shT ms nx ed b.size)) := by
  k_extra "s fill"
  intro dp un gd cn cs a0 ccd cl outer A₀ base h₀ L m s mg mb mean Q E B F X N T hke hd hu hret
  dsimp only [Ret] at hret
  k_extra "s start"
  all_goals (k_with "tree" => simp only [shT])
  all_goals cb_end hret
theorem length_16 {w : World} {news : Led} {k : Tks} {sp tp sq ak wi : Int} {pl : Array UInt8} {x d : Addr} (hx : (x, instObj 953 d) ∈ news) (hd : (d, dictOf (esS w.params k sp tp sq ak 16 wi pl) 9) ∈ news) (hz : pl.size ≤ 1048576) :
    Cl 9 w 943 news [.ref x] fun h₀ L m s Q => Ret h₀ L m news s Q (fun t => .int ((pl.size : Int)) t) := by
  k_extra "s fill"
  intro dp un gd cn cs a0 ccd cl outer A₀ base h₀ L m s mg mb mean Q E B F X N T hke hd hu hret
  dsimp only [Ret] at hret
  k_extra "s start"
  all_goals cb_end hret
theorem length_17 {w : World} {news : Led} {k : Tks} {sp tp sq ak wi : Int} {pl : Array UInt8} {x d : Addr} (hx : (x, instObj 953 d) ∈ news) (hd : (d, dictOf (esS w.params k sp tp sq ak 17 wi pl) 9) ∈ news) (hz : pl.size ≤ 1048576) :
    Cl 9 w 943 news [.ref x] fun h₀ L m s Q => Ret h₀ L m news s Q (fun t => .int ((pl.size : Int) + 1) t) := by
  k_extra "s fill"
  intro dp un gd cn cs a0 ccd cl outer A₀ base h₀ L m s mg mb mean Q E B F X N T hke hd hu hret
  dsimp only [Ret] at hret
  k_extra "s start"
  all_goals cb_end hret
noncomputable def lenOf (fl : Int) (n : Nat) : Int := if fl = 17 then (n : Int) + 1 else n
theorem length_s {w : World} {news : Led} {k : Tks} {sp tp sq ak fl wi : Int} {pl : Array UInt8} {x d : Addr} (hf : fl = 16 ∨ fl = 17) (hx : (x, instObj 953 d) ∈ news) (hd : (d, dictOf (esS w.params k sp tp sq ak fl wi pl) 9) ∈ news) (hz : pl.size ≤ 1048576) :
    Cl 9 w 943 news [.ref x] fun h₀ L m s Q => Ret h₀ L m news s Q (fun t => .int (lenOf fl pl.size) t) := by
  rcases hf with rfl | rfl
  · exact length_16 hx hd hz
  · exact length_17 hx hd hz
noncomputable def letIn (sq ln nx ed : Int) : Bool := if toldW nx ed = 0 ∧ sq = nx then true else isAcc sq ln nx (toldW nx ed) 256
example : True := by
  k_with "call ref" => first | ((k_here; k_dflt ((with_reducible show wpAny _ _ (call (Value.ref 943) _) _ _ _); refine' use_cl (length_s ?h0 ?h1 ?h2 ?h3) ?k1 ?k2 ?k3 ?k4 ?k5 ?k6 ?k7 ?k8 ?_; k_extra "s prem"; (case h0 => k_extra "s hyp"); (case h1 => k_extra "s hyp"); (case h2 => k_extra "s hyp"); (case h3 => k_extra "s hyp"); k_whole); (try dsimp only [Ret]); intro t9 h9 tk9 F9 N9; (try dsimp only); (try k_fold))) | fail "-"
  trivial
theorem is_let_in_s {w : World} {news : Led} {xT yT yL xR yR xg yg xL tl tr xS xC xG xK xW ba xA : Addr} {mss nx ed sp tp sq ak fl wi : Int} {pl : Array UInt8} {kT kL kR kS : Tks} (hf : fl = 16 ∨ fl = 17)
    (h0 : (xT, instObj 1098 yT) ∈ news) (h1 : (yT, dictOf (esT w.params kT xL tl tr xS xR xC xG xK xW) 14) ∈ news) (h2 : (xL, instObj 1055 yL) ∈ news) (h3 : (yL, dictOf (esL w.params kL mss) 10) ∈ news) (h4 : (xR, instObj 303 yR) ∈ news)
    (h5 : (yR, dictOf (esR w.params kR mss nx ed ba xA) 10) ∈ news) (h6 : (xg, instObj 953 yg) ∈ news) (h7 : (yg, dictOf (esS w.params kS sp tp sq ak fl wi pl) 9) ∈ news) (h8 : pl.size ≤ 1048576) :
    Cl 15 w 77 news [.ref xT, .ref xg] fun h₀ L m s Q => Ret h₀ L m news s Q (fun _ => .bool (letIn sq (lenOf fl pl.size) nx ed)) := by
  k_extra "s fill"
  intro dp un gd cn cs a0 ccd cl outer A₀ base h₀ L m s mg mb mean Q E B F X N T hke hd hu hret
  dsimp only [Ret] at hret
  k_extra "s start"
  all_goals (k_with "tree" => simp only [letIn])
  all_goals cb_end hret
example : True := by
  trivial
noncomputable abbrev ackL (w : World) (x d : Addr) (k : Tks) (wt : Int) (due : Value) : Led := [(x, instObj 360 d), (d, dictOf (esK w.params k wt due) 4)]
noncomputable abbrev queL (w : World) (x d : Addr) (k : Tks) (hd : Array UInt8) : Led := [(x, instObj 677 d), (d, dictOf (esQ w.params k hd) 2)]
noncomputable abbrev limL (w : World) (x d : Addr) (k : Tks) (mss : Int) : Led := [(x, instObj 1055 d), (d, dictOf (esL w.params k mss) 10)]
noncomputable abbrev segL (w : World) (x d : Addr) (k : Tks) (sp tp sq ak fl wi : Int) (pl : Array UInt8) : Led := [(x, instObj 953 d), (d, dictOf (esS w.params k sp tp sq ak fl wi pl) 9)]
noncomputable abbrev sndD (w : World) (x d : Addr) (k : Tks) (iss mss una snt gr : Int) (xP xQ : Addr) (sy : Bool) : Led := [(x, instObj 903 d), (d, dictOf (esN w.params k iss mss una snt gr xP xQ sy) 11)]
noncomputable abbrev asmL (w : World) (x d pl : Addr) (k : Tks) (e0 : Nat) : Led := [(x, instObj 169 d), (d, dictOf (esA w.params k pl) 2), (pl, listOf #[] e0)]
theorem lim_init {w : World} {x dx : Addr} {ms : Int} {t0 t1 t2 t3 t4 t5 t6 t7 t8 t9 : Tok} :
    ClM 9 w 1052 ((x, instObj 1055 dx) :: (dx, dictOf [] 0) :: []) [.ref x, .int 256 t0, .int ms t1, .int 40 t2, .int 16 t3, .int 5 t4, .int 2 t5, .int 60 t6, .int 3 t7, .int 4 t8, .int 4 t9] fun v l => v = .none ∧ ∃ k : Tks, l = limL w x dx k ms := by
  k_extra "s fill"
  intro dp un gd cn cs a0 ccd cl outer A₀ base h₀ L m s mg mb mean Q rest B F X N hnd T hke hd hu hret
  all_goals (k_dflt (refine' enterM (binds := [(Mine.s "self", .ref x), (Mine.s "ring", .int 256 t0), (Mine.s "mss", .int ms t1), (Mine.s "send_room", .int 40 t2), (Mine.s "receive_room", .int 16 t3), (Mine.s "first_timeout", .int 5 t4), (Mine.s "least_timeout", .int 2 t5), (Mine.s "most_timeout", .int 60 t6), (Mine.s "most_tries", .int 3 t7), (Mine.s "ack_delay", .int 4 t8), (Mine.s "time_wait", .int 4 t9)]) ?k1 ?k2 ?k3 ?k4 ?kn ?k5 ?kA ?kF ?kK ?k6 ?k7 ?k8 ?k9 ?kB ?kR ?_ ?c2 ?c3 ?c4 ?c5; k_extra "s premM"); intro g' L' h' F' N' Nd' B' X' T'; (try dsimp only [List.cons_append, List.nil_append] at N'); (try dsimp only [List.cons_append, List.nil_append, Nd, List.map] at Nd'); (try dsimp only); (try k_fold))
  all_goals k_steps
  all_goals ((try dsimp only); refine' endMS ?F ?N ?nd ?sp ⟨rfl, tokL [_, _, _, _, _, _, _, _, _, _, _, _, _, _, _, _, _, _, _, _], rfl⟩; (case F => k_asm); (case N => k_asm); (case sp => k_extra "s take"); (case nd => k_extra "s nd"); skip)
theorem ack_init {w : World} {x dx : Addr} {t0 : Tok} :
    ClM 9 w 321 ((x, instObj 360 dx) :: (dx, dictOf [] 0) :: []) [.ref x, .int 4 t0] fun v l => v = .none ∧ ∃ k : Tks, l = ackL w x dx k 0 .none := by
  k_extra "s fill"
  intro dp un gd cn cs a0 ccd cl outer A₀ base h₀ L m s mg mb mean Q rest B F X N hnd T hke hd hu hret
  all_goals (k_dflt (refine' enterM (binds := [(Mine.s "self", .ref x), (Mine.s "delay", .int 4 t0)]) ?k1 ?k2 ?k3 ?k4 ?kn ?k5 ?kA ?kF ?kK ?k6 ?k7 ?k8 ?k9 ?kB ?kR ?_ ?c2 ?c3 ?c4 ?c5; k_extra "s premM"); intro g' L' h' F' N' Nd' B' X' T'; (try dsimp only [List.cons_append, List.nil_append] at N'); (try dsimp only [List.cons_append, List.nil_append, Nd, List.map] at Nd'); (try dsimp only); (try k_fold))
  all_goals k_steps
  all_goals ((try dsimp only); refine' endMS ?F ?N ?nd ?sp ⟨rfl, tokL [_, _, _, _, _, _], rfl⟩; (case F => k_asm); (case N => k_asm); (case sp => k_extra "s take"); (case nd => k_extra "s nd"); skip)
theorem cong_init {w : World} {x dx : Addr} {a b c : Int} {t0 t1 t2 : Tok} :
    ClM 9 w 378 ((x, instObj 444 dx) :: (dx, dictOf [] 0) :: []) [.ref x, .int a t0, .int b t1, .int c t2] fun v l => v = .none ∧ l = [] := by
  k_extra "s fill"
  intro dp un gd cn cs a0 ccd cl outer A₀ base h₀ L m s mg mb mean Q rest B F X N hnd T hke hd hu hret
  all_goals (k_dflt (refine' enterM (binds := [(Mine.s "self", .ref x), (Mine.s "mss", .int a t0), (Mine.s "first", .int b t1), (Mine.s "most", .int c t2)]) ?k1 ?k2 ?k3 ?k4 ?kn ?k5 ?kA ?kF ?kK ?k6 ?k7 ?k8 ?k9 ?kB ?kR ?_ ?c2 ?c3 ?c4 ?c5; k_extra "s premM"); intro g' L' h' F' N' Nd' B' X' T'; (try dsimp only [List.cons_append, List.nil_append] at N'); (try dsimp only [List.cons_append, List.nil_append, Nd, List.map] at Nd'); (try dsimp only); (try k_fold))
  all_goals k_steps
  all_goals ((try dsimp only); refine' endMS ?F ?N ?nd ?sp ⟨rfl, rfl⟩; (case F => k_asm); (case N => k_asm); (case sp => k_extra "s take"); (case nd => k_extra "s nd"); skip)
theorem que_init {w : World} {x dx : Addr} {t0 : Tok} :
    ClM 9 w 639 ((x, instObj 677 dx) :: (dx, dictOf [] 0) :: []) [.ref x, .int 40 t0] fun v l => v = .none ∧ ∃ k : Tks, l = queL w x dx k #[] := by
  k_extra "s fill"
  intro dp un gd cn cs a0 ccd cl outer A₀ base h₀ L m s mg mb mean Q rest B F X N hnd T hke hd hu hret
  all_goals (k_dflt (refine' enterM (binds := [(Mine.s "self", .ref x), (Mine.s "room", .int 40 t0)]) ?k1 ?k2 ?k3 ?k4 ?kn ?k5 ?kA ?kF ?kK ?k6 ?k7 ?k8 ?k9 ?kB ?kR ?_ ?c2 ?c3 ?c4 ?c5; k_extra "s premM"); intro g' L' h' F' N' Nd' B' X' T'; (try dsimp only [List.cons_append, List.nil_append] at N'); (try dsimp only [List.cons_append, List.nil_append, Nd, List.map] at Nd'); (try dsimp only); (try k_fold))
  all_goals k_steps
  all_goals ((try dsimp only); refine' endMS ?F ?N ?nd ?sp ⟨rfl, tokL [_, _, _, _], rfl⟩; (case F => k_asm); (case N => k_asm); (case sp => k_extra "s take"); (case nd => k_extra "s nd"); skip)
theorem seg_init {w : World} {x dx : Addr} {sp tp sq ak fl wi : Int} {pl : Array UInt8} {t0 t1 t2 t3 t4 t5 t6 t7 t8 : Tok} :
    ClM 9 w 929 ((x, instObj 953 dx) :: (dx, dictOf [] 0) :: []) [.ref x, .int sp t0, .int tp t1, .int sq t2, .int ak t3, .int fl t4, .int wi t5, .int 0 t6, .bytes #[] t7, .bytes pl t8] fun v l => v = .none ∧ ∃ k : Tks, l = segL w x dx k sp tp sq ak fl wi pl := by
  k_extra "s fill"
  intro dp un gd cn cs a0 ccd cl outer A₀ base h₀ L m s mg mb mean Q rest B F X N hnd T hke hd hu hret
  all_goals (k_dflt (refine' enterM (binds := [(Mine.s "self", .ref x), (Mine.s "source_port", .int sp t0), (Mine.s "target_port", .int tp t1), (Mine.s "seq", .int sq t2), (Mine.s "ack", .int ak t3), (Mine.s "flags", .int fl t4), (Mine.s "window", .int wi t5), (Mine.s "urgent", .int 0 t6), (Mine.s "options", .bytes #[] t7), (Mine.s "payload", .bytes pl t8)]) ?k1 ?k2 ?k3 ?k4 ?kn ?k5 ?kA ?kF ?kK ?k6 ?k7 ?k8 ?k9 ?kB ?kR ?_ ?c2 ?c3 ?c4 ?c5; k_extra "s premM"); intro g' L' h' F' N' Nd' B' X' T'; (try dsimp only [List.cons_append, List.nil_append] at N'); (try dsimp only [List.cons_append, List.nil_append, Nd, List.map] at Nd'); (try dsimp only); (try k_fold))
  all_goals k_steps
  all_goals ((try dsimp only); refine' endMS ?F ?N ?nd ?sp ⟨rfl, tokL [_, _, _, _, _, _, _, _, _, _, _, _, _, _, _, _, _, _], rfl⟩; (case F => k_asm); (case N => k_asm); (case sp => k_extra "s take"); (case nd => k_extra "s nd"); skip)
theorem asm_init {w : World} {x dx : Addr} {t0 : Tok} :
    ClM 9 w 91 ((x, instObj 169 dx) :: (dx, dictOf [] 0) :: []) [.ref x, .int 256 t0] fun v l => v = .none ∧ ∃ (pl : Addr) (k : Tks), l = asmL w x dx pl k 0 := by
  k_extra "s fill"
  intro dp un gd cn cs a0 ccd cl outer A₀ base h₀ L m s mg mb mean Q rest B F X N hnd T hke hd hu hret
  all_goals (k_dflt (refine' enterM (binds := [(Mine.s "self", .ref x), (Mine.s "ring", .int 256 t0)]) ?k1 ?k2 ?k3 ?k4 ?kn ?k5 ?kA ?kF ?kK ?k6 ?k7 ?k8 ?k9 ?kB ?kR ?_ ?c2 ?c3 ?c4 ?c5; k_extra "s premM"); intro g' L' h' F' N' Nd' B' X' T'; (try dsimp only [List.cons_append, List.nil_append] at N'); (try dsimp only [List.cons_append, List.nil_append, Nd, List.map] at Nd'); (try dsimp only); (try k_fold))
  all_goals k_steps
  all_goals ((try dsimp only); refine' endMS ?F ?N ?nd ?sp ⟨rfl, _, tokL [_, _, _], rfl⟩; (case F => k_asm); (case N => k_asm); (case sp => k_extra "s take"); (case nd => k_extra "s nd"); skip)
theorem rtt_init {w : World} {x dx : Addr} {a b c : Int} {t0 t1 t2 : Tok} :
    ClM 9 w 539 ((x, instObj 577 dx) :: (dx, dictOf [] 0) :: []) [.ref x, .int a t0, .int b t1, .int c t2] fun v l => v = .none ∧ l = [] := by
  k_extra "s fill"
  intro dp un gd cn cs a0 ccd cl outer A₀ base h₀ L m s mg mb mean Q rest B F X N hnd T hke hd hu hret
  all_goals (k_dflt (refine' enterM (binds := [(Mine.s "self", .ref x), (Mine.s "first", .int a t0), (Mine.s "least", .int b t1), (Mine.s "most", .int c t2)]) ?k1 ?k2 ?k3 ?k4 ?kn ?k5 ?kA ?kF ?kK ?k6 ?k7 ?k8 ?k9 ?kB ?kR ?_ ?c2 ?c3 ?c4 ?c5; k_extra "s premM"); intro g' L' h' F' N' Nd' B' X' T'; (try dsimp only [List.cons_append, List.nil_append] at N'); (try dsimp only [List.cons_append, List.nil_append, Nd, List.map] at Nd'); (try dsimp only); (try k_fold))
  all_goals k_steps
  all_goals ((try dsimp only); refine' endMS ?F ?N ?nd ?sp ⟨rfl, rfl⟩; (case F => k_asm); (case N => k_asm); (case sp => k_extra "s take"); (case nd => k_extra "s nd"); skip)
theorem rck_init {w : World} {x dx : Addr} {es : Addr} {a : Int} {t0 : Tok} :
    ClM 9 w 462 ((x, instObj 521 dx) :: (dx, dictOf [] 0) :: []) [.ref x, .ref es, .int a t0] fun v l => v = .none ∧ l = [] := by
  k_extra "s fill"
  intro dp un gd cn cs a0 ccd cl outer A₀ base h₀ L m s mg mb mean Q rest B F X N hnd T hke hd hu hret
  all_goals (k_dflt (refine' enterM (binds := [(Mine.s "self", .ref x), (Mine.s "estimate", .ref es), (Mine.s "most_tries", .int a t0)]) ?k1 ?k2 ?k3 ?k4 ?kn ?k5 ?kA ?kF ?kK ?k6 ?k7 ?k8 ?k9 ?kB ?kR ?_ ?c2 ?c3 ?c4 ?c5; k_extra "s premM"); intro g' L' h' F' N' Nd' B' X' T'; (try dsimp only [List.cons_append, List.nil_append] at N'); (try dsimp only [List.cons_append, List.nil_append, Nd, List.map] at Nd'); (try dsimp only); (try k_fold))
  all_goals k_steps
  all_goals ((try dsimp only); refine' endMS ?F ?N ?nd ?sp ⟨rfl, rfl⟩; (case F => k_asm); (case N => k_asm); (case sp => k_extra "s take"); (case nd => k_extra "s nd"); skip)
example : True := by
  k_with "call ref" => first | ((k_here; k_dflt ((with_reducible show wpAny _ _ (call (Value.ref 577) _) _ _ _); refine' use_cls (fun x dx => rtt_init ) ?k1 ?k2 ?k3 ?k4 ?kn ?ks ?k5 ?k6 ?k7 ?k8 ?km ?ki ?kf ?_; k_extra "s premU"; (case km => k_is); (case ki => k_is); (case kf => k_is);  k_whole); intro x' dx' news' h' tk' F' N' Nd' HP; (try dsimp only at HP); subst HP; (try dsimp only [List.cons_append, List.nil_append] at N'); (try dsimp only [List.cons_append, List.nil_append, Nd, List.map] at Nd');  (try k_sweep); (try dsimp only); (try k_fold))) | fail "-"
  k_with "call ref" => first | ((k_here; k_dflt ((with_reducible show wpAny _ _ (call (Value.ref 521) _) _ _ _); refine' use_cls (fun x dx => rck_init ) ?k1 ?k2 ?k3 ?k4 ?kn ?ks ?k5 ?k6 ?k7 ?k8 ?km ?ki ?kf ?_; k_extra "s premU"; (case km => k_is); (case ki => k_is); (case kf => k_is);  k_whole); intro x' dx' news' h' tk' F' N' Nd' HP; (try dsimp only at HP); subst HP; (try dsimp only [List.cons_append, List.nil_append] at N'); (try dsimp only [List.cons_append, List.nil_append, Nd, List.map] at Nd');  (try k_sweep); (try dsimp only); (try k_fold))) | fail "-"
  trivial
theorem clock_s {w : World} {x dx : Addr} {k : Tks} {ms : Int} : ClM 15 w 1066 (limL w x dx k ms) [.ref x] fun v l => (∃ a, v = .ref a) ∧ l = limL w x dx k ms := by
  k_extra "s fill"
  intro dp un gd cn cs a0 ccd cl outer A₀ base h₀ L m s mg mb mean Q rest B F X N hnd T hke hd hu hret
  all_goals (k_dflt (refine' enterM (binds := [(Mine.s "limits", .ref x)]) ?k1 ?k2 ?k3 ?k4 ?kn ?k5 ?kA ?kF ?kK ?k6 ?k7 ?k8 ?k9 ?kB ?kR ?_ ?c2 ?c3 ?c4 ?c5; k_extra "s premM"); intro g' L' h' F' N' Nd' B' X' T'; (try dsimp only [limL, List.cons_append, List.nil_append] at N'); (try dsimp only [limL, List.cons_append, List.nil_append, Nd, List.map] at Nd'); (try dsimp only); (try k_fold))
  all_goals k_steps
  all_goals ((try dsimp only); refine' endMS ?F ?N ?nd ?sp ⟨⟨_, rfl⟩, rfl⟩; (case F => k_asm); (case N => k_asm); (case sp => k_extra "s take"); (case nd => k_extra "s nd"); skip)
theorem peer_init {w : World} {x dx : Addr} {t0 : Tok} :
    ClM 9 w 695 ((x, instObj 712 dx) :: (dx, dictOf [] 0) :: []) [.ref x, .int 256 t0] fun v l => v = .none ∧ l = [] := by
  k_extra "s fill"
  intro dp un gd cn cs a0 ccd cl outer A₀ base h₀ L m s mg mb mean Q rest B F X N hnd T hke hd hu hret
  all_goals (k_dflt (refine' enterM (binds := [(Mine.s "self", .ref x), (Mine.s "ring", .int 256 t0)]) ?k1 ?k2 ?k3 ?k4 ?kn ?k5 ?kA ?kF ?kK ?k6 ?k7 ?k8 ?k9 ?kB ?kR ?_ ?c2 ?c3 ?c4 ?c5; k_extra "s premM"); intro g' L' h' F' N' Nd' B' X' T'; (try dsimp only [List.cons_append, List.nil_append] at N'); (try dsimp only [List.cons_append, List.nil_append, Nd, List.map] at Nd'); (try dsimp only); (try k_fold))
  all_goals k_steps
  all_goals ((try dsimp only); refine' endMS ?F ?N ?nd ?sp ⟨rfl, rfl⟩; (case F => k_asm); (case N => k_asm); (case sp => k_extra "s take"); (case nd => k_extra "s nd"); skip)
example : True := by
  trivial
example : True := by
  trivial
theorem go_on_s {w : World} {x d xP xQ : Addr} {k : Tks} {iss mss una snt gr : Int} {sy : Bool} {many : Int} {t : Tok} : ClM 15 w 815 (sndD w x d k iss mss una snt gr xP xQ sy) [.ref x, .int many t] fun v l => v = .none ∧ ∃ k' : Tks, l = sndD w x d k' iss mss una (Int.fmod (snt + many) 256) (lateI gr (Int.fmod (snt + many) 256) 256) xP xQ sy := by
  k_extra "s fill"
  intro dp un gd cn cs a0 ccd cl outer A₀ base h₀ L m s mg mb mean Q rest B F X N hnd T hke hd hu hret
  all_goals (k_dflt (refine' enterM (binds := [(Mine.s "self", .ref x), (Mine.s "many", .int many t)]) ?k1 ?k2 ?k3 ?k4 ?kn ?k5 ?kA ?kF ?kK ?k6 ?k7 ?k8 ?k9 ?kB ?kR ?_ ?c2 ?c3 ?c4 ?c5; k_extra "s premM"); intro g' L' h' F' N' Nd' B' X' T'; (try dsimp only [sndD, List.cons_append, List.nil_append] at N'); (try dsimp only [sndD, List.cons_append, List.nil_append, Nd, List.map] at Nd'); (try dsimp only); (try k_fold))
  all_goals k_steps
  all_goals ((try dsimp only); refine' endMS ?F ?N ?nd ?sp ⟨rfl, tokL [_, _, _, _, _, _, _, _, _, _, _, _, _, _, _, _, _], rfl⟩; (case F => k_asm); (case N => k_asm); (case sp => k_extra "s take"); (case nd => k_extra "s nd"); skip)
theorem back_to_s {w : World} {x d xP xQ : Addr} {k : Tks} {iss mss una snt gr : Int} {sy : Bool} {sq : Int} {t : Tok} (h1 : Int.fmod (sq - una) 256 ≤ Int.fmod (snt - una) 256) : ClM 12 w 872 (sndD w x d k iss mss una snt gr xP xQ sy) [.ref x, .int sq t] fun v l => v = .none ∧ ∃ k' : Tks, l = sndD w x d k' iss mss una sq gr xP xQ sy := by
  k_extra "s fill"
  intro dp un gd cn cs a0 ccd cl outer A₀ base h₀ L m s mg mb mean Q rest B F X N hnd T hke hd hu hret
  all_goals (k_dflt (refine' enterM (binds := [(Mine.s "self", .ref x), (Mine.s "seq", .int sq t)]) ?k1 ?k2 ?k3 ?k4 ?kn ?k5 ?kA ?kF ?kK ?k6 ?k7 ?k8 ?k9 ?kB ?kR ?_ ?c2 ?c3 ?c4 ?c5; k_extra "s premM"); intro g' L' h' F' N' Nd' B' X' T'; (try dsimp only [sndD, List.cons_append, List.nil_append] at N'); (try dsimp only [sndD, List.cons_append, List.nil_append, Nd, List.map] at Nd'); (try dsimp only); (try k_fold))
  all_goals k_steps
  all_goals ((try dsimp only); refine' endMS ?F ?N ?nd ?sp ⟨rfl, tokL [_, _, _, _, _, _, _, _, _, _, _, _, _, _, _, _, _], rfl⟩; (case F => k_asm); (case N => k_asm); (case sp => k_extra "s take"); (case nd => k_extra "s nd"); skip)
example : True := by
  k_with "call ref" => first | ((k_here; k_dflt ((with_reducible show wpAny _ _ (call (Value.ref 712) _) _ _ _); refine' use_cls (fun x dx => peer_init ) ?k1 ?k2 ?k3 ?k4 ?kn ?ks ?k5 ?k6 ?k7 ?k8 ?km ?ki ?kf ?_; k_extra "s premU"; (case km => k_is); (case ki => k_is); (case kf => k_is);  k_whole); intro x' dx' news' h' tk' F' N' Nd' HP; (try dsimp only at HP); subst HP; (try dsimp only [List.cons_append, List.nil_append] at N'); (try dsimp only [List.cons_append, List.nil_append, Nd, List.map] at Nd');  (try k_sweep); (try dsimp only); (try k_fold))) | fail "-"
  k_with "call ref" => first | ((k_here; k_dflt ((with_reducible show wpAny _ _ (call (Value.ref 677) _) _ _ _); refine' use_cls (fun x dx => que_init ) ?k1 ?k2 ?k3 ?k4 ?kn ?ks ?k5 ?k6 ?k7 ?k8 ?km ?ki ?kf ?_; k_extra "s premU"; (case km => k_is); (case ki => k_is); (case kf => k_is);  k_whole); intro x' dx' news' h' tk' F' N' Nd' HP; k_dflt (obtain ⟨kq', rfl⟩ := HP); (try dsimp only [queL, List.cons_append, List.nil_append] at N'); (try dsimp only [queL, List.cons_append, List.nil_append, Nd, List.map] at Nd');  (try k_sweep); (try dsimp only); (try k_fold))) | fail "-"
  trivial
theorem snd_init {w : World} {x dx : Addr} {iss mss : Int} {t0 t1 t2 t3 : Tok} :
    ClM 15 w 730 ((x, instObj 903 dx) :: (dx, dictOf [] 0) :: []) [.ref x, .int iss t0, .int 256 t1, .int mss t2, .int 40 t3] fun v l => v = .none ∧ ∃ (xP xQ yQ : Addr) (k kq : Tks), l = sndD w x dx k iss mss iss iss iss xP xQ true ++ queL w xQ yQ kq #[] := by
  k_extra "s fill"
  intro dp un gd cn cs a0 ccd cl outer A₀ base h₀ L m s mg mb mean Q rest B F X N hnd T hke hd hu hret
  all_goals (k_dflt (refine' enterM (binds := [(Mine.s "self", .ref x), (Mine.s "iss", .int iss t0), (Mine.s "ring", .int 256 t1), (Mine.s "mss", .int mss t2), (Mine.s "room", .int 40 t3)]) ?k1 ?k2 ?k3 ?k4 ?kn ?k5 ?kA ?kF ?kK ?k6 ?k7 ?k8 ?k9 ?kB ?kR ?_ ?c2 ?c3 ?c4 ?c5; k_extra "s premM"); intro g' L' h' F' N' Nd' B' X' T'; (try dsimp only [List.cons_append, List.nil_append] at N'); (try dsimp only [List.cons_append, List.nil_append, Nd, List.map] at Nd'); (try dsimp only); (try k_fold))
  all_goals k_steps
  all_goals ((try dsimp only); refine' endMS ?F ?N ?nd ?sp ⟨rfl, _, _, _, tokL [_, _, _, _, _, _, _, _, _, _, _, _, _, _, _, _, _], tokL [_, _, _, _], rfl⟩; (case F => k_asm); (case N => k_asm); (case sp => k_extra "s take"); (case nd => k_extra "s nd"); skip)
example : True := by
  k_with "call ref" => first | ((k_here; k_dflt ((with_reducible show wpAny _ _ (call (Value.ref 815) _) _ _ _); refine' use_clm (go_on_s ) ?k1 ?k2 ?k3 ?k4 ?kn ?ks ?k5 ?k6 ?k7 ?k8 ?_;  k_extra "s premU";  k_whole); intro v' news' h' tk' F' N' Nd' HP; k_dflt (obtain ⟨rfl, k', rfl⟩ := HP); (try dsimp only [sndD, List.cons_append, List.nil_append] at N'); (try dsimp only [sndD, List.cons_append, List.nil_append, Nd, List.map] at Nd');  (try k_sweep); (try dsimp only); (try k_fold))) | fail "-"
  trivial
theorem start_s {w : World} {x d xP xQ : Addr} {k : Tks} {iss mss : Int} : ClM 20 w 822 (sndD w x d k iss mss iss iss iss xP xQ true) [.ref x] fun v l => (∃ t, v = .int iss t) ∧ ∃ k' : Tks, l = sndD w x d k' iss mss iss (Int.fmod (iss + 1) 256) (lateI iss (Int.fmod (iss + 1) 256) 256) xP xQ true := by
  k_extra "s fill"
  intro dp un gd cn cs a0 ccd cl outer A₀ base h₀ L m s mg mb mean Q rest B F X N hnd T hke hd hu hret
  all_goals (k_dflt (refine' enterM (binds := [(Mine.s "self", .ref x)]) ?k1 ?k2 ?k3 ?k4 ?kn ?k5 ?kA ?kF ?kK ?k6 ?k7 ?k8 ?k9 ?kB ?kR ?_ ?c2 ?c3 ?c4 ?c5; k_extra "s premM"); intro g' L' h' F' N' Nd' B' X' T'; (try dsimp only [sndD, List.cons_append, List.nil_append] at N'); (try dsimp only [sndD, List.cons_append, List.nil_append, Nd, List.map] at Nd'); (try dsimp only); (try k_fold))
  all_goals k_steps
  all_goals (try (exfalso; omega))
  all_goals ((try dsimp only); refine' endMS ?F ?N ?nd ?sp ⟨⟨_, rfl⟩, tokL [_, _, _, _, _, _, _, _, _, _, _, _, _, _, _, _, _], rfl⟩; (case F => k_asm); (case N => k_asm); (case sp => k_extra "s take"); (case nd => k_extra "s nd"); skip)
example : True := by
  trivial
noncomputable abbrev slotsO (A : Tks) : Obj := listOf #[.ref (A 0), .ref (A 1), .ref (A 2), .ref (A 3), .ref (A 4), .ref (A 5), .ref (A 6), .ref (A 7), .ref (A 8), .ref (A 9), .ref (A 10), .ref (A 11), .ref (A 12), .ref (A 13), .ref (A 14), .ref (A 15)] (A 16)
noncomputable abbrev wheH (w : World) (x d : Addr) (k : Tks) (gv : Int) (sl la en : Addr) : Led := [(x, instObj 1034 d), (d, dictOf (esW w.params k gv sl la en) 6)]
noncomputable abbrev offT (sl la en : Addr) (A : Tks) (oE : Obj) : Led := [(sl, slotsO A), (la, listOf #[] (A 17)), (en, oE), (A 2, listOf #[] (A 18))]
noncomputable abbrev onT (sl la en : Addr) (A : Tks) (oE : Obj) (tp : Addr) (t4 t5 t6 : Tok) (g5 : Int) : Led := [(sl, slotsO A), (la, listOf #[] (A 17)), (en, oE), (A 2, listOf #[.int 3 t4] (A 18)), (tp, { cls := .type "tuple", data := .seq #[.int 50 t5, .int g5 t6] })]
noncomputable abbrev EntOff (w : World) (en : Addr) (oE : Obj) : Prop := oE.IsDictOf (PySem.intKind pw w) [] ∧ (en == sysModules) = false
noncomputable abbrev EntOn (w : World) (en : Addr) (oE : Obj) (tp : Addr) : Prop := oE.IsDictOf (PySem.intKind pw w) [(3, .ref tp)] ∧ (en == sysModules) = false
example : True := by
  trivial
theorem cancel_off {w : World} {x d : Addr} {k A : Tks} {gv : Int} {sl la en : Addr} {oE : Obj} {t : Tok} (hE : EntOff w en oE) : ClM 9 w 1005 (wheH w x d k gv sl la en ++ offT sl la en A oE) [.ref x, .int 3 t] fun v l => v = .none ∧ ∃ (A : Tks) (oE : Obj), EntOff w en oE ∧ l = wheH w x d k gv sl la en ++ offT sl la en A oE := by
  obtain ⟨hE, hsm⟩ := hE
  k_extra "s fill"
  intro dp un gd cn cs a0 ccd cl outer A₀ base h₀ L m s mg mb mean Q rest B F X N hnd T hke hd hu hret
  all_goals (k_dflt (refine' enterM (binds := [(Mine.s "self", .ref x), (Mine.s "key", .int 3 t)]) ?k1 ?k2 ?k3 ?k4 ?kn ?k5 ?kA ?kF ?kK ?k6 ?k7 ?k8 ?k9 ?kB ?kR ?_ ?c2 ?c3 ?c4 ?c5; k_extra "s premM"); intro g' L' h' F' N' Nd' B' X' T'; (try dsimp only [wheH, offT, onT, slotsO, List.cons_append, List.nil_append] at N'); (try dsimp only [wheH, offT, onT, slotsO, List.cons_append, List.nil_append, Nd, List.map] at Nd'); (try dsimp only); (try k_fold))
  all_goals k_steps
  all_goals ((try dsimp only); refine' endMS ?F ?N ?nd ?sp ⟨rfl, tokL [_, _, _, _, _, _, _, _, _, _, _, _, _, _, _, _, _, _, _], _, ⟨?zp, ?zq⟩, rfl⟩; (case F => k_asm); (case N => k_asm); (case sp => k_extra "s take"); (case nd => k_extra "s nd"); (case zp => assumption); (case zq => assumption); skip)
theorem cancel_on {w : World} {x d : Addr} {k A : Tks} {gv : Int} {sl la en : Addr} {oE : Obj} {t : Tok} {t4 t5 t6 : Tok} {tp : Addr} {g5 : Int} (hE : EntOn w en oE tp) : ClM 9 w 1005 (wheH w x d k gv sl la en ++ onT sl la en A oE tp t4 t5 t6 g5) [.ref x, .int 3 t] fun v l => v = .none ∧ ∃ (A : Tks) (oE : Obj), EntOff w en oE ∧ l = wheH w x d k gv sl la en ++ offT sl la en A oE := by
  obtain ⟨hE, hsm⟩ := hE
  k_extra "s fill"
  intro dp un gd cn cs a0 ccd cl outer A₀ base h₀ L m s mg mb mean Q rest B F X N hnd T hke hd hu hret
  all_goals (k_dflt (refine' enterM (binds := [(Mine.s "self", .ref x), (Mine.s "key", .int 3 t)]) ?k1 ?k2 ?k3 ?k4 ?kn ?k5 ?kA ?kF ?kK ?k6 ?k7 ?k8 ?k9 ?kB ?kR ?_ ?c2 ?c3 ?c4 ?c5; k_extra "s premM"); intro g' L' h' F' N' Nd' B' X' T'; (try dsimp only [wheH, offT, onT, slotsO, List.cons_append, List.nil_append] at N'); (try dsimp only [wheH, offT, onT, slotsO, List.cons_append, List.nil_append, Nd, List.map] at Nd'); (try dsimp only); (try k_fold))
  all_goals k_steps
  all_goals ((try dsimp only); refine' endMS ?F ?N ?nd ?sp ⟨rfl, tokL [_, _, _, _, _, _, _, _, _, _, _, _, _, _, _, _, _, _, _], _, ⟨?zp, ?zq⟩, rfl⟩; (case F => k_asm); (case N => k_asm); (case sp => k_extra "s take"); (case nd => k_extra "s nd"); (case zp => assumption); (case zq => assumption); skip)
/-- the wheel's own objects: nothing in it, or the one key -/
noncomputable def WheT (w : World) (sl la en : Addr) (on : Bool) (l : Led) : Prop := match on with
  | false => ∃ (A : Tks) (oE : Obj), EntOff w en oE ∧ l = offT sl la en A oE
  | true => ∃ (A : Tks) (oE : Obj) (tp : Addr) (t4 t5 t6 : Tok) (g5 : Int), EntOn w en oE tp ∧ l = onT sl la en A oE tp t4 t5 t6 g5
theorem cancel_s {w : World} {x d : Addr} {k : Tks} {gv : Int} {sl la en : Addr} {on : Bool} {lw : Led} {t : Tok} (hw : WheT w sl la en on lw) : ClM 9 w 1005 (wheH w x d k gv sl la en ++ lw) [.ref x, .int 3 t] fun v l => v = .none ∧ ∃ lw', WheT w sl la en false lw' ∧ l = wheH w x d k gv sl la en ++ lw' := by
  intro dp un gd cn cs a0 ccd cl outer A₀ base h₀ L m s mg mb mean Q rest B F X N hnd T hke hd hu hret
  cases on with
  | false =>
    obtain ⟨A, oE, hE, rfl⟩ := hw
    refine cancel_off hE dp un gd cn cs a0 ccd cl outer A₀ base h₀ L m s mg mb mean Q rest B F X N hnd T hke hd hu fun v l' h' tk' F' N' Nd' hp => ?_
    obtain ⟨rfl, A', oE', hE', rfl⟩ := hp
    exact hret _ _ _ _ F' N' Nd' ⟨rfl, _, ⟨A', oE', hE', rfl⟩, rfl⟩
  | true =>
    obtain ⟨A, oE, tp, t4, t5, t6, g5, hE, rfl⟩ := hw
    refine cancel_on hE dp un gd cn cs a0 ccd cl outer A₀ base h₀ L m s mg mb mean Q rest B F X N hnd T hke hd hu fun v l' h' tk' F' N' Nd' hp => ?_
    obtain ⟨rfl, A', oE', hE', rfl⟩ := hp
    exact hret _ _ _ _ F' N' Nd' ⟨rfl, _, ⟨A', oE', hE', rfl⟩, rfl⟩
example : True := by
  k_with "call ref" => first | ((k_here; k_dflt ((with_reducible show wpAny _ _ (call (Value.ref 1005) _) _ _ _); refine' use_clm (cancel_s ?h0) ?k1 ?k2 ?k3 ?k4 ?kn ?ks ?k5 ?k6 ?k7 ?k8 ?_;  k_extra "s premU"; (case h0 => k_extra "s hyp"); k_whole); intro v' news' h' tk' F' N' Nd' HP; k_dflt (obtain ⟨rfl, lw', ⟨A', oE', ⟨hE', hsm'⟩, rfl⟩, rfl⟩ := HP); (try dsimp only [wheH, offT, onT, slotsO, List.cons_append, List.nil_append] at N'); (try dsimp only [wheH, offT, onT, slotsO, List.cons_append, List.nil_append, Nd, List.map] at Nd');  (try k_sweep); (try dsimp only); (try k_fold))) | fail "-"
  trivial
theorem put_s0 {w : World} {x d : Addr} {k : Tks} {gv : Int} {sl la en : Addr} {on : Bool} {lw : Led} {t t9 : Tok} (hw : WheT w sl la en on lw) : ClM 15 w 991 (wheH w x d k gv sl la en ++ lw) [.ref x, .int 3 t, .int 50 t9] fun v l => v = .none ∧ ∃ (k : Tks) (gv : Int) (A : Tks) (oE : Obj) (tp : Addr) (t4 t5 t6 : Tok) (g5 : Int), EntOn w en oE tp ∧ l = wheH w x d k gv sl la en ++ onT sl la en A oE tp t4 t5 t6 g5 := by
  k_extra "s fill"
  intro dp un gd cn cs a0 ccd cl outer A₀ base h₀ L m s mg mb mean Q rest B F X N hnd T hke hd hu hret
  all_goals (k_dflt (refine' enterM (binds := [(Mine.s "self", .ref x), (Mine.s "key", .int 3 t), (Mine.s "time", .int 50 t9)]) ?k1 ?k2 ?k3 ?k4 ?kn ?k5 ?kA ?kF ?kK ?k6 ?k7 ?k8 ?k9 ?kB ?kR ?_ ?c2 ?c3 ?c4 ?c5; k_extra "s premM"); intro g' L' h' F' N' Nd' B' X' T'; (try dsimp only [wheH, List.cons_append, List.nil_append] at N'); (try dsimp only [wheH, List.cons_append, List.nil_append, Nd, List.map] at Nd'); (try dsimp only); (try k_fold))
  all_goals k_steps
  all_goals ((try dsimp only); refine' endMS ?F ?N ?nd ?sp ⟨rfl, tokL [_, _, _, _, _, _, _, _], _, tokL [_, _, _, _, _, _, _, _, _, _, _, _, _, _, _, _, _, _, _], _, _, _, _, _, _, ⟨?zp, ?zq⟩, rfl⟩; (case F => k_asm); (case N => k_asm); (case sp => k_extra "s take"); (case nd => k_extra "s nd"); (case zp => assumption); (case zq => assumption); skip)
theorem put_s {w : World} {x d : Addr} {k : Tks} {gv : Int} {sl la en : Addr} {on : Bool} {lw : Led} {t t9 : Tok} (hw : WheT w sl la en on lw) : ClM 15 w 991 (wheH w x d k gv sl la en ++ lw) [.ref x, .int 3 t, .int 50 t9] fun v l => v = .none ∧ ∃ (k : Tks) (gv : Int) (lw : Led), WheT w sl la en true lw ∧ l = wheH w x d k gv sl la en ++ lw := by
  intro dp un gd cn cs a0 ccd cl outer A₀ base h₀ L m s mg mb mean Q rest B F X N hnd T hke hd hu hret
  refine put_s0 hw dp un gd cn cs a0 ccd cl outer A₀ base h₀ L m s mg mb mean Q rest B F X N hnd T hke hd hu fun v l' h' tk' F' N' Nd' hp => ?_
  obtain ⟨rfl, k', gv', A', oE', tp, t4, t5, t6, g5, hE', rfl⟩ := hp
  exact hret _ _ _ _ F' N' Nd' ⟨rfl, _, _, _, ⟨A', oE', tp, t4, t5, t6, g5, hE', rfl⟩, rfl⟩
theorem time_off {w : World} {x d : Addr} {k A : Tks} {gv : Int} {sl la en : Addr} {oE : Obj} {t : Tok} (hE : EntOff w en oE) : ClM 9 w 1012 (wheH w x d k gv sl la en ++ offT sl la en A oE) [.ref x, .int 3 t] fun v l => v = .none ∧ l = wheH w x d k gv sl la en ++ offT sl la en A oE := by
  obtain ⟨hE, hsm⟩ := hE
  k_extra "s fill"
  intro dp un gd cn cs a0 ccd cl outer A₀ base h₀ L m s mg mb mean Q rest B F X N hnd T hke hd hu hret
  all_goals (k_dflt (refine' enterM (binds := [(Mine.s "self", .ref x), (Mine.s "key", .int 3 t)]) ?k1 ?k2 ?k3 ?k4 ?kn ?k5 ?kA ?kF ?kK ?k6 ?k7 ?k8 ?k9 ?kB ?kR ?_ ?c2 ?c3 ?c4 ?c5; k_extra "s premM"); intro g' L' h' F' N' Nd' B' X' T'; (try dsimp only [wheH, offT, List.cons_append, List.nil_append] at N'); (try dsimp only [wheH, offT, List.cons_append, List.nil_append, Nd, List.map] at Nd'); (try dsimp only); (try k_fold))
  all_goals k_steps
  all_goals ((try dsimp only); refine' endMS ?F ?N ?nd ?sp ⟨rfl, rfl⟩; (case F => k_asm); (case N => k_asm); (case sp => k_extra "s take"); (case nd => k_extra "s nd"); skip)
theorem time_s {w : World} {x d : Addr} {k : Tks} {gv : Int} {sl la en : Addr} {lw : Led} {t : Tok} (hw : WheT w sl la en false lw) : ClM 9 w 1012 (wheH w x d k gv sl la en ++ lw) [.ref x, .int 3 t] fun v l => v = .none ∧ l = wheH w x d k gv sl la en ++ lw := by
  obtain ⟨A, oE, hE, rfl⟩ := hw
  exact time_off hE
example : True := by
  k_with "CompSrc" => first | ((k_here; k_dflt (refine LCg.CompSrc.range (by rfl) (by k_asm) (by k_asm) (by assumption) (by first | decide | rfl) (by first | rfl | decide) (by first | size_fits | exact Nat.le_of_ble_eq_true rfl) ?_); intro g'; refine comp_16 ?_; intro q0 q1 q2 q3 q4 q5 q6 q7 q8 q9 q10 q11 q12 q13 q14 q15 lq'; (try k_lt lq'); (try dsimp only))) | fail "-"
  trivial
theorem whe_init0 {w : World} {x dx : Addr} :
    ClM 15 w 984 ((x, instObj 1034 dx) :: (dx, dictOf [] 0) :: []) [.ref x] fun v l => v = .none ∧ ∃ (sl la en : Addr) (k A : Tks) (oE : Obj), EntOff w en oE ∧ l = wheH w x dx k 0 sl la en ++ offT sl la en A oE := by
  k_extra "s fill"
  intro dp un gd cn cs a0 ccd cl outer A₀ base h₀ L m s mg mb mean Q rest B F X N hnd T hke hd hu hret
  all_goals (k_dflt (refine' enterM (binds := [(Mine.s "self", .ref x), (Mine.s "size", .int 16 1526)]) ?k1 ?k2 ?k3 ?k4 ?kn ?k5 ?kA ?kF ?kK ?k6 ?k7 ?k8 ?k9 ?kB ?kR ?_ ?c2 ?c3 ?c4 ?c5; k_extra "s premM"); intro g' L' h' F' N' Nd' B' X' T'; (try dsimp only [List.cons_append, List.nil_append] at N'); (try dsimp only [List.cons_append, List.nil_append, Nd, List.map] at Nd'); (try dsimp only); (try k_fold))
  all_goals k_steps
  all_goals ((try dsimp only); refine' endMS ?F ?N ?nd ?sp ⟨rfl, _, _, _, tokL [_, _, _, _, _, _, _, _], tokL [_, _, _, _, _, _, _, _, _, _, _, _, _, _, _, _, _, _, _], _, ⟨?zp, ?zq⟩, rfl⟩; (case F => k_asm); (case N => k_asm); (case sp => k_extra "s take"); (case nd => k_extra "s nd"); (case zp => assumption); (case zq => assumption); skip)
theorem whe_init {w : World} {x dx : Addr} :
    ClM 15 w 984 ((x, instObj 1034 dx) :: (dx, dictOf [] 0) :: []) [.ref x] fun v l => v = .none ∧ ∃ (sl la en : Addr) (k : Tks) (lw : Led), WheT w sl la en false lw ∧ l = wheH w x dx k 0 sl la en ++ lw := by
  intro dp un gd cn cs a0 ccd cl outer A₀ base h₀ L m s mg mb mean Q rest B F X N hnd T hke hd hu hret
  refine whe_init0 dp un gd cn cs a0 ccd cl outer A₀ base h₀ L m s mg mb mean Q rest B F X N hnd T hke hd hu fun v l' h' tk' F' N' Nd' hp => ?_
  obtain ⟨rfl, sl, la, en, k, A, oE, hE, rfl⟩ := hp
  exact hret _ _ _ _ F' N' Nd' ⟨rfl, _, _, _, _, _, ⟨A, oE, hE, rfl⟩, rfl⟩
section
open PySem PySem.W PySem.Calls PySem.Spec PyProof.Rows
/-- a part of a ledger, the ledger being a function of it -/
structure Hole (x l : Led) (g : Led → Led) : Prop where
  eq : l = g x
  perm : ∀ y, (g y).Perm (y ++ g [])
theorem Hole.here {x : Led} : Hole x x (fun y => y) := ⟨rfl, fun y => by rw [List.append_nil]⟩
theorem Hole.hereA {x r : Led} : Hole x (x ++ r) (fun y => y ++ r) := ⟨rfl, fun y => .refl _⟩
theorem Hole.skip {x : Led} {p : Addr × Obj} {l : Led} {g : Led → Led} (h : Hole x l g) : Hole x (p :: l) (fun y => p :: g y) := ⟨congrArg _ h.eq, fun y => (List.Perm.cons _ (h.perm y)).trans List.perm_middle.symm⟩
theorem Hole.skipA {x q l : Led} {g : Led → Led} (h : Hole x l g) : Hole x (q ++ l) (fun y => q ++ g y) := ⟨congrArg _ h.eq, fun y => (TakeA.skipA ⟨h.perm y⟩).perm⟩
theorem ClM.imp {hgt : Nat} {w : World} {f : Addr} {sub : Led} {vs : List Value} {P P' : Value → Led → Prop} (c : ClM hgt w f sub vs P) (h : ∀ v l, P v l → P' v l) : ClM hgt w f sub vs P' :=
  fun _ _ _ _ _ _ _ _ _ _ _ _ _ _ _ _ _ _ _ _ B F X N hnd T hke hd hu hret =>
    c _ _ _ _ _ _ _ _ _ _ _ _ _ _ _ _ _ _ _ _ B F X N hnd T hke hd hu fun _ _ _ _ F' N' Nd' hp => hret _ _ _ _ F' N' Nd' (h _ _ hp)
theorem ClMX.imp {hgt : Nat} {w : World} {f : Addr} {sub : Led} {vs : List Value} {P P' : Value → Led → Prop} (c : ClMX hgt w f sub vs P) (h : ∀ v l, P v l → P' v l) : ClMX hgt w f sub vs P' :=
  fun _ _ _ _ _ _ _ _ _ _ _ _ _ _ _ _ _ _ _ B F X N hnd T hke hd hu hret =>
    c _ _ _ _ _ _ _ _ _ _ _ _ _ _ _ _ _ _ _ B F X N hnd T hke hd hu fun _ _ _ _ F' N' Nd' hp => hret _ _ _ _ F' N' Nd' (h _ _ hp)
section
variable {hgt : Nat} {w : World} {f : Addr} {x : Led} {g : Led → Led} {vs : List Value} {P : Value → Led → Prop}
    {dp un : Nat} {gd : Option (List Code)} {cn : Str} {cs : Scope} {a : Addr} {ccd : Value} {cl : List (Str × Addr)} {outer : List Env} {A₀ : Around} {base h₀ : Heap} {L : Addr} {m : Str → Option Value} {s : Shared} {mg mb : Str → Option Value} {mean : ExcName → Option Value} {Q E : Value → Shared → Prop} {l : Led}
theorem use_hole (c : ClM hgt w f x vs P) (ks : Hole x l g)
    (k1 : Below A₀ base outer h₀) (k2 : Fr h₀ L s.heap m) (k3 : (K w.params).In h₀) (k4 : News h₀ L s.heap l) (kn : Nd l) (k5 : Top qv loose mean mg mb h₀) (k6 : cs.kind = .function) (k7 : dp + hgt < recursionLimit) (k8 : un + 10 * hgt < cLine)
    (k9 : ∀ v news' h' tk', Fr h₀ L h' m → News h₀ L h' (g news') → Nd (g news') → P v news' → Q v { s with heap := h', toks := tk' }) :
    wpAny (model pw w) (ktrTop dp un gd cn cs L a ccd cl outer) (call (.ref f) vs) Q E s := by
  have p : l.Perm (x ++ g []) := by rw [ks.eq]; exact ks.perm x
  refine wpAny_call (codeAny_mono (c (Q := Q) (rest := g []) _ _ _ _ _ _ _ _ _ _ _ _ _ _ _ _ _ _ k1 k2 k3 (newsPerm p k4) (ndPerm p kn) k5 k6 k7 k8 fun v news' h' tk' F' N' Nd' hp => ?_) fun r s' h => by obtain ⟨v, rfl, h⟩ := h; exact h)
  exact k9 v news' h' tk' F' (newsPerm (ks.perm news').symm N') (ndPerm (ks.perm news').symm Nd') hp
end
section
variable {hgt : Nat} {w : World} {f : Addr} {x : Led} {g : Led → Led} {vs : List Value} {P : Value → Led → Prop}
    {dp un : Nat} {cn : Str} {cs : Scope} {a : Addr} {ccd : Value} {cl : List (Str × Addr)} {outer : List Env} {A₀ : Around} {base h₀ : Heap} {L : Addr} {m : Str → Option Value} {s : Shared} {mg mb : Str → Option Value} {mean : ExcName → Option Value} {Q : Value → Shared → Prop} {l : Led}
theorem use_holeX (c : ClMX hgt w f x vs P) (ks : Hole x l g)
    (k1 : Below A₀ base outer h₀) (k2 : Fr h₀ L s.heap m) (k3 : (K w.params).In h₀) (k4 : News h₀ L s.heap l) (kn : Nd l) (k5 : Top qv loose mean mg mb h₀) (k6 : cs.kind = .function) (k7 : dp + hgt < recursionLimit) (k8 : un + 10 * hgt < cLine)
    (k9 : ∀ v news' h' tk', Fr h₀ L h' m → News h₀ L h' (g news') → Nd (g news') → P v news' → Q v { s with heap := h', toks := tk' }) :
    wpX (model pw w) (ktrTop dp un (some []) cn cs L a ccd cl outer) (call (.ref f) vs) Q s := by
  have p : l.Perm (x ++ g []) := by rw [ks.eq]; exact ks.perm x
  exact X_call (c (Q := Q) (rest := g []) _ _ _ _ _ _ _ _ _ _ _ _ _ _ _ _ _ k1 k2 k3 (newsPerm p k4) (ndPerm p kn) k5 k6 k7 k8 fun v news' h' tk' F' N' Nd' hp =>
    k9 v news' h' tk' F' (newsPerm (ks.perm news').symm N') (ndPerm (ks.perm news').symm Nd') hp)
end
end
example : True := by
  trivial
example : True := by
  k_with "call ref" => first | ((k_here; k_dflt ((with_reducible show wpAny _ _ (call (Value.ref 202) _) _ _ _); refine' use_cl (should_tell_s (k := tokL [_, _, _, _, _, _, _, _, _, _, _, _, _, _, _]) ?h0 ?h1 ?h2 ?h3) ?k1 ?k2 ?k3 ?k4 ?k5 ?k6 ?k7 ?k8 ?_; k_extra "s prem"; (case h0 => k_extra "s hyp"); (case h1 => k_extra "s hyp"); (case h2 => k_extra "s hyp"); (case h3 => k_extra "s hyp"); k_whole); (try dsimp only [Ret]); intro t9 h9 tk9 F9 N9; (try dsimp only); (try k_fold))) | fail "-"
  trivial
theorem on_sent_s {w : World} {x d : Addr} {k : Tks} {wt : Int} {due : Value} : ClM 9 w 350 (ackL w x d k wt due) [.ref x] fun v l => v = .none ∧ ∃ k : Tks, l = ackL w x d k 0 .none := by
  k_extra "s fill"
  intro dp un gd cn cs a0 ccd cl outer A₀ base h₀ L m s mg mb mean Q rest B F X N hnd T hke hd hu hret
  all_goals (k_dflt (refine' enterM (binds := [(Mine.s "self", .ref x)]) ?k1 ?k2 ?k3 ?k4 ?kn ?k5 ?kA ?kF ?kK ?k6 ?k7 ?k8 ?k9 ?kB ?kR ?_ ?c2 ?c3 ?c4 ?c5; k_extra "s premM"); intro g' L' h' F' N' Nd' B' X' T'; (try dsimp only [ackL, List.cons_append, List.nil_append] at N'); (try dsimp only [ackL, List.cons_append, List.nil_append, Nd, List.map] at Nd'); (try dsimp only); (try k_fold))
  all_goals k_steps
  all_goals ((try dsimp only); refine' endMS ?F ?N ?nd ?sp ⟨rfl, tokL [_, _, _, _, _, _], rfl⟩; (case F => k_asm); (case N => k_asm); (case sp => k_extra "s take"); (case nd => k_extra "s nd"); skip)
theorem due_time_s {w : World} {x d : Addr} {k : Tks} {wt : Int} : ClM 9 w 357 (ackL w x d k wt .none) [.ref x] fun v l => v = .none ∧ l = ackL w x d k wt .none := by
  k_extra "s fill"
  intro dp un gd cn cs a0 ccd cl outer A₀ base h₀ L m s mg mb mean Q rest B F X N hnd T hke hd hu hret
  all_goals (k_dflt (refine' enterM (binds := [(Mine.s "self", .ref x)]) ?k1 ?k2 ?k3 ?k4 ?kn ?k5 ?kA ?kF ?kK ?k6 ?k7 ?k8 ?k9 ?kB ?kR ?_ ?c2 ?c3 ?c4 ?c5; k_extra "s premM"); intro g' L' h' F' N' Nd' B' X' T'; (try dsimp only [ackL, List.cons_append, List.nil_append] at N'); (try dsimp only [ackL, List.cons_append, List.nil_append, Nd, List.map] at Nd'); (try dsimp only); (try k_fold))
  all_goals k_steps
  all_goals ((try dsimp only); refine' endMS ?F ?N ?nd ?sp ⟨rfl, rfl⟩; (case F => k_asm); (case N => k_asm); (case sp => k_extra "s take"); (case nd => k_extra "s nd"); skip)
noncomputable def DueOk (due : Value) : Prop := due = .none ∨ ∃ i t, due = .int i t
theorem on_octets_s {w : World} {x d : Addr} {k : Tks} {wt : Int} {due : Value} {t : Tok} (hw : 0 ≤ wt) (hdue : DueOk due) :
    ClM 9 w 329 (ackL w x d k wt due) [.ref x, .bool true, .int 5 t] fun v l => (∃ a b, v = .str a b) ∧ ∃ (k : Tks) (wt : Int) (due : Value), 0 ≤ wt ∧ DueOk due ∧ l = ackL w x d k wt due := by
  k_extra "s fill"
  intro dp un gd cn cs a0 ccd cl outer A₀ base h₀ L m s mg mb mean Q rest B F X N hnd T hke hd hu hret
  rcases hdue with rfl | ⟨i, t9, rfl⟩
  all_goals (k_dflt (refine' enterM (binds := [(Mine.s "self", .ref x), (Mine.s "in_order", .bool true), (Mine.s "now", .int 5 t), (Mine.s "has_holes", .bool false)]) ?k1 ?k2 ?k3 ?k4 ?kn ?k5 ?kA ?kF ?kK ?k6 ?k7 ?k8 ?k9 ?kB ?kR ?_ ?c2 ?c3 ?c4 ?c5; k_extra "s premM"); intro g' L' h' F' N' Nd' B' X' T'; (try dsimp only [ackL, List.cons_append, List.nil_append] at N'); (try dsimp only [ackL, List.cons_append, List.nil_append, Nd, List.map] at Nd'); (try dsimp only); (try k_fold))
  all_goals k_steps
  all_goals ((try dsimp only); refine' endMS ?F ?N ?nd ?sp ⟨⟨_, _, rfl⟩, tokL [_, _, _, _, _, _], _, _, ?p1, ?p2, rfl⟩; (case F => k_asm); (case N => k_asm); (case sp => k_extra "s take"); (case nd => k_extra "s nd"); (case p1 => omega); (case p2 => first | exact .inl rfl | exact .inr ⟨_, _, rfl⟩); skip)
noncomputable def edW (mss nx ed : Int) (n : Nat) : Int := if shT mss nx ed n = true then freeE nx n else ed
noncomputable abbrev rcvB (w : World) (x d : Addr) (k : Tks) (mss nx ed : Int) (ba xA : Addr) (b : Array UInt8) : Led := [(x, instObj 303 d), (d, dictOf (esR w.params k mss nx ed ba xA) 10), (ba, baObj b)]
theorem window_s {w : World} {x d ba xA : Addr} {k : Tks} {mss nx ed : Int} {b : Array UInt8} (hz : b.size ≤ 1048576) :
    ClM 18 w 216 (rcvB w x d k mss nx ed ba xA b) [.ref x] fun v l => ∃ (t : Tok) (k : Tks), v = .int (toldW nx (edW mss nx ed b.size)) t ∧ l = rcvB w x d k mss nx (edW mss nx ed b.size) ba xA b := by
  k_extra "s fill"
  intro dp un gd cn cs a0 ccd cl outer A₀ base h₀ L m s mg mb mean Q rest B F X N hnd T hke hd hu hret
  all_goals (k_dflt (refine' enterM (binds := [(Mine.s "self", .ref x)]) ?k1 ?k2 ?k3 ?k4 ?kn ?k5 ?kA ?kF ?kK ?k6 ?k7 ?k8 ?k9 ?kB ?kR ?_ ?c2 ?c3 ?c4 ?c5; k_extra "s premM"); intro g' L' h' F' N' Nd' B' X' T'; (try dsimp only [rcvB, List.cons_append, List.nil_append] at N'); (try dsimp only [rcvB, List.cons_append, List.nil_append, Nd, List.map] at Nd'); (try dsimp only); (try k_fold))
  all_goals k_steps
  all_goals first
    | rw [show edW mss nx ed b.size = freeE nx b.size from if_pos (by assumption)]
    | rw [show edW mss nx ed b.size = ed from if_neg (by assumption)]
    | rw [show edW mss nx ed b.size = ed from if_neg (by simp [*])]
  all_goals ((try dsimp only); refine' endMS ?F ?N ?nd ?sp ⟨_, tokL [_, _, _, _, _, _, _, _, _, _, _, _, _, _, _], rfl, rfl⟩; (case F => k_asm); (case N => k_asm); (case sp => k_extra "s take"); (case nd => k_extra "s nd"); skip)
section
open PySem PySem.W PySem.Calls PySem.Spec PyProof.Rows
theorem fm (a : Int) : Int.fmod a 256 = a % 256 := Int.fmod_eq_emod_of_nonneg _ (by decide)
theorem ring_add (a b : Int) : Int.fmod (Int.fmod a 256 + b) 256 = Int.fmod (a + b) 256 := by simp only [fm]; omega
theorem ring_sub (a b : Int) : Int.fmod (Int.fmod b 256 - Int.fmod a 256) 256 = Int.fmod (b - a) 256 := by simp only [fm]; omega
theorem ring_small {a : Int} (h : 0 ≤ a) (h' : a < 256) : Int.fmod a 256 = a := by simp only [fm]; omega
theorem isB_ring {a b : Int} (h : -128 < b - a) (h' : b - a < 128) : isB (Int.fmod a 256) (Int.fmod b 256) 256 = decide (a < b) := by
  unfold isB
  rw [ring_sub, fm, Bool.eq_iff_iff]
  simp only [Bool.and_eq_true, decide_eq_true_eq]
  omega
theorem late_ring {a b : Int} (h : -128 < b - a) (h' : b - a < 128) : lateI (Int.fmod a 256) (Int.fmod b 256) 256 = Int.fmod (if b > a then b else a) 256 := by
  unfold lateI
  rw [isB_ring h h']
  by_cases hab : a < b
  · rw [if_pos (decide_eq_true hab), if_pos hab]
  · rw [if_neg (by simp [hab]), if_neg (by omega)]
theorem told_ring {nx ed : Int} (h : 0 ≤ ed - nx) (h' : ed - nx ≤ 16) : toldW (Int.fmod nx 256) (Int.fmod ed 256) = ed - nx := by
  unfold toldW
  rw [isB_ring (by omega) (by omega), if_neg (by simp; omega), ring_sub, ring_small h (by omega)]
theorem free_ring {nx : Int} {n : Nat} : freeE (Int.fmod nx 256) n = Int.fmod (nx + 16 - n) 256 := by
  unfold freeE
  rw [ring_add, Int.add_sub_assoc]
theorem sh_ring {mss nx ed ur : Int} {n : Nat} (hu : (n : Int) = ur) (h : ed ≤ nx + 16 - ur) (h' : nx ≤ ed) (h0 : 0 ≤ ur) (hm : 1 ≤ mss) : shT mss (Int.fmod nx 256) (Int.fmod ed 256) n = decide (nx + 16 - ur - ed ≥ min mss 8) := by
  unfold shT
  rw [free_ring, hu, isB_ring (by omega) (by omega), ring_sub, ring_small (by omega) (by omega), Bool.eq_iff_iff]
  simp only [Bool.and_eq_true, decide_eq_true_eq]
  omega
theorem ed_ring {mss nx ed ur : Int} {n : Nat} (hu : (n : Int) = ur) (h : ed ≤ nx + 16 - ur) (h' : nx ≤ ed) (h0 : 0 ≤ ur) (hm : 1 ≤ mss) : edW mss (Int.fmod nx 256) (Int.fmod ed 256) n = Int.fmod (if nx + 16 - ur - ed ≥ min mss 8 then nx + 16 - ur else ed) 256 := by
  unfold edW
  rw [sh_ring hu h h' h0 hm, free_ring, hu]
  by_cases hc : nx + 16 - ur - ed ≥ min mss 8
  · rw [if_pos (decide_eq_true hc), if_pos hc]
  · rw [if_neg (by simpa using hc), if_neg hc]
theorem back_ok {una snt sq : Int} (h : una ≤ sq) (h' : sq ≤ snt) (h2 : snt ≤ una + 40) : Int.fmod (Int.fmod sq 256 - Int.fmod una 256) 256 ≤ Int.fmod (Int.fmod snt 256 - Int.fmod una 256) 256 := by
  rw [ring_sub, ring_sub, ring_small (by omega) (by omega), ring_small (by omega) (by omega)]
  omega
theorem ackt_pos {mss nx ed ur : Int} (hm : 1 ≤ mss) (h0 : 0 ≤ ur) (h : ed ≤ nx + 16 - ur) (h' : nx ≤ ed) (c : nx + 16 - ur - ed ≥ min mss 8) : toldW (Int.fmod nx 256) (edW mss (Int.fmod nx 256) (Int.fmod ed 256) ur.toNat) = nx + 16 - ur - nx := by
  rw [ed_ring (Int.toNat_of_nonneg h0) h h' h0 hm, if_pos c, told_ring (by omega) (by omega)]
theorem ackt_neg {mss nx ed ur : Int} (hm : 1 ≤ mss) (h0 : 0 ≤ ur) (h : ed ≤ nx + 16 - ur) (h' : nx ≤ ed) (c : ¬ nx + 16 - ur - ed ≥ min mss 8) : toldW (Int.fmod nx 256) (edW mss (Int.fmod nx 256) (Int.fmod ed 256) ur.toNat) = ed - nx := by
  rw [ed_ring (Int.toNat_of_nonneg h0) h h' h0 hm, if_neg c, told_ring (by omega) (by omega)]
end
example : True := by
  trivial
noncomputable abbrev tcbC (w : World) (x y : Addr) (k p : Tks) (xL tl tr xS xR xC xG xK xW : Addr) : Led := [(x, instObj 1098 y), (y, dictOf (esT w.params k xL tl tr xS xR xC xG xK xW) 14), (tl, { cls := .type "tuple", data := .seq #[.int 1 (p 0), .int 10 (p 1)] }), (tr, { cls := .type "tuple", data := .seq #[.int 2 (p 2), .int 20 (p 3)] })]
/-- the block with all that hangs on it -/
inductive StT (w : World) (x : Addr) (mss nx ed : Int) (n : Nat) (una snt gr : Int) (on : Bool) : Led → Prop
  | intro (y xL tl tr xS xR xC xG xK xW yL yR ba xA yA pl yK yS xP xQ yW sl la en : Addr) (k p kL kR kA kK kS kW : Tks) (e0 : Nat) (b : Array UInt8) (wt iss mss' gv : Int) (due : Value) (lw : Led) (h1 : b.size = n) (h2 : n ≤ 16) (h3 : 0 ≤ wt) (h4 : DueOk due) (h5 : on = false → due = .none) (h6 : WheT w sl la en on lw) :
    StT w x mss nx ed n una snt gr on (tcbC w x y k p xL tl tr xS xR xC xG xK xW ++ (limL w xL yL kL mss ++ (rcvB w xR yR kR mss nx ed ba xA b ++ (asmL w xA yA pl kA e0 ++ (ackL w xK yK kK wt due ++ (sndD w xS yS kS iss mss' una snt gr xP xQ false ++ (wheH w xW yW kW gv sl la en ++ lw)))))))
theorem StT.mk {w : World} {x : Addr} {mss nx ed una snt gr : Int} {n : Nat} {on : Bool} {y xL tl tr xS xR xC xG xK xW yL yR ba xA yA pl yK yS xP xQ yW sl la en : Addr} {k p kL kR kA kK kS kW : Tks} {e0 : Nat} {b : Array UInt8} {wt iss mss' gv : Int} {due : Value} {lw : Led} (h1 : b.size = n) (h2 : n ≤ 16) (h3 : 0 ≤ wt) (h4 : DueOk due) (h5 : on = false → due = .none) (h6 : WheT w sl la en on lw) :
    StT w x mss nx ed n una snt gr on (tcbC w x y k p xL tl tr xS xR xC xG xK xW ++ (limL w xL yL kL mss ++ (rcvB w xR yR kR mss nx ed ba xA b ++ (asmL w xA yA pl kA e0 ++ (ackL w xK yK kK wt due ++ (sndD w xS yS kS iss mss' una snt gr xP xQ false ++ (wheH w xW yW kW gv sl la en ++ lw))))))) := .intro y xL tl tr xS xR xC xG xK xW yL yR ba xA yA pl yK yS xP xQ yW sl la en k p kL kR kA kK kS kW e0 b wt iss mss' gv due lw h1 h2 h3 h4 h5 h6
theorem toldW_lt (nx ed : Int) : toldW nx ed < 256 := by
  unfold toldW
  split
  · decide
  · rw [Int.fmod_eq_emod_of_nonneg _ (by decide)]; exact Int.emod_lt_of_pos _ (by decide)
theorem min_told (nx ed : Int) : (if 65535 < toldW nx ed then 65535 else toldW nx ed) = toldW nx ed := if_neg (by have := toldW_lt nx ed; omega)
example : True := by
  k_with "call ref" => first | ((k_here; k_dflt ((with_reducible show wpAny _ _ (call (Value.ref 1005) _) _ _ _); refine' use_clm (cancel_s ?h0) ?k1 ?k2 ?k3 ?k4 ?kn ?ks ?k5 ?k6 ?k7 ?k8 ?_;  k_extra "s premU"; (case h0 => k_extra "s hyp"); k_whole); intro v' news' h' tk' F' N' Nd' HP; k_dflt (obtain ⟨rfl, lw', hw', rfl⟩ := HP); replace N' := newsSwap N'; replace Nd' := ndSwap Nd'; (try dsimp only [wheH, List.cons_append, List.nil_append] at N'); (try dsimp only [wheH, List.cons_append, List.nil_append, Nd, List.map] at Nd');  (try k_sweep); (try dsimp only); (try k_fold))) | fail "-"
  k_with "call ref" => first | ((k_here; k_dflt ((with_reducible show wpAny _ _ (call (Value.ref 350) _) _ _ _); refine' use_clm (on_sent_s ) ?k1 ?k2 ?k3 ?k4 ?kn ?ks ?k5 ?k6 ?k7 ?k8 ?_;  k_extra "s premU";  k_whole); intro v' news' h' tk' F' N' Nd' HP; k_dflt (obtain ⟨rfl, ks', rfl⟩ := HP); (try dsimp only [ackL, List.cons_append, List.nil_append] at N'); (try dsimp only [ackL, List.cons_append, List.nil_append, Nd, List.map] at Nd');  (try k_sweep); (try dsimp only); (try k_fold))) | fail "-"
  k_with "call ref" => first | ((k_here; k_dflt ((with_reducible show wpAny _ _ (call (Value.ref 216) _) _ _ _); refine' use_clm (window_s ?h0) ?k1 ?k2 ?k3 ?k4 ?kn ?ks ?k5 ?k6 ?k7 ?k8 ?_;  k_extra "s premU"; (case h0 => k_extra "s hyp"); k_whole); intro v' news' h' tk' F' N' Nd' HP; k_dflt (obtain ⟨_, ks', rfl, rfl⟩ := HP); (try dsimp only [rcvB, List.cons_append, List.nil_append] at N'); (try dsimp only [rcvB, List.cons_append, List.nil_append, Nd, List.map] at Nd');  (try k_sweep); (try dsimp only); (try k_fold))) | fail "-"
  k_with "call ref" => first | ((k_here; k_dflt ((with_reducible show wpAny _ _ (call (Value.ref 953) _) _ _ _); refine' use_cls (fun x dx => seg_init ) ?k1 ?k2 ?k3 ?k4 ?kn ?ks ?k5 ?k6 ?k7 ?k8 ?km ?ki ?kf ?_; k_extra "s premU"; (case km => k_is); (case ki => k_is); (case kf => k_is);  k_whole); intro x' dx' news' h' tk' F' N' Nd' HP; k_dflt (obtain ⟨ks', rfl⟩ := HP); (try dsimp only [segL, List.cons_append, List.nil_append] at N'); (try dsimp only [segL, List.cons_append, List.nil_append, Nd, List.map] at Nd');  (try k_sweep); (try dsimp only); (try k_fold))) | fail "-"
  trivial
theorem make_s {w : World} {x : Addr} {mss nx ed una snt gr : Int} {n : Nat} {on : Bool} {sq : Int} {t t9 : Tok} {l : Led} (h : StT w x mss nx ed n una snt gr on l) :
    ClM 30 w 1095 l [.ref x, .int 16 t, .int sq t9] fun v l => ∃ (xg yg : Addr) (kg : Tks) (fl wi : Int) (lT : Led), v = .ref xg ∧ fl = 16 ∧ wi = toldW nx (edW mss nx ed n) ∧ StT w x mss nx (edW mss nx ed n) n una snt gr false lT ∧ l = segL w xg yg kg 10 20 sq nx fl wi #[] ++ lT := by
  k_extra "s fill"
  intro dp un gd cn cs a0 ccd cl outer A₀ base h₀ L m s mg mb mean Q rest B F X N hnd T hke hd hu hret
  obtain ⟨y, xL, tl, tr, xS, xR, xC, xG, xK, xW, yL, yR, ba, xA, yA, pl, yK, yS, xP, xQ, yW, sl, la, en, k, p, kL, kR, kA, kK, kS, kW, e0, b, wt, iss, mss', gv, due, lw, hb, h16, hwt, hdue, hoff, hw⟩ := h
  subst hb
  all_goals (k_dflt (refine' enterM (binds := [(Mine.s "self", .ref x), (Mine.s "flags", .int 16 t), (Mine.s "seq", .int sq t9), (Mine.s "payload", .bytes #[] 1697)]) ?k1 ?k2 ?k3 ?k4 ?kn ?k5 ?kA ?kF ?kK ?k6 ?k7 ?k8 ?k9 ?kB ?kR ?_ ?c2 ?c3 ?c4 ?c5; k_extra "s premM"); intro g' L' h' F' N' Nd' B' X' T'; (try dsimp only [tcbC, limL, rcvB, asmL, ackL, sndD, wheH, List.cons_append, List.nil_append] at N'); (try dsimp only [tcbC, limL, rcvB, asmL, ackL, sndD, wheH, List.cons_append, List.nil_append, Nd, List.map] at Nd'); (try dsimp only); (try k_fold))
  all_goals k_steps
  all_goals ((try dsimp only); refine' endMS ?F ?N ?nd ?sp ⟨_, _, tokL [_, _, _, _, _, _, _, _, _, _, _, _, _, _, _, _, _, _], _, _, _, rfl, ?ze, ?zv, StT.mk (k := tokL [_, _, _, _, _, _, _, _, _, _, _, _, _, _, _, _, _]) (p := tokL [_, _, _, _]) (kL := tokL [_, _, _, _, _, _, _, _, _, _, _, _, _, _, _, _, _, _, _, _]) (kR := tokL [_, _, _, _, _, _, _, _, _, _, _, _, _, _, _]) (kA := tokL [_, _, _]) (kK := tokL [_, _, _, _, _, _]) (kS := tokL [_, _, _, _, _, _, _, _, _, _, _, _, _, _, _, _, _]) (kW := tokL [_, _, _, _, _, _, _, _]) ?zb ?z16 ?zt ?zd ?zo ?hw, rfl⟩; (case hw => assumption); (case F => k_asm); (case N => k_asm); (case sp => k_extra "s take"); (case nd => k_extra "s nd"); (case zb => first | rfl | assumption | omega); (case z16 => omega); (case zt => first | assumption | omega); (case zd => first | assumption | exact .inl rfl); (case zo => first | assumption | (intro _; rfl) | (intro hz; cases hz)); (case ze => decide); (case zv => exact min_told _ _); skip)
example : True := by
  trivial
example : True := by
  trivial
theorem drop_s {w : World} {x d : Addr} {k : Tks} {t : Tok} {mn : Int} (hm : mn = 0) : ClM 9 w 674 (queL w x d k #[]) [.ref x, .int mn t] fun v l => v = .none ∧ ∃ (k : Tks) (c : Array UInt8), c = #[] ∧ l = queL w x d k c := by
  subst hm
  k_extra "s fill"
  intro dp un gd cn cs a0 ccd cl outer A₀ base h₀ L m s mg mb mean Q rest B F X N hnd T hke hd hu hret
  all_goals (k_dflt (refine' enterM (binds := [(Mine.s "self", .ref x), (Mine.s "many", .int 0 t)]) ?k1 ?k2 ?k3 ?k4 ?kn ?k5 ?kA ?kF ?kK ?k6 ?k7 ?k8 ?k9 ?kB ?kR ?_ ?c2 ?c3 ?c4 ?c5; k_extra "s premM"); intro g' L' h' F' N' Nd' B' X' T'; (try dsimp only [queL, List.cons_append, List.nil_append] at N'); (try dsimp only [queL, List.cons_append, List.nil_append, Nd, List.map] at Nd'); (try dsimp only); (try k_fold))
  all_goals k_steps
  all_goals (try (exfalso; omega))
  all_goals ((try dsimp only); refine' endMS ?F ?N ?nd ?sp ⟨rfl, tokL [_, _, _, _], _, ?q2, rfl⟩; (case F => k_asm); (case N => k_asm); (case sp => k_extra "s take"); (case nd => k_extra "s nd"); (case q2 => exact Array.eq_empty_of_size_eq_zero (Nat.le_zero.mp (by assumption))); skip)
example : True := by
  k_with "call ref" => first | ((k_here; k_dflt ((with_reducible show wpAny _ _ (call (Value.ref 674) _) _ _ _); refine' use_clm (drop_s ?h0) ?k1 ?k2 ?k3 ?k4 ?kn ?ks ?k5 ?k6 ?k7 ?k8 ?_;  k_extra "s premU"; (case h0 => k_extra "s hyp"); k_whole); intro v' news' h' tk' F' N' Nd' HP; k_dflt (obtain ⟨rfl, ks', _, rfl, rfl⟩ := HP); (try dsimp only [queL, List.cons_append, List.nil_append] at N'); (try dsimp only [queL, List.cons_append, List.nil_append, Nd, List.map] at Nd');  (try k_sweep); (try dsimp only); (try k_fold))) | fail "-"
  trivial
theorem acked_s {w : World} {x d xP xQ yQ : Addr} {k kq : Tks} {iss mss una snt gr : Int} {ak : Int} {t : Tok} (h1 : Int.fmod (ak - una) 256 = 1) (h2 : Int.fmod (gr - una) 256 = 1) (h3 : Int.fmod (snt - una) 256 = 1) : ClM 20 w 900 (sndD w x d k iss mss una snt gr xP xQ true ++ queL w xQ yQ kq #[]) [.ref x, .int ak t] fun v l => (∃ a, v = .ref a) ∧ ∃ (k kq : Tks), l = sndD w x d k iss mss ak snt gr xP xQ false ++ queL w xQ yQ kq #[] := by
  k_extra "s fill"
  intro dp un gd cn cs a0 ccd cl outer A₀ base h₀ L m s mg mb mean Q rest B F X N hnd T hke hd hu hret
  all_goals (k_dflt (refine' enterM (binds := [(Mine.s "self", .ref x), (Mine.s "ack", .int ak t)]) ?k1 ?k2 ?k3 ?k4 ?kn ?k5 ?kA ?kF ?kK ?k6 ?k7 ?k8 ?k9 ?kB ?kR ?_ ?c2 ?c3 ?c4 ?c5; k_extra "s premM"); intro g' L' h' F' N' Nd' B' X' T'; (try dsimp only [sndD, queL, List.cons_append, List.nil_append] at N'); (try dsimp only [sndD, queL, List.cons_append, List.nil_append, Nd, List.map] at Nd'); (try dsimp only); (try k_fold))
  all_goals k_steps
  all_goals (try (exfalso; omega))
  all_goals ((try dsimp only); refine' endMS ?F ?N ?nd ?sp ⟨⟨_, rfl⟩, tokL [_, _, _, _, _, _, _, _, _, _, _, _, _, _, _, _, _], tokL [_, _, _, _], rfl⟩; (case F => k_asm); (case N => k_asm); (case sp => k_extra "s take"); (case nd => k_extra "s nd"); skip)
theorem sput_s {w : World} {x d xP xQ yQ : Addr} {k kq : Tks} {iss mss una snt gr : Int} {pl : Array UInt8} {t : Tok} (hz : pl.size ≤ 40) : ClM 20 w 752 (sndD w x d k iss mss una snt gr xP xQ false ++ queL w xQ yQ kq #[]) [.ref x, .bytes pl t] fun v l => (∃ i t, v = .int i t) ∧ ∃ (k : Tks), l = sndD w x d k iss mss una snt gr xP xQ false := by
  k_extra "s fill"
  intro dp un gd cn cs a0 ccd cl outer A₀ base h₀ L m s mg mb mean Q rest B F X N hnd T hke hd hu hret
  all_goals (k_dflt (refine' enterM (binds := [(Mine.s "self", .ref x), (Mine.s "octets", .bytes pl t)]) ?k1 ?k2 ?k3 ?k4 ?kn ?k5 ?kA ?kF ?kK ?k6 ?k7 ?k8 ?k9 ?kB ?kR ?_ ?c2 ?c3 ?c4 ?c5; k_extra "s premM"); intro g' L' h' F' N' Nd' B' X' T'; (try dsimp only [sndD, queL, List.cons_append, List.nil_append] at N'); (try dsimp only [sndD, queL, List.cons_append, List.nil_append, Nd, List.map] at Nd'); (try dsimp only); (try k_fold))
  all_goals k_steps
  all_goals (try (exfalso; omega))
  all_goals ((try dsimp only); refine' endMS ?F ?N ?nd ?sp ⟨⟨_, _, rfl⟩, tokL [_, _, _, _, _, _, _, _, _, _, _, _, _, _, _, _, _], rfl⟩; (case F => k_asm); (case N => k_asm); (case sp => k_extra "s take"); (case nd => k_extra "s nd"); skip)
example : True := by
  trivial
example : True := by
  k_with "call ref" => first | ((k_here; k_dflt ((with_reducible show wpAny _ _ (call (Value.ref 903) _) _ _ _); refine' use_cls (fun x dx => snd_init ) ?k1 ?k2 ?k3 ?k4 ?kn ?ks ?k5 ?k6 ?k7 ?k8 ?km ?ki ?kf ?_; k_extra "s premU"; (case km => k_is); (case ki => k_is); (case kf => k_is);  k_whole); intro x' dx' news' h' tk' F' N' Nd' HP; k_dflt (obtain ⟨_, _, _, ks', kq', rfl⟩ := HP); (try dsimp only [sndD, queL, List.cons_append, List.nil_append] at N'); (try dsimp only [sndD, queL, List.cons_append, List.nil_append, Nd, List.map] at Nd');  (try k_sweep); (try dsimp only); (try k_fold))) | fail "-"
  k_with "call ref" => first | ((k_here; k_dflt ((with_reducible show wpAny _ _ (call (Value.ref 1066) _) _ _ _); refine' use_clm (clock_s ) ?k1 ?k2 ?k3 ?k4 ?kn ?ks ?k5 ?k6 ?k7 ?k8 ?_;  k_extra "s premU";  k_whole); intro v' news' h' tk' F' N' Nd' HP; k_dflt (obtain ⟨⟨_, rfl⟩, rfl⟩ := HP); (try dsimp only [limL, List.cons_append, List.nil_append] at N'); (try dsimp only [limL, List.cons_append, List.nil_append, Nd, List.map] at Nd');  (try k_sweep); (try dsimp only); (try k_fold))) | fail "-"
  k_with "call ref" => first | ((k_here; k_dflt ((with_reducible show wpAny _ _ (call (Value.ref 444) _) _ _ _); refine' use_cls (fun x dx => cong_init ) ?k1 ?k2 ?k3 ?k4 ?kn ?ks ?k5 ?k6 ?k7 ?k8 ?km ?ki ?kf ?_; k_extra "s premU"; (case km => k_is); (case ki => k_is); (case kf => k_is);  k_whole); intro x' dx' news' h' tk' F' N' Nd' HP; (try dsimp only at HP); subst HP; (try dsimp only [List.cons_append, List.nil_append] at N'); (try dsimp only [List.cons_append, List.nil_append, Nd, List.map] at Nd');  (try k_sweep); (try dsimp only); (try k_fold))) | fail "-"
  k_with "call ref" => first | ((k_here; k_dflt ((with_reducible show wpAny _ _ (call (Value.ref 360) _) _ _ _); refine' use_cls (fun x dx => ack_init ) ?k1 ?k2 ?k3 ?k4 ?kn ?ks ?k5 ?k6 ?k7 ?k8 ?km ?ki ?kf ?_; k_extra "s premU"; (case km => k_is); (case ki => k_is); (case kf => k_is);  k_whole); intro x' dx' news' h' tk' F' N' Nd' HP; k_dflt (obtain ⟨ks', rfl⟩ := HP); (try dsimp only [ackL, List.cons_append, List.nil_append] at N'); (try dsimp only [ackL, List.cons_append, List.nil_append, Nd, List.map] at Nd');  (try k_sweep); (try dsimp only); (try k_fold))) | fail "-"
  k_with "call ref" => first | ((k_here; k_dflt ((with_reducible show wpAny _ _ (call (Value.ref 1034) _) _ _ _); refine' use_cls (fun x dx => whe_init ) ?k1 ?k2 ?k3 ?k4 ?kn ?ks ?k5 ?k6 ?k7 ?k8 ?km ?ki ?kf ?_; k_extra "s premU"; (case km => k_is); (case ki => k_is); (case kf => k_is);  k_whole); intro x' dx' news' h' tk' F' N' Nd' HP; k_dflt (obtain ⟨_, _, _, ks', lw', hw', rfl⟩ := HP); replace N' := newsSwap N'; replace Nd' := ndSwap Nd'; (try dsimp only [wheH, List.cons_append, List.nil_append] at N'); (try dsimp only [wheH, List.cons_append, List.nil_append, Nd, List.map] at Nd');  (try k_sweep); (try dsimp only); (try k_fold))) | fail "-"
  trivial
theorem tcb_init {w : World} {x dx : Addr} {xL yL tl tr : Addr} {k : Tks} {ms iss : Int} {t : Tok} :
    ClM 25 w 1080 ((x, instObj 1098 dx) :: (dx, dictOf [] 0) :: limL w xL yL k ms) [.ref x, .ref xL, .ref tl, .ref tr, .int iss t] fun v l => v = .none ∧ ∃ (xS yS xP xQ yQ xC xG xK yK xW yW sl la en : Addr) (k kL kN kQ kK kW : Tks) (lw : Led), WheT w sl la en false lw ∧ l = [(x, instObj 1098 dx), (dx, dictOf (esT0 w.params k xL tl tr xS xC xG xK xW) 14)] ++ (limL w xL yL kL ms ++ (sndD w xS yS kN iss ms iss iss iss xP xQ true ++ (queL w xQ yQ kQ #[] ++ (ackL w xK yK kK 0 .none ++ (wheH w xW yW kW 0 sl la en ++ lw))))) := by
  k_extra "s fill"
  intro dp un gd cn cs a0 ccd cl outer A₀ base h₀ L m s mg mb mean Q rest B F X N hnd T hke hd hu hret
  all_goals (k_dflt (refine' enterM (binds := [(Mine.s "self", .ref x), (Mine.s "limits", .ref xL), (Mine.s "local", .ref tl), (Mine.s "remote", .ref tr), (Mine.s "iss", .int iss t)]) ?k1 ?k2 ?k3 ?k4 ?kn ?k5 ?kA ?kF ?kK ?k6 ?k7 ?k8 ?k9 ?kB ?kR ?_ ?c2 ?c3 ?c4 ?c5; k_extra "s premM"); intro g' L' h' F' N' Nd' B' X' T'; (try dsimp only [limL, List.cons_append, List.nil_append] at N'); (try dsimp only [limL, List.cons_append, List.nil_append, Nd, List.map] at Nd'); (try dsimp only); (try k_fold))
  all_goals k_steps
  all_goals ((try dsimp only); refine' endMS ?F ?N ?nd ?sp ⟨rfl, _, _, _, _, _, _, _, _, _, _, _, _, _, _, tokL [_, _, _, _, _, _, _, _, _, _, _, _, _, _, _, _, _], tokL [_, _, _, _, _, _, _, _, _, _, _, _, _, _, _, _, _, _, _, _], tokL [_, _, _, _, _, _, _, _, _, _, _, _, _, _, _, _, _], tokL [_, _, _, _], tokL [_, _, _, _, _, _], tokL [_, _, _, _, _, _, _, _], _, ?hw, rfl⟩; (case hw => assumption); (case F => k_asm); (case N => k_asm); (case sp => k_extra "s take"); (case nd => k_extra "s nd"); skip)
example : True := by
  trivial
example : True := by
  k_with "call ref" => first | ((k_here; k_dflt ((with_reducible show wpAny _ _ (call (Value.ref 169) _) _ _ _); refine' use_cls (fun x dx => asm_init ) ?k1 ?k2 ?k3 ?k4 ?kn ?ks ?k5 ?k6 ?k7 ?k8 ?km ?ki ?kf ?_; k_extra "s premU"; (case km => k_is); (case ki => k_is); (case kf => k_is);  k_whole); intro x' dx' news' h' tk' F' N' Nd' HP; k_dflt (obtain ⟨pl', ks', rfl⟩ := HP); (try dsimp only [asmL, List.cons_append, List.nil_append] at N'); (try dsimp only [asmL, List.cons_append, List.nil_append, Nd, List.map] at Nd');  (try k_sweep); (try dsimp only); (try k_fold))) | fail "-"
  trivial
theorem rcv_init {w : World} {x dx : Addr} {irs ms : Int} {t0 t1 t2 t3 : Tok} :
    ClMX 15 w 188 ((x, instObj 303 dx) :: (dx, dictOf [] 0) :: []) [.ref x, .int irs t0, .int 256 t1, .int 16 t2, .int ms t3] fun v l => v = .none ∧ ∃ (ba xA yA pl : Addr) (k kA : Tks), l = rcvB w x dx k ms (Int.fmod (irs + 1) 256) (Int.fmod (Int.fmod (irs + 1) 256 + 16) 256) ba xA #[] ++ asmL w xA yA pl kA 0 := by
  k_extra "s fill"
  intro dp un cn cs a0 ccd cl outer A₀ base h₀ L m s mg mb mean Q rest B F X N hnd T hke hd hu hret
  all_goals (k_dflt (refine' enterMX (binds := [(Mine.s "self", .ref x), (Mine.s "irs", .int irs t0), (Mine.s "ring", .int 256 t1), (Mine.s "room", .int 16 t2), (Mine.s "mss", .int ms t3)]) ?k1 ?k2 ?k3 ?k4 ?kn ?k5 ?kA ?kF ?kK ?k6 ?k7 ?k8 ?k9 ?kB ?kR ?_ ?c2 ?c3 ?c4 ?c5; k_extra "s premM"); intro g' L' h' F' N' Nd' B' X' T'; (try dsimp only [List.cons_append, List.nil_append] at N'); (try dsimp only [List.cons_append, List.nil_append, Nd, List.map] at Nd'); (try dsimp only); (try k_fold))
  all_goals k_extra "x body"
  all_goals (k_extra "x any")
  all_goals (k_extra "x any")
  all_goals (k_extra "x any")
  all_goals (k_extra "x any")
  all_goals (refine X_cons (X_Assign_Attr (X_Call ?_)); (try k_fold); k_steps; (all_goals (try dsimp only)); refine X_callB0 (fun _ h => nomatch h) ?_; refine new_baX (by assumption) (by assumption) rfl ?_; intro x' h' F' N' lt'; k_lt lt'; (try k_sweep); (try dsimp only); (try k_fold); k_steps; (all_goals (try dsimp only)))
  all_goals (k_extra "x any")
  all_goals (k_extra "x any")
  all_goals (k_extra "x any")
  all_goals (k_extra "x any")
  all_goals (k_extra "x any")
  all_goals (k_extra "x nil")
  all_goals (try (exfalso; omega))
  all_goals ((try dsimp only); refine' endMS ?F ?N ?nd ?sp ⟨rfl, _, _, _, _, tokL [_, _, _, _, _, _, _, _, _, _, _, _, _, _, _], tokL [_, _, _], rfl⟩; (case F => k_asm); (case N => k_asm); (case sp => k_extra "s take"); (case nd => k_extra "s nd"); skip)

noncomputable def offI (a b : Int) : Int := if isB a b 256 = true then 0 - Int.fmod (b - a) 256 else Int.fmod (a - b) 256
theorem isB_self (a : Int) : isB a a 256 = false := by simp [isB]
theorem offI_self (a : Int) : offI a a = 0 := by simp [offI, isB_self]
theorem fmod_id {nx : Int} (h0 : 0 ≤ nx) (h1 : nx < 256) : Int.fmod (nx + 0) 256 = nx := by
  rw [Int.add_zero, Int.fmod_eq_emod_of_nonneg _ (by decide)]; exact Int.emod_eq_of_lt h0 h1
/-- what waits in the assembly: nothing, or b at nx -/
noncomputable def AsmR (pl : Addr) (nx : Int) (b : Array UInt8) (l : Led) : Prop := (b = #[] ∧ ∃ e0, l = [(pl, listOf #[] e0)]) ∨
  (∃ (tp : Addr) (e0 : Nat) (t8 t9 : Tok), l = [(pl, listOf #[.ref tp] e0), (tp, { cls := .type "tuple", data := .seq #[.int nx t8, .bytes b t9] })])
theorem offset_s {w : World} {news : Led} {x d pl : Addr} {k : Tks} {a b : Int} {t0 t1 : Tok} (hx : (x, instObj 169 d) ∈ news) (hd : (d, dictOf (esA w.params k pl) 2) ∈ news) :
    Cl 12 w 110 news [.ref x, .int a t0, .int b t1] fun h₀ L m s Q => Ret h₀ L m news s Q (fun t => .int (offI a b) t) := by
  k_extra "s fill"
  intro dp un gd cn cs a0 ccd cl outer A₀ base h₀ L m s mg mb mean Q E B F X N T hke hd hu hret
  dsimp only [Ret] at hret
  k_extra "s start"
  all_goals (k_with "tree" => simp only [offI])
  all_goals cb_end hret
theorem offset_self {w : World} {news : Led} {x d pl : Addr} {k : Tks} {a : Int} {t0 t1 : Tok} (hx : (x, instObj 169 d) ∈ news) (hd : (d, dictOf (esA w.params k pl) 2) ∈ news) :
    Cl 12 w 110 news [.ref x, .int a t0, .int a t1] fun h₀ L m s Q => Ret h₀ L m news s Q (fun t => .int 0 t) := by
  have z := offset_s (w := w) (news := news) (a := a) (b := a) (t0 := t0) (t1 := t1) hx hd
  rw [offI_self] at z
  exact z
example : True := by
  k_with "call ref" => first | ((k_here; k_dflt ((with_reducible show wpAny _ _ (call (Value.ref 110) _) _ _ _); refine' use_cl (offset_self (k := tokL [_, _, _]) ?h0 ?h1) ?k1 ?k2 ?k3 ?k4 ?k5 ?k6 ?k7 ?k8 ?_; k_extra "s prem"; (case h0 => k_extra "s hyp"); (case h1 => k_extra "s hyp"); k_whole); (try dsimp only [Ret]); intro t9 h9 tk9 F9 N9; (try dsimp only); (try k_fold))) | fail "-"
  trivial
theorem aput_s {w : World} {x d pl : Addr} {k : Tks} {e0 : Nat} {nx : Int} {b : Array UInt8} {t0 t1 t2 : Tok} (h0 : 0 < b.size) (hz : b.size ≤ 1048576) (n0 : 0 ≤ nx) (n1 : nx < 256) : ClM 25 w 117 (asmL w x d pl k e0) [.ref x, .int nx t0, .bytes b t1, .int nx t2] fun v l => v = .none ∧ ∃ (pl tp : Addr) (k : Tks) (e0 : Nat) (sq : Int) (c : Array UInt8) (t8 t9 : Tok), nx = sq ∧ b = c ∧ l = [(x, instObj 169 d), (d, dictOf (esA w.params k pl) 2)] ++ [(pl, listOf #[.ref tp] e0), (tp, { cls := .type "tuple", data := .seq #[.int sq t8, .bytes c t9] })] := by
  k_extra "s fill"
  intro dp un gd cn cs a0 ccd cl outer A₀ base h₀ L m s mg mb mean Q rest B F X N hnd T hke hd hu hret
  all_goals (k_dflt (refine' enterM (binds := [(Mine.s "self", .ref x), (Mine.s "seq", .int nx t0), (Mine.s "octets", .bytes b t1), (Mine.s "next", .int nx t2)]) ?k1 ?k2 ?k3 ?k4 ?kn ?k5 ?kA ?kF ?kK ?k6 ?k7 ?k8 ?k9 ?kB ?kR ?_ ?c2 ?c3 ?c4 ?c5; k_extra "s premM"); intro g' L' h' F' N' Nd' B' X' T'; (try dsimp only [asmL, List.cons_append, List.nil_append] at N'); (try dsimp only [asmL, List.cons_append, List.nil_append, Nd, List.map] at Nd'); (try dsimp only); (try k_fold))
  all_goals k_steps
  all_goals (try (exfalso; omega))
  all_goals ((try dsimp only); refine' endMS ?F ?N ?nd ?sp ⟨rfl, _, _, tokL [_, _, _], _, _, _, _, _, ?q1, ?q2, rfl⟩; (case F => k_asm); (case N => k_asm); (case sp => k_extra "s take"); (case nd => k_extra "s nd"); (case q1 => exact (fmod_id n0 n1).symm); (case q2 => exact (Eq.trans (by assumption) (picked_zero b)).symm); skip)
theorem atake1_s {w : World} {x d pl tp : Addr} {k : Tks} {t8 t9 : Tok} {e0 : Nat} {nx : Int} {b : Array UInt8} {t0 : Tok} (hz : b.size ≤ 1048576) : ClM 25 w 152 ([(x, instObj 169 d), (d, dictOf (esA w.params k pl) 2)] ++ [(pl, listOf #[.ref tp] e0), (tp, { cls := .type "tuple", data := .seq #[.int nx t8, .bytes b t9] })]) [.ref x, .int nx t0] fun v l => (∃ t, v = .bytes b t) ∧ ∃ (pl : Addr) (k : Tks) (e0 : Nat), l = asmL w x d pl k e0 := by
  k_extra "s fill"
  intro dp un gd cn cs a0 ccd cl outer A₀ base h₀ L m s mg mb mean Q rest B F X N hnd T hke hd hu hret
  all_goals (k_dflt (refine' enterM (binds := [(Mine.s "self", .ref x), (Mine.s "next", .int nx t0)]) ?k1 ?k2 ?k3 ?k4 ?kn ?k5 ?kA ?kF ?kK ?k6 ?k7 ?k8 ?k9 ?kB ?kR ?_ ?c2 ?c3 ?c4 ?c5; k_extra "s premM"); intro g' L' h' F' N' Nd' B' X' T'; (try dsimp only [List.cons_append, List.nil_append] at N'); (try dsimp only [List.cons_append, List.nil_append, Nd, List.map] at Nd'); (try dsimp only); (try k_fold))
  all_goals k_steps
  all_goals (try (exfalso; omega))
  all_goals ((try dsimp only); refine' endMS ?F ?N ?nd ?sp ⟨⟨_, rfl⟩, _, tokL [_, _, _], _, rfl⟩; (case F => k_asm); (case N => k_asm); (case sp => k_extra "s take"); (case nd => k_extra "s nd"); skip)
theorem atake0_s {w : World} {x d pl : Addr} {k : Tks} {e0 : Nat} {nx : Int} {t0 : Tok} : ClM 25 w 152 (asmL w x d pl k e0) [.ref x, .int nx t0] fun v l => (∃ t, v = .bytes #[] t) ∧ ∃ (pl : Addr) (k : Tks) (e0 : Nat), l = asmL w x d pl k e0 := by
  k_extra "s fill"
  intro dp un gd cn cs a0 ccd cl outer A₀ base h₀ L m s mg mb mean Q rest B F X N hnd T hke hd hu hret
  all_goals (k_dflt (refine' enterM (binds := [(Mine.s "self", .ref x), (Mine.s "next", .int nx t0)]) ?k1 ?k2 ?k3 ?k4 ?kn ?k5 ?kA ?kF ?kK ?k6 ?k7 ?k8 ?k9 ?kB ?kR ?_ ?c2 ?c3 ?c4 ?c5; k_extra "s premM"); intro g' L' h' F' N' Nd' B' X' T'; (try dsimp only [asmL, List.cons_append, List.nil_append] at N'); (try dsimp only [asmL, List.cons_append, List.nil_append, Nd, List.map] at Nd'); (try dsimp only); (try k_fold))
  all_goals k_steps
  all_goals (try (exfalso; omega))
  all_goals ((try dsimp only); refine' endMS ?F ?N ?nd ?sp ⟨⟨_, rfl⟩, _, tokL [_, _, _], _, rfl⟩; (case F => k_asm); (case N => k_asm); (case sp => k_extra "s take"); (case nd => k_extra "s nd"); skip)
theorem atake_s {w : World} {x d pl : Addr} {k : Tks} {nx : Int} {b : Array UInt8} {t0 : Tok} {lt : Led} (h : AsmR pl nx b lt) (hz : b.size ≤ 1048576) : ClM 25 w 152 ([(x, instObj 169 d), (d, dictOf (esA w.params k pl) 2)] ++ lt) [.ref x, .int nx t0] fun v l => (∃ t, v = .bytes b t) ∧ ∃ (pl : Addr) (k : Tks) (e0 : Nat), l = asmL w x d pl k e0 := by
  rcases h with ⟨rfl, e0, rfl⟩ | ⟨tp, e0, t8, t9, rfl⟩
  · exact atake0_s
  · exact atake1_s hz
section
open PySem PySem.W PySem.Calls PySem.Spec PyProof.Rows
section
variable {prog : Program} {w : World} {A : Around} {E : Value → Shared → Prop} {s : Shared} {h₀ : Heap} {L : Addr} {m : Str → Option Value} {news : Led} {a : Addr} {b : Array UInt8}
theorem ba_sliceN {value slice : PySem.Expr} {l u : Value} {lo hi : Option Int} {Q : Value → Shared → Prop}
    (F : Fr h₀ L s.heap m) (N : News h₀ L s.heap news) (hm : (a, baObj b) ∈ news) (hz : b.size ≤ 1048576) (hl : IsPart l lo) (hu : IsPart u hi)
    (h : ∀ c D h', c = KBy.picked b lo hi → c.size ≤ b.size → Fr h₀ L h' m → News h₀ L h' ((D, baObj c) :: news) → (∀ p ∈ news, p.1 < D) → Q (.ref D) { s with heap := h' })
    (hs : subscripted slice false (.ref a) (.ref s.heap.objs.size) = operate [.ref s.heap.objs.size, .ref a] (getItem (.ref a) (.ref s.heap.objs.size)) := by with_unfolding_all rfl) :
    wpAny (model prog w) A (subscriptTail value slice (.ref a) (.ref s.heap.objs.size)) Q E { s with heap := s.heap.push { cls := .type "slice", data := .fields #[l, u, .none] } } :=
  ba_slice F N (N _ hm).1 hz hl hu (fun D h' F' N' lt => h _ D h' rfl (KBc.size_picked_le b lo hi) F' N' lt) hs
theorem bytes_baN {Q : Value → Shared → Prop} (N : News h₀ L s.heap news) (hm : (a, baObj b) ∈ news) (hz : b.size ≤ 1048576) (h : Q (.bytes b s.toks) { s with toks := s.toks + 1 }) :
    wpAny (model prog w) A (call (.type "bytes") [.ref a]) Q E s := bytes_of_ba (N _ hm).1 rfl rfl hz h
theorem extend_method {pl : Sem Bool} {Q : Value × List Value → Shared → Prop} (N : News h₀ L s.heap news) (hm : (a, baObj b) ∈ news) (h : Q (.builtin "bytearray.extend", [.ref a]) s) :
    wpAny (model prog w) A (getMethod (.ref a) (Str.ofString "extend") pl) Q E s := by
  refine getMethod_builtin (T := "bytearray") (id := "bytearray.extend") ⟨_, (N _ hm).1, rfl⟩ ba_plainAttrs ba_slot_extend ba_type_extend (fun a' e => ?_) h
  injection e with e
  subst e
  exact ⟨_, (N _ hm).1, rfl⟩
end
theorem sz_to {b c : Array UInt8} {hi : Int} (h : c = KBy.picked b none (some hi)) (h0 : 0 ≤ hi) : c.size = min hi.toNat b.size := by rw [h]; exact size_picked b hi h0
theorem sz_from {b c : Array UInt8} {lo : Int} (h : c = KBy.picked b (some lo) none) (h0 : 0 ≤ lo) : c.size = b.size - lo.toNat := by rw [h]; exact size_picked_from b lo h0
end
example : True := by
  trivial
example : True := by
  k_with "subscriptTail" => first | ((k_here; (with_reducible show wpAny _ _ (subscriptTail _ (Expr.Slice _ _ none _) (Value.ref _) (Value.ref _)) _ _ _); k_dflt (refine' ba_sliceN (s := ⟨_, _, _, _, _⟩) ?k1 ?k2 ?km ?k3 ?k4 ?k5 ?_; (case k1 => k_asm); (case k2 => k_asm); (case km => k_mem); (case k3 => k_extra "s size"); (case k4 => constructor); (case k5 => constructor); k_whole); intro c' D' h' hc' hzc' F' N' lt'; (try k_lt lt'); (try k_sweep); (try dsimp only); (try k_fold))) | fail "-"
  k_with "call type:bytes" => first | ((k_here; (with_reducible show wpAny _ _ (call (Value.type "bytes") [Value.ref _]) _ _ _); k_dflt (refine' bytes_baN ?k1 ?km ?k2 ?_; (case k1 => k_asm); (case km => k_mem); (case k2 => k_extra "s size"); k_whole); (try dsimp only); (try k_fold))) | fail "-"
  k_with "getMethod ref" => first | ((k_here; k_dflt (refine' extend_method ?k1 ?km ?_; (case k1 => k_asm); (case km => k_mem); k_whole); (try dsimp only); (try k_fold))) | fail "-"
  trivial
theorem let_in_1 {w : World} {x d ba xA : Addr} {k : Tks} {mss nx ed : Int} {b : Array UInt8} {t0 t1 : Tok} (hb : isB nx ed 256 = true) (h1 : (b.size : Int) ≤ Int.fmod (ed - nx) 256) (hz : b.size ≤ 1048576) : ClM 12 w 230 [(x, instObj 303 d), (d, dictOf (esR w.params k mss nx ed ba xA) 10)] [.ref x, .int nx t0, .bytes b t1] fun v l => (∃ t, v = .bytes b t) ∧ ∃ k : Tks, l = [(x, instObj 303 d), (d, dictOf (esR w.params k mss nx ed ba xA) 10)] := by
  k_extra "s fill"
  intro dp un gd cn cs a0 ccd cl outer A₀ base h₀ L m s mg mb mean Q rest B F X N hnd T hke hd hu hret
  all_goals (k_dflt (refine' enterM (binds := [(Mine.s "self", .ref x), (Mine.s "seq", .int nx t0), (Mine.s "octets", .bytes b t1)]) ?k1 ?k2 ?k3 ?k4 ?kn ?k5 ?kA ?kF ?kK ?k6 ?k7 ?k8 ?k9 ?kB ?kR ?_ ?c2 ?c3 ?c4 ?c5; k_extra "s premM"); intro g' L' h' F' N' Nd' B' X' T'; (try dsimp only [List.cons_append, List.nil_append] at N'); (try dsimp only [List.cons_append, List.nil_append, Nd, List.map] at Nd'); (try dsimp only); (try k_fold))
  all_goals k_steps
  all_goals (try (exfalso; omega))
  all_goals ((try dsimp only); refine' endMS ?F ?N ?nd ?sp ⟨⟨_, congrArg (Value.bytes · _) (Eq.trans ?q ?q2)⟩, tokL [_, _, _, _, _, _, _, _, _, _, _, _, _, _, _], rfl⟩; (case F => k_asm); (case N => k_asm); (case sp => k_extra "s take"); (case nd => k_extra "s nd"); (case q => assumption); (case q2 => exact picked_all _ _ h1); skip)
theorem let_in_0 {w : World} {x d ba xA : Addr} {k : Tks} {mss nx ed : Int} {t0 t1 : Tok} (hb : isB nx ed 256 = false) : ClM 12 w 230 [(x, instObj 303 d), (d, dictOf (esR w.params k mss nx ed ba xA) 10)] [.ref x, .int nx t0, .bytes #[] t1] fun v l => (∃ t, v = .bytes #[] t) ∧ ∃ k : Tks, l = [(x, instObj 303 d), (d, dictOf (esR w.params k mss nx ed ba xA) 10)] := by
  k_extra "s fill"
  intro dp un gd cn cs a0 ccd cl outer A₀ base h₀ L m s mg mb mean Q rest B F X N hnd T hke hd hu hret
  all_goals (k_dflt (refine' enterM (binds := [(Mine.s "self", .ref x), (Mine.s "seq", .int nx t0), (Mine.s "octets", .bytes #[] t1)]) ?k1 ?k2 ?k3 ?k4 ?kn ?k5 ?kA ?kF ?kK ?k6 ?k7 ?k8 ?k9 ?kB ?kR ?_ ?c2 ?c3 ?c4 ?c5; k_extra "s premM"); intro g' L' h' F' N' Nd' B' X' T'; (try dsimp only [List.cons_append, List.nil_append] at N'); (try dsimp only [List.cons_append, List.nil_append, Nd, List.map] at Nd'); (try dsimp only); (try k_fold))
  all_goals k_steps
  all_goals (try (exfalso; omega))
  all_goals ((try dsimp only); refine' endMS ?F ?N ?nd ?sp ⟨⟨_, rfl⟩, tokL [_, _, _, _, _, _, _, _, _, _, _, _, _, _, _], rfl⟩; (case F => k_asm); (case N => k_asm); (case sp => k_extra "s take"); (case nd => k_extra "s nd"); skip)
theorem let_in_s {w : World} {x d ba xA : Addr} {k : Tks} {mss nx ed : Int} {b : Array UInt8} {t0 t1 : Tok} (h1 : (b.size : Int) ≤ toldW nx ed) (h0 : isB nx ed 256 = false → b.size = 0) (h2 : isB ed nx 256 = false) (hz : b.size ≤ 1048576) : ClM 12 w 230 [(x, instObj 303 d), (d, dictOf (esR w.params k mss nx ed ba xA) 10)] [.ref x, .int nx t0, .bytes b t1] fun v l => (∃ t, v = .bytes b t) ∧ ∃ k : Tks, l = [(x, instObj 303 d), (d, dictOf (esR w.params k mss nx ed ba xA) 10)] := by
  cases hb : isB nx ed 256 with
  | true => exact let_in_1 hb (by unfold toldW at h1; rwa [if_neg (by rw [h2]; decide)] at h1) hz
  | false =>
    obtain rfl : b = #[] := Array.eq_empty_of_size_eq_zero (h0 hb)
    exact let_in_0 hb
theorem read_s {w : World} {x d ba xA : Addr} {k : Tks} {mss nx ed many : Int} {b : Array UInt8} {t0 : Tok} (h0 : 0 ≤ many) (h1 : many ≤ b.size) (hz : b.size ≤ 1048576) : ClM 12 w 272 (rcvB w x d k mss nx ed ba xA b) [.ref x, .int many t0] fun v l => (∃ (c : Array UInt8) (t : Tok), v = .bytes c t ∧ (c.size : Int) = many) ∧ ∃ (k : Tks) (ba : Addr) (b' : Array UInt8), (b'.size : Int) = b.size - many ∧ l = rcvB w x d k mss nx ed ba xA b' := by
  k_extra "s fill"
  intro dp un gd cn cs a0 ccd cl outer A₀ base h₀ L m s mg mb mean Q rest B F X N hnd T hke hd hu hret
  all_goals (k_dflt (refine' enterM (binds := [(Mine.s "self", .ref x), (Mine.s "many", .int many t0)]) ?k1 ?k2 ?k3 ?k4 ?kn ?k5 ?kA ?kF ?kK ?k6 ?k7 ?k8 ?k9 ?kB ?kR ?_ ?c2 ?c3 ?c4 ?c5; k_extra "s premM"); intro g' L' h' F' N' Nd' B' X' T'; (try dsimp only [rcvB, List.cons_append, List.nil_append] at N'); (try dsimp only [rcvB, List.cons_append, List.nil_append, Nd, List.map] at Nd'); (try dsimp only); (try k_fold))
  all_goals k_steps
  all_goals (try (exfalso; omega))
  all_goals ((try dsimp only); refine' endMS ?F ?N ?nd ?sp ⟨⟨_, _, rfl, ?q1⟩, tokL [_, _, _, _, _, _, _, _, _, _, _, _, _, _, _], _, _, ?q2, rfl⟩; (case F => k_asm); (case N => k_asm); (case sp => k_extra "s take"); (case nd => k_extra "s nd"); (case q1 => have z := sz_to (by assumption) h0; omega); (case q2 => have z := sz_to (by assumption) h0; have y := sz_from (by assumption) (Int.natCast_nonneg _); omega); skip)
example : True := by
  trivial
example : True := by
  k_with "call ref" => first | ((k_here; k_dflt ((with_reducible show wpAny _ _ (call (Value.ref 152) _) _ _ _); refine' use_clm (atake_s ?h0 ?h1) ?k1 ?k2 ?k3 ?k4 ?kn ?ks ?k5 ?k6 ?k7 ?k8 ?_;  k_extra "s premU"; (case h0 => k_extra "s hyp"); (case h1 => k_extra "s hyp"); k_whole); intro v' news' h' tk' F' N' Nd' HP; k_dflt (obtain ⟨⟨_, rfl⟩, _, ks', _, rfl⟩ := HP); (try dsimp only [asmL, List.cons_append, List.nil_append] at N'); (try dsimp only [asmL, List.cons_append, List.nil_append, Nd, List.map] at Nd');  (try k_sweep); (try dsimp only); (try k_fold))) | fail "-"
  trivial
theorem gather_s {w : World} {x d ba xA yA pl : Addr} {k kA : Tks} {mss nx ed : Int} {b c : Array UInt8} {lt : Led} (h : AsmR pl nx c lt) (hz : b.size + c.size ≤ 1048576) (hz2 : c.size ≤ 1048576) : ClMX 30 w 251 (rcvB w x d k mss nx ed ba xA b ++ ([(xA, instObj 169 yA), (yA, dictOf (esA w.params kA pl) 2)] ++ lt)) [.ref x] fun v l => (∃ t, v = .int c.size t) ∧ ∃ (pl : Addr) (k kA : Tks) (e0 : Nat), l = rcvB w x d k mss (Int.fmod (nx + c.size) 256) ed ba xA (b ++ c) ++ asmL w xA yA pl kA e0 := by
  k_extra "s fill"
  intro dp un cn cs a0 ccd cl outer A₀ base h₀ L m s mg mb mean Q rest B F X N hnd T hke hd hu hret
  all_goals (k_dflt (refine' enterMX (binds := [(Mine.s "self", .ref x)]) ?k1 ?k2 ?k3 ?k4 ?kn ?k5 ?kA ?kF ?kK ?k6 ?k7 ?k8 ?k9 ?kB ?kR ?_ ?c2 ?c3 ?c4 ?c5; k_extra "s premM"); intro g' L' h' F' N' Nd' B' X' T'; (try dsimp only [rcvB, List.cons_append, List.nil_append] at N'); (try dsimp only [rcvB, List.cons_append, List.nil_append, Nd, List.map] at Nd'); (try dsimp only); (try k_fold))
  all_goals k_extra "x body"
  all_goals (k_extra "x any")
  all_goals (k_extra "x any")
  all_goals (refine X_cons (X_Expr (X_MethodCall ?_)); (try k_fold); k_steps; (all_goals (try dsimp only)); refine X_callB (fun _ h => nomatch h) ?_; (try k_fold); k_steps; (all_goals (try dsimp only)); refine' extendX ?F ?N rfl ?U ?z ?_; (case F => k_asm); (case N => k_asm); (case U => k_upd); (case z => assumption); intro h' F' N'; (try k_sweep); (try dsimp only))
  all_goals (k_extra "x any")
  all_goals (k_extra "x any")
  all_goals (k_extra "x any")
  all_goals (try (exfalso; omega))
  all_goals ((try dsimp only); refine' endMS ?F ?N ?nd ?sp ⟨⟨_, rfl⟩, _, tokL [_, _, _, _, _, _, _, _, _, _, _, _, _, _, _], tokL [_, _, _], _, rfl⟩; (case F => k_asm); (case N => k_asm); (case sp => k_extra "s take"); (case nd => k_extra "s nd"); skip)
section
open PySem PySem.W PySem.Calls PySem.Spec PyProof.Rows
/-- a claim on a call, of what stands below the caller's frame besides -/
noncomputable abbrev ClMZ (Z : Heap → Prop) (hgt : Nat) (w : World) (f : Addr) (sub : Led) (vs : List Value) (P : Value → Led → Prop) : Prop :=
  ∀ (dp un : Nat) (gd : Option (List Code)) (cn : Str) (cs : Scope) (a : Addr) (ccd : Value) (cl : List (Str × Addr)) (outer : List Env) (A₀ : Around) (base h₀ : Heap) (L : Addr) (m : Str → Option Value) (s : Shared) (mg mb : Str → Option Value) (mean : ExcName → Option Value) (Q : Value → Shared → Prop) (rest : Led),
    Z h₀ → Below A₀ base outer h₀ → Fr h₀ L s.heap m → (K w.params).In h₀ → News h₀ L s.heap (sub ++ rest) → Nd (sub ++ rest) → Top qv loose mean mg mb h₀ → cs.kind = .function →
    dp + hgt < recursionLimit → un + 10 * hgt < cLine → BackM h₀ L m rest s P Q →
      codeAny (model pw w) (ktrTop dp un gd cn cs L a ccd cl outer) (.call (.ref f) ⟨vs, []⟩) (Got Q) s
section
variable {Z : Heap → Prop} {hgt : Nat} {w : World} {f : Addr} {sub : Led} {vs : List Value} {P : Value → Led → Prop}
    {dp un : Nat} {gd : Option (List Code)} {cn : Str} {cs : Scope} {a : Addr} {ccd : Value} {cl : List (Str × Addr)} {outer : List Env} {A₀ : Around} {base h₀ : Heap} {L : Addr} {m : Str → Option Value} {s : Shared} {mg mb : Str → Option Value} {mean : ExcName → Option Value} {Q E : Value → Shared → Prop} {l rest : Led}
theorem use_clmZ (c : ClMZ Z hgt w f sub vs P) (k0 : Z h₀)
    (k1 : Below A₀ base outer h₀) (k2 : Fr h₀ L s.heap m) (k3 : (K w.params).In h₀) (k4 : News h₀ L s.heap l) (kn : Nd l) (ks : Split l sub rest) (k5 : Top qv loose mean mg mb h₀) (k6 : cs.kind = .function) (k7 : dp + hgt < recursionLimit) (k8 : un + 10 * hgt < cLine) (k9 : BackM h₀ L m rest s P Q) :
    wpAny (model pw w) (ktrTop dp un gd cn cs L a ccd cl outer) (call (.ref f) vs) Q E s :=
  wpAny_call (codeAny_mono (c _ _ _ _ _ _ _ _ _ _ _ _ _ _ _ _ _ _ _ _ k0 k1 k2 k3 (ks.news k4) (ks.nd kn) k5 k6 k7 k8 k9) fun r s' h => by obtain ⟨v, rfl, h⟩ := h; exact h)
end
section
variable {prog : Program} {w : World} {A A₀ : Around} {s : Shared} {Kf : Frag} {L : Addr} {h₀ base : Heap} {m : Str → Option Value} {sub rest : Led} {env : Env} {outer : List Env} {Q E : Value → Shared → Prop} {P : Value → Led → Prop}
variable {name qual : Str} {params : Arguments} {body : List Stmt} {scope : Scope} {dV kV doc pm cdv ct oc : Value} {an od : Option Addr} {osl : Array (Option Value)} {f : Addr} {args : Args} {binds : List (Str × Value)} {p : Program} {loose : List Str} {mean : ExcName → Option Value} {mg mb : Str → Option Value}
/-- enterM, and what stood below stands -/
theorem enterMZ {vs : List Value} {kw : List (Str × Value)} {Z : Heap → Prop} (hZ : ∀ h h' : Heap, h.StaysIn h' → Z h → Z h') (z0 : Z h₀) (B : Below A₀ base outer h₀) (F : Fr h₀ L s.heap m) (X₀ : Kf.In h₀) (N : News h₀ L s.heap (sub ++ rest)) (hnd : Nd (sub ++ rest)) (T : Top p loose mean mg mb h₀) (hA : A.frames = some (env :: outer)) (hf : env.frame = some L) (hke : env.scope.kind = .function)
    (ho : Kf.lookup f = some ⟨oc, od, .func (fnOf name qual params body scope dV kV doc pm an cdv ct), osl⟩) (hcd : codeIn Kf cdv qual = true) (hroom : A.depth < recursionLimit)
    (hbind : BindsTo s (fnOf name qual params body scope dV kV doc pm an cdv ct) ⟨vs, kw⟩ binds) (hloc : ∀ y ∈ binds, scope.names.lookup y.1 = some .local) (hret : BackM h₀ L m rest s P Q)
    (h : ∀ g L' h₁, Z g → Fr g L' h₁ (fun y => binds.reverse.lookup y) → News g L' h₁ sub → Nd sub → Below A base (env :: outer) g → Kf.In g → Top p loose mean mg mb g →
      wpAny (model prog w) (A.deeper (envOf qual scope L' f cdv)) (execs body (envOf qual scope L' f cdv))
        (fun fl s' => EndM g P s (match fl with | .ret v => v | _ => .none) s') (fun _ _ => False)
        { s with heap := h₁, toks := s.toks + binds.length })
    (hco : scope.isCoroutine = false) (hgen : scope.isGenerator = false) (hk : scope.kind = .function) (hcell : ∀ x ∈ scope.names, x.2 ≠ .cell) : codeAny (model prog w) A (.call (.ref f) ⟨vs, kw⟩) (Got Q) s := by
  obtain ⟨FG, BG, st, lv⟩ := groundM (P := P) (Q := Q) B F N hnd hA hf hke hret
  refine (codeAny_call_def (fd := fnOf name qual params body scope dV kV doc pm an cdv ct) (body := body) (binds := binds) hroom ((X₀.keeps F.keep) _ _ ho) rfl (T.nolimit.keeps F.keep) (codeRec_of (X₀.keeps F.keep) hcd) rfl hbind hcell hloc (fun h₁ hns hk₁ => ?_) hco hgen hk)
  exact wpAny_mono (h _ s.heap.objs.size h₁ (hZ _ _ st z0) ⟨hns, fun b o e => hk₁ b o (of_hideAll _ e), Nat.le_of_eq (hideAll_size _ _)⟩
    (fun p hp => ⟨hk₁ _ _ (N p (List.mem_append_left _ hp)).1, Nat.ne_of_lt (Heap.lt_size (N p (List.mem_append_left _ hp)).1), hideAll_none _ (List.mem_map_of_mem hp)⟩) (nd_left hnd) BG (X₀.keeps st) (T.keeps st)) (fun fl s' hl => ⟨_, rfl, lv _ _ hl⟩) fun _ _ y => y.elim
/-- the law's own frame, in the logic without decoders -/
theorem enterLaw {R : Result → Shared → Prop} {fd : FuncData} {a : Addr} {o : Obj} (hroom : A.depth < recursionLimit) (ho : s.heap.get? a = some o) (hdata : o.data = .func fd) (hlim : s.heap.NoLimit) (hcd : s.heap.CodeRec fd.code fd.qualname)
    (hbody : fd.body = .stmts body) (hbind : BindsTo s fd args binds)
    (hcell : ∀ x ∈ fd.scope.names, x.2 ≠ .cell) (hloc : ∀ x ∈ binds, fd.scope.names.lookup x.1 = some .local)
    (h : ∀ h₁, Fr s.heap s.heap.objs.size h₁ (fun x => binds.reverse.lookup x) →
      wpX (model prog w) (A.deeper (callEnv fd s.heap.objs.size a)) (execs body (callEnv fd s.heap.objs.size a))
        (fun f s' => R (.ok (.ret (match f with | .ret v => v | _ => .none))) s') { s with heap := h₁, toks := s.toks + binds.length })
    (hco : fd.scope.isCoroutine = false) (hgen : fd.scope.isGenerator = false) (hk : fd.scope.kind = .function) :
    codeX (model prog w) A (.call (.ref a) args) R s := by
  refine codeX_of_tree ?_
  show wpX _ A.in1 (callAny (.ref a) args) _ s
  simp only [callAny]
  refine X_abind (wpAny_load ho ?_)
  rw [hdata]
  dsimp only
  obtain ⟨c, oc', vs, tq, hc, hoc, hdc, hq⟩ := hcd
  simp only [callFunction, hco, hgen, hc]
  refine X_abind (m := field (.ref c) 1) (wpAny_field hoc hdc hq ?_)
  refine X_abind (wpAny_pure ?_)
  refine X_abind (hbind _ _ _ _ ?_)
  refine X_abind (wpAny_newFunctionEnv hcell hloc (fun h₁ hns hsb => ?_) hk)
  have hk₁ : ∀ b o, s.heap.get? b = some o → h₁.get? b = some o := fun b o e => hsb.extBut b o (Nat.ne_of_lt (Heap.lt_size e)) (Heap.get?_push_of_some _ e)
  refine X_abind (wpAny_enterFrame (hlim.fresh _ hsb) (by exact hroom) ?_)
  have z := h h₁ ⟨hns, hk₁, Nat.le_refl _⟩
  simp only [hbody]
  unfold callEnv at z
  rw [hc] at z
  refine X_pure ⟨rfl, rfl, codeX_func z⟩
end
end
section
open PySem PySem.W PySem.Calls PySem.Spec PyProof.Rows
section
variable {prog : Program} {w : World} {A A₀ : Around} {s : Shared} {Kf : Frag} {L : Addr} {h₀ base : Heap} {m : Str → Option Value} {sub rest : Led} {env : Env} {outer : List Env} {Q E : Value → Shared → Prop} {P : Value → Led → Prop}
variable {name qual : Str} {params : Arguments} {body : List Stmt} {scope : Scope} {dV kV doc pm cdv ct oc : Value} {an od : Option Addr} {osl : Array (Option Value)} {f : Addr} {args : Args} {binds : List (Str × Value)} {p : Program} {loose : List Str} {mean : ExcName → Option Value} {mg mb : Str → Option Value}
/-- enterM for a def with one cell -/
theorem enterMC {vs : List Value} {kw : List (Str × Value)} {cx : Str} (B : Below A₀ base outer h₀) (F : Fr h₀ L s.heap m) (X₀ : Kf.In h₀) (N : News h₀ L s.heap (sub ++ rest)) (hnd : Nd (sub ++ rest)) (T : Top p loose mean mg mb h₀) (hA : A.frames = some (env :: outer)) (hf : env.frame = some L) (hke : env.scope.kind = .function)
    (ho : Kf.lookup f = some ⟨oc, od, .func (fnOf name qual params body scope dV kV doc pm an cdv ct), osl⟩) (hcd : codeIn Kf cdv qual = true) (hroom : A.depth < recursionLimit)
    (hbind : BindsTo s (fnOf name qual params body scope dV kV doc pm an cdv ct) ⟨vs, kw⟩ binds) (hkind : (binds.all fun y => scope.names.lookup y.1 == some .local || scope.names.lookup y.1 == some .cell) = true)
    (hone : ∀ k, cellsFrom k scope.names [] = [(cx, k)]) (hret : BackM h₀ L m rest s P Q)
    (h : ∀ g L' h₁ tk o', Fr g L' h₁ (bindL (envOfC qual scope L' f cdv).kindOf binds fun _ => none) → News g L' h₁ ((L' + 1, o') :: sub) → Nd ((L' + 1, o') :: sub) →
      o'.data = .cell (bindC (envOfC qual scope L' f cdv).kindOf binds (fun _ => none) cx) → Below A base (env :: outer) g → Kf.In g → Top p loose mean mg mb g →
      wpAny (model prog w) (A.deeper (envX qual scope L' f cdv [(cx, L' + 1)])) (execs body (envX qual scope L' f cdv [(cx, L' + 1)]))
        (fun fl s' => EndM g P s (match fl with | .ret v => v | _ => .none) s') (fun _ _ => False)
        { s with heap := h₁, toks := tk })
    (hco : scope.isCoroutine = false) (hgen : scope.isGenerator = false) (hk : scope.kind = .function) : codeAny (model prog w) A (.call (.ref f) ⟨vs, kw⟩) (Got Q) s := by
  obtain ⟨FG, BG, st, lv⟩ := groundM (P := P) (Q := Q) B F N hnd hA hf hke hret
  refine codeAny_call_function (fd := fnOf name qual params body scope dV kV doc pm an cdv ct) hroom ((X₀.keeps F.keep) _ _ ho) rfl hco hgen rfl (codeRec_of (X₀.keeps F.keep) hcd) (hbind _ _ _ _ ?_)
  refine wpAny_newFunctionEnv_cells hk (kindsX hkind _) fun env' he s' x => ?_
  subst he
  refine ⟨(T.nolimit.keeps F.keep).keeps x.toInCall.keep, codeAny_func ?_⟩
  obtain ⟨h₁, tk, rfl, _⟩ := x.done
  have hk₁ := x.toInCall.keep
  have hx1 : (cx, s.heap.objs.size + 1) ∈ cellsFrom (s.heap.objs.size + 1) scope.names [] := by rw [hone]; exact .head _
  have hl : (cellsFrom (s.heap.objs.size + 1) scope.names []).lookup cx = some (s.heap.objs.size + 1) := by rw [hone]; simp [List.lookup]
  obtain ⟨o', ho', hd'⟩ := x.cell cx (s.heap.objs.size + 1) hl
  have lt : ∀ p ∈ sub, p.1 < s.heap.objs.size := fun p hp => Heap.lt_size (N p (List.mem_append_left _ hp)).1
  have z := h _ s.heap.objs.size h₁ tk o' ⟨x.toInCall.ns, fun b o e => hk₁ b o (of_hideAll _ e), Nat.le_of_eq (hideAll_size _ _)⟩ (fun p hp => ?_) ?_ hd' BG (X₀.keeps st) (T.keeps st)
  · have e : envOfC qual scope s.heap.objs.size f cdv = envX qual scope s.heap.objs.size f cdv [(cx, s.heap.objs.size + 1)] := by
      show envX qual scope s.heap.objs.size f cdv (cellsFrom (s.heap.objs.size + 1) scope.names []) = _
      rw [hone]
    rw [← e] at z
    exact wpAny_mono z (fun fl s' hl => ⟨_, rfl, lv _ _ hl⟩) fun _ _ y => y.elim
  · rcases List.mem_cons.mp hp with rfl | hp
    · refine ⟨ho', Nat.succ_ne_self _, ?_⟩
      cases q : (hideAll s.heap (sub.map (·.1))).get? (s.heap.objs.size + 1) with
      | none => rfl
      | some o => exact absurd (Heap.lt_size (of_hideAll _ q)) (Nat.not_lt.mpr (Nat.le_succ _))
    · exact ⟨hk₁ _ _ (N p (List.mem_append_left _ hp)).1, Nat.ne_of_lt (lt p hp), hideAll_none _ (List.mem_map_of_mem hp)⟩
  · refine nd_cons (fun q hq e => ?_) (nd_left hnd)
    have := lt q hq
    rw [← e] at this
    exact absurd this (Nat.not_lt.mpr (Nat.le_succ _))
end
end
section
open PySem PySem.W PySem.Calls PySem.Spec PyProof.Rows
section
variable {prog : Program} {w : World} {A : Around} {E : Value → Shared → Prop} {s : Shared} {h₀ : Heap} {L : Addr} {m : Str → Option Value} {env : Env} {news : Led} {a b : Addr}
theorem ne_emptyK {ys : List Value} {k j : Nat} {Q : Value → Shared → Prop} (N : News h₀ L s.heap news) (ha : (a, ({ cls := .type "list", data := .seq ys.toArray k } : Obj)) ∈ news) (hb : (b, W.listOf #[] j) ∈ news) (hu : A.units < cLine)
    (h : Q (.bool (!ys.isEmpty)) s) : wpAny (model prog w) A (compareOp .NotEq (.ref a) (.ref b)) Q E s := by
  cases ys with
  | nil => exact SeqAt.RcNeAt.lists (e := fun _ => true) ⟨_, (N _ ha).1, rfl, _, rfl⟩ ⟨_, (N _ hb).1, rfl, _, rfl⟩ rfl hu (fun j h1 _ => absurd h1 (Nat.not_lt_zero _)) prog w E Q h
  | cons y ys => exact SeqAt.RcNeAt.lists_lengths ⟨_, (N _ ha).1, rfl, _, rfl⟩ ⟨_, (N _ hb).1, rfl, _, rfl⟩ rfl hu prog w E Q h
theorem isEmpty_append {α : Type} (l r : List α) : (l ++ r).isEmpty = (l.isEmpty && r.isEmpty) := by cases l <;> rfl
/-- a comprehension with a test over ints: what is left in the end is known by its being empty -/
theorem due_rest {ct elt : Expr} {x : Str} {scope : Scope} {cl : List (Str × Addr)} {S : Led → Prop} {Fin : List Value → Led → Prop} {its : List Value} {ns : List Int} (q : Int → Bool) (hI : IntsAre its ns) (hS : S news)
    (turn : ∀ (n : Int) (t : Tok) (I : Addr) (oI : Obj) (C : Addr) (oC : Obj) (D : Addr) (oD : Obj) (m₂ : Str → Option Value) (h : Heap) (tk : Nat) (E' : Value → Shared → Prop) (Z1 Z0 : Value → Shared → Prop), LCg.NsObj oC m₂ → m₂ x = some (.int n t) → Fr h₀ L h m → News h₀ L h ((I, oI) :: (C, oC) :: (D, oD) :: news) →
      (q n = true → ∀ t tk, Z1 (.int n t) { s with heap := h, toks := tk }) → (q n = false → ∀ tk, Z0 .none { s with heap := h, toks := tk }) →
      wpAny (model prog w) A (isTrue ct (compEnvC scope cl C env) (eval ct (compEnvC scope cl C env))) (fun ok s' => if ok = true then wpAny (model prog w) A (eval elt (compEnvC scope cl C env)) Z1 E' s' else Z0 .none s') E' { s with heap := h, toks := tk })
    (fin : ∀ ys : List Value, ys.isEmpty = ns.all (fun n => !q n) → Fin ys news) :
    LCt.CompRestT prog w A h₀ L m env ct elt x scope cl s S (fun i v => its.toArray[i]? = some v) Fin its.toArray.size 0 [] news := by
  have key : ∀ (k i : Nat) (ys : List Value), i + k = its.length → ys.isEmpty = (ns.take i).all (fun n => !q n) → LCt.CompRestT prog w A h₀ L m env ct elt x scope cl s S (fun i v => its.toArray[i]? = some v) Fin k i ys news := by
    intro k
    induction k with
    | zero =>
      intro i ys hi hy
      refine LCt.CompRestT.zero (fin ys ?_)
      rw [hy, List.take_of_length_le (by have := hI.length; omega)]
    | succ k ih =>
      intro i ys hi hy
      refine LCt.CompRestT.succ ?_
      intro v I oI C oC D m₂ h tk E' hv hC hx F N off ne
      have hlt : i < its.length := by omega
      have hv' : its[i]? = some v := by simpa using hv
      obtain ⟨n, t, rfl, hn⟩ := IntsAre.at hI i v hv'
      have hle : i < ns.length := (List.getElem?_eq_some_iff.mp hn).1
      have hnt : ns.take (i + 1) = ns.take i ++ [n] := by
        rw [List.take_add_one, hn]; rfl
      have sub : ∀ p ∈ (I, oI) :: (C, oC) :: (D, LCg.lst ys) :: news, p ∈ (I, oI) :: (C, oC) :: (D, LCg.lst ys) :: news := fun _ h => h
      refine turn n t I oI C oC D (LCg.lst ys) m₂ h tk E' _ _ hC hx F N (fun hq t tk' => ?_) fun hq tk' => ?_
      · refine LCg.CompEnd.intro (s₁ := { s with heap := h, toks := tk }) F N news sub off hS ?_
        refine ih (i + 1) _ (by omega) ?_
        rw [hnt, List.all_append, isEmpty_append, ← hy]
        simp [hq]
      · refine LCg.CompEnd.intro (s₁ := { s with heap := h, toks := tk }) F N news sub off hS ?_
        refine ih (i + 1) _ (by omega) ?_
        rw [hnt, List.all_append, ← hy]
        simp [hq]
  have z := key its.length 0 [] (by omega) rfl
  rwa [show its.toArray.size = its.length by simp]
end
end
section
open PySem PySem.W PySem.Calls PySem.Spec PyProof.Rows
section
variable {M : Model} {A : Around} {s : Shared} {env : Env}
theorem X_isTrue_Not {x : Expr} {pos : Pos} {whole : Sem Value} {Q : Bool → Shared → Prop} (h : wpX M A (PySem.isTrue x env (eval x env)) (fun b s₁ => Q (!b) s₁) s) : wpX M A (PySem.isTrue (.UnaryOp .Not x pos) env whole) Q s := by
  show wpX M A (do return !(← PySem.isTrue x env (eval x env))) Q s
  exact X_bind (X_mono h fun _ _ q => X_pure q)
theorem X_isTrue_BoolOp {op : BoolOp} {values : List Expr} {pos : Pos} {whole : Sem Value} {Q : Bool → Shared → Prop} (h : wpX M A (allTrue op values env) Q s) : wpX M A (PySem.isTrue (.BoolOp op values pos) env whole) Q s := by
  exact h
theorem X_allTrue_or {x : Expr} {rest : List Expr} {Q : Bool → Shared → Prop} (h : wpX M A (PySem.isTrue x env (eval x env)) (fun b s₁ => if b = true then Q true s₁ else wpX M A (allTrue .Or rest env) Q s₁) s) : wpX M A (allTrue .Or (x :: rest) env) Q s := by
  show wpX M A (do
    match BoolOp.Or, ← PySem.isTrue x env (eval x env) with
    | .And, false => pure false
    | .Or, true => pure true
    | _, _ => allTrue .Or rest env) Q s
  refine X_bind (X_mono h fun b s₁ q => ?_)
  cases b with
  | true => exact X_pure q
  | false => exact q
theorem X_isTrue_value {e : Expr} {whole : Sem Value} {Q : Bool → Shared → Prop} (h : wpX M A whole (fun v s₁ => wpAny M A (truthy v) Q Nev s₁) s)
    (he : PySem.isTrue e env whole = (do let v ← whole; standAt e.pos; holding [v] (truthy v)) := by rfl) : wpX M A (PySem.isTrue e env whole) Q s := by
  rw [he]
  exact X_bind (X_mono h fun v s₁ q => X_bind (X_standAt (X_any (wpAny_holding q))))
theorem X_any_all {op : BoolOp} {values : List Expr} {Q : Bool → Shared → Prop} (h : wpAny M A (PySem.isTrue (.BoolOp op values ⟨0, 0, 0, 0⟩) env (eval (.BoolOp op values ⟨0, 0, 0, 0⟩) env)) Q Nev s) : wpX M A (allTrue op values env) Q s := by
  exact X_any h
/-- a goal that the walk is to leave -/
noncomputable def Hold (p : Prop) : Prop := p
theorem A_hold {st : Stmt} {rest : List Stmt} {Q : Flow → Shared → Prop} {E : Value → Shared → Prop} (h : wpAny M A (exec st env) (fun f s' => match f with | .next => Hold (wpAny M A (execs rest env) Q E s') | f => Q f s') E s) : wpAny M A (execs (st :: rest) env) Q E s := by
  rw [execs_cons]
  refine wpAny_bind (wpAny_mono h (fun f s' q => ?_) fun _ _ q => q)
  cases f <;> first | exact q | exact wpAny_pure q
/-- where a walk of a frame ends: pre stands ahead of what changes -/
noncomputable def LawE (h₀ : Heap) (L : Addr) (s : Shared) (pre : Led) (Z : (Str → Option Value) → Led → Prop) (f : Flow) (s' : Shared) : Prop :=
  f = .next ∧ ∃ h' tk' m' l', s' = { s with heap := h', toks := tk' } ∧ Fr h₀ L h' m' ∧ News h₀ L h' (pre ++ l') ∧ Nd (pre ++ l') ∧ Z m' l'
theorem lawE {h₀ h' : Heap} {L : Addr} {s : Shared} {pre l l' : Led} {Z : (Str → Option Value) → Led → Prop} {m' : Str → Option Value} {tk' : Nat} (F : Fr h₀ L h' m') (N : News h₀ L h' l) (nd : Nd l) (sp : SubP (pre ++ l') l) (z : Z m' l') : LawE h₀ L s pre Z .next { s with heap := h', toks := tk' } :=
  ⟨rfl, h', tk', m', l', rfl, F, fun p hp => N p (sp.mem p hp), sp.nd nd, z⟩
theorem A_cons_law {s0 : Shared} {E : Value → Shared → Prop} {h₀ : Heap} {L : Addr} {st : Stmt} {rest : List Stmt} {Q : Flow → Shared → Prop} {pre : Led} {Z : (Str → Option Value) → Led → Prop} (h : wpAny M A (exec st env) (fun f s' => Hold (LawE h₀ L s0 pre Z f s')) E s)
    (h2 : ∀ h' tk' m' l', Fr h₀ L h' m' → News h₀ L h' (pre ++ l') → Nd (pre ++ l') → Z m' l' → wpAny M A (execs rest env) Q E { s0 with heap := h', toks := tk' }) : wpAny M A (execs (st :: rest) env) Q E s := by
  rw [execs_cons]
  refine wpAny_bind (wpAny_mono h (fun f s' q => ?_) fun _ _ q => q)
  obtain ⟨rfl, h', tk', m', l', rfl, F, N, nd, z⟩ := q
  exact h2 h' tk' m' l' F N nd z
theorem X_cons_m {s0 : Shared} {h₀ h₁ : Heap} {L : Addr} {m : Str → Option Value} {st : Stmt} {rest : List Stmt} {Q : Flow → Shared → Prop} {Z : Led → Prop} (F : Fr h₀ L h₁ m) (h : wpAny M A (exec st env) (fun f s' => Hold (LawE h₀ L s0 [] (fun m' l' => m' = m ∧ Z l') f s')) Nev s)
    (h2 : ∀ h' tk' l', Fr h₀ L h' m → News h₀ L h' l' → Nd l' → Z l' → wpX M A (execs rest env) Q { s0 with heap := h', toks := tk' }) : wpX M A (execs (st :: rest) env) Q s :=
  X_cons (X_any (wpAny_mono h (fun f s' q => by
    obtain ⟨rfl, h', tk', m', l', rfl, F1, N1, nd1, rfl, z1⟩ := q
    exact h2 h' tk' l' F1 N1 nd1 z1) fun _ _ q => q))
theorem ite_t {c : Bool} {p q : Prop} (hc : c = true) (h : p) : if c = true then p else q := by rw [if_pos hc]; exact h
theorem ite_f {c : Bool} {p q : Prop} (hc : c = false) (h : q) : if c = true then p else q := by subst hc; exact h
end
end
example : True := by
  trivial
theorem ne_pos {c : Array UInt8} (h : (c.toList != (#[] : Array UInt8).toList) = true) : 0 < c.size := by
  rcases Nat.eq_zero_or_pos c.size with hc | hc
  · obtain rfl : c = #[] := Array.eq_empty_of_size_eq_zero hc
    cases h
  · exact hc
theorem eq_nil {c : Array UInt8} (h : (c.toList != (#[] : Array UInt8).toList) = false) : c = #[] := by
  rw [bne_eq_false_iff_eq] at h
  exact Array.toList_inj.mp h
example : True := by
  k_with "call ref" => first | ((k_here; k_dflt ((with_reducible show wpAny _ _ (call (Value.ref 230) _) _ _ _); refine' use_clm (let_in_s ?h0 ?h1 ?h2 ?h3) ?k1 ?k2 ?k3 ?k4 ?kn ?ks ?k5 ?k6 ?k7 ?k8 ?_;  k_extra "s premU"; (case h0 => k_extra "s hyp"); (case h1 => k_extra "s hyp"); (case h2 => k_extra "s hyp"); (case h3 => k_extra "s hyp"); k_whole); intro v' news' h' tk' F' N' Nd' HP; k_dflt (obtain ⟨⟨_, rfl⟩, ks', rfl⟩ := HP); (try dsimp only [List.cons_append, List.nil_append] at N'); (try dsimp only [List.cons_append, List.nil_append, Nd, List.map] at Nd');  (try k_sweep); (try dsimp only); (try k_fold))) | fail "-"
  k_with "call ref" => first | ((k_here; k_dflt ((with_reducible show wpAny _ _ (call (Value.ref 117) _) _ _ _); refine' use_clm (aput_s ?h0 ?h1 ?h2 ?h3) ?k1 ?k2 ?k3 ?k4 ?kn ?ks ?k5 ?k6 ?k7 ?k8 ?_;  k_extra "s premU"; (case h0 => k_extra "s hyp"); (case h1 => k_extra "s hyp"); (case h2 => k_extra "s hyp"); (case h3 => k_extra "s hyp"); k_whole); intro v' news' h' tk' F' N' Nd' HP; k_dflt (obtain ⟨rfl, _, _, ks', _, _, _, _, _, rfl, rfl, rfl⟩ := HP); replace N' := newsSwap N'; replace Nd' := ndSwap Nd'; (try dsimp only [List.cons_append, List.nil_append] at N'); (try dsimp only [List.cons_append, List.nil_append, Nd, List.map] at Nd');  (try k_sweep); (try dsimp only); (try k_fold))) | fail "-"
  k_with "s hyp" => first | (exact ne_pos (by assumption)) | fail "-"
  k_with "exec If" => first | ((k_here; refine wpAny_If ?_)) | fail "-"
  trivial
theorem arrive_s {w : World} {x d ba xA yA pl : Addr} {k kA : Tks} {mss nx ed : Int} {b c : Array UInt8} {e0 : Nat} {t0 t1 : Tok} (h1 : (c.size : Int) ≤ toldW nx ed) (h0 : isB nx ed 256 = false → c.size = 0) (h2 : isB ed nx 256 = false) (n0 : 0 ≤ nx) (n1 : nx < 256) (hz : b.size + c.size ≤ 1048576) : ClMX 40 w 223 (rcvB w x d k mss nx ed ba xA b ++ asmL w xA yA pl kA e0) [.ref x, .int nx t0, .bytes c t1, .bool false] fun v l => ∃ (tp : Addr) (t2 : Tok) (bb : Bool) (pl : Addr) (k kA : Tks) (e0 : Nat), v = .ref tp ∧ l = (tp, { cls := .type "tuple", data := .seq #[.int c.size t2, .bool bb] }) :: (rcvB w x d k mss (Int.fmod (nx + c.size) 256) ed ba xA (b ++ c) ++ asmL w xA yA pl kA e0) := by
  have hz2 : c.size ≤ 1048576 := by omega
  k_extra "s fill"
  intro dp un cn cs a0 ccd cl outer A₀ base h₀ L m s mg mb mean Q rest B F X N hnd T hke hd hu hret
  all_goals (k_dflt (refine' enterMX (binds := [(Mine.s "self", .ref x), (Mine.s "seq", .int nx t0), (Mine.s "octets", .bytes c t1), (Mine.s "has_fin", .bool false)]) ?k1 ?k2 ?k3 ?k4 ?kn ?k5 ?kA ?kF ?kK ?k6 ?k7 ?k8 ?k9 ?kB ?kR ?_ ?c2 ?c3 ?c4 ?c5; k_extra "s premM"); intro g' L' h' F' N' Nd' B' X' T'; (try dsimp only [rcvB, asmL, List.cons_append, List.nil_append] at N'); (try dsimp only [rcvB, asmL, List.cons_append, List.nil_append, Nd, List.map] at Nd'); (try dsimp only); (try k_fold))
  all_goals k_extra "x body"
  all_goals (k_extra "x any")
  all_goals (k_extra "x any")
  all_goals (k_extra "x any")
  all_goals (k_extra "x any")
  all_goals (refine' X_cons_m (s0 := s) (Z := fun l' => ∃ (pl : Addr) (k kA : Tks) (lt : Led), AsmR pl nx c lt ∧ l' = rcvB w x d k mss nx ed ba xA b ++ ([(xA, instObj 169 yA), (yA, dictOf (esA w.params kA pl) 2)] ++ lt)) ?mF ?one ?rest; (case mF => k_asm); (case one => (try k_fold); k_steps; all_goals (unfold Hold; (try dsimp only); first | (refine' lawE ?F ?N ?nd ?sp ⟨rfl, _, tokL [_, _, _, _, _, _, _, _, _, _, _, _, _, _, _], tokL [_, _, _], _, .inl ⟨eq_nil ?hq, _, rfl⟩, rfl⟩; (case hq => assumption); (case F => k_asm); (case N => k_asm); (case sp => (try dsimp only [List.nil_append]); k_extra "s take"); (case nd => k_extra "s nd"); skip) | (refine' lawE ?F ?N ?nd ?sp ⟨rfl, _, tokL [_, _, _, _, _, _, _, _, _, _, _, _, _, _, _], tokL [_, _, _], _, .inr ⟨_, _, _, _, rfl⟩, rfl⟩; (case F => k_asm); (case N => k_asm); (case sp => (try dsimp only [List.nil_append]); k_extra "s take"); (case nd => k_extra "s nd"); skip))); intro h' tk' l' F' N' Nd' z; obtain ⟨pl', k', kA', lt', hA', rfl⟩ := z; (dsimp only [rcvB, asmL, List.cons_append, List.nil_append] at N'); (dsimp only [rcvB, asmL, List.cons_append, List.nil_append, Nd, List.map] at Nd'); (try dsimp only); (try k_fold))
  all_goals (refine X_cons (X_Assign_Name (X_MethodCall ?_)); (try k_fold); k_steps; (all_goals (try dsimp only)); refine X_callK0 (K := K w.params) ?X ?hk ?_; (case X => k_in); (case hk => k_is); (try dsimp only [List.cons_append, List.nil_append]); k_dflt (refine' use_clmX (gather_s ?h0 ?h1 ?h2) ?k1 ?k2 ?k3 ?k4 ?kn ?ks ?k5 ?k6 ?k7 ?k8 ?_; (case h0 => k_extra "s hyp"); (case h1 => k_extra "s hyp"); (case h2 => k_extra "s hyp"); k_extra "s premU"; k_whole); intro v' news' h' tk' F' N' Nd' HP; k_dflt (obtain ⟨⟨_, rfl⟩, _, ks', kA', _, rfl⟩ := HP); (try dsimp only [rcvB, asmL, List.cons_append, List.nil_append] at N'); (try dsimp only [rcvB, asmL, List.cons_append, List.nil_append, Nd, List.map] at Nd'); (try k_sweep); (try dsimp only); (try k_fold); k_steps; (all_goals (try dsimp only)))
  all_goals (k_extra "x any")
  all_goals (try (exfalso; omega))
  all_goals ((try dsimp only); refine' endMS ?F ?N ?nd ?sp ⟨_, _, _, _, tokL [_, _, _, _, _, _, _, _, _, _, _, _, _, _, _], tokL [_, _, _], _, rfl, rfl⟩; (case F => k_asm); (case N => k_asm); (case sp => k_extra "s take"); (case nd => k_extra "s nd"); skip)
example : True := by
  trivial
noncomputable abbrev bkE (k : Tks) (mss nx ed ur una snt most : Int) : List (Str × Value) := [(Mine.s "mss", Z mss (k 0)), (Mine.s "next", Z nx (k 1)), (Mine.s "edge", Z ed (k 2)), (Mine.s "unread", Z ur (k 3)), (Mine.s "una", Z una (k 4)), (Mine.s "sent", Z snt (k 5)), (Mine.s "most", Z most (k 6))]
section
variable {prog : Program} {w : World} {A : Around} {E : Value → Shared → Prop} {s : Shared} {h₀ : Heap} {L d : Addr} {m : Str → Option Value} {news : Led} {g : Obj → Led} {o : Obj} {kvs : List (Str × Value)} {mss nx ed ur una snt most : Int} {k : Str} {t : Tok} {v : Value} {Q : Unit → Shared → Prop}
theorem bk_set (k₀ : Tks) (F : Fr h₀ L s.heap m) (N : News h₀ L s.heap news) (U : UpdF d o news g) (hd : o.IsDictOf (PySem.strKind prog w) kvs) (hsz : kvs.length ≤ sizeLine) (e : stored kvs k v = bkE k₀ mss nx ed ur una snt most)
    (h : ∀ h' o' k', Fr h₀ L h' m → News h₀ L h' (g o') → o'.IsDictOf (PySem.strKind prog w) (bkE k' mss nx ed ur una snt most) → Q () { s with heap := h', toks := s.toks + 1 }) : wpAny (model prog w) A (setItem (.ref d) (.str k t) v) Q E s :=
  kda_set F N U hd (strKind_is _ _ _ _) hsz fun h' o' F' N' hd' => h h' o' k₀ F' N' (e ▸ hd')
end
example : True := by
  k_with "subscriptTail" => first | ((k_here; (with_reducible show wpAny _ _ (subscriptTail _ _ (Value.ref _) (Value.str _ _)) _ _ _); k_dflt (refine' kda_item (knd := PySem.strKind _ _) ?k1 ?k2 ?k3 (strKind_is _ _ _ _) ?k4 ?_; (case k1 => k_asm); (case k2 => k_mem); (case k3 => assumption); (case k4 => exact rfl)))) | fail "-"
  k_with "setItem ref str" => first | ((k_here; k_dflt (refine' bk_set (tokL [_, _, _, _, _, _, _]) ?F ?N ?U ?d ?z ?e ?_; (case F => k_asm); (case N => k_asm); (case U => k_updF); (case d => assumption); (case z => rw [sizeLine_eq]; exact Nat.le_of_ble_eq_true (by with_unfolding_all rfl)); (case e => exact rfl); k_whole); intro h' o' kb' F' N' hd'; (try dsimp only at N'); (try k_sweep); (try dsimp only); (try k_fold))) | fail "-"
  trivial
theorem law_window_s {w : World} {news : Led} {bk : Addr} {oB : Obj} {k : Tks} {mss nx ed ur una snt most : Int} (hb : (bk, oB) ∈ news) (hB : oB.IsDictOf (PySem.strKind pw w) (bkE k mss nx ed ur una snt most)) :
    Cl 9 w 1144 news [.ref bk] fun h₀ L m s Q => Ret h₀ L m news s Q (fun t => .int (ed - nx) t) := by
  k_extra "s fill"
  intro dp un gd cn cs a0 ccd cl outer A₀ base h₀ L m s mg mb mean Q E B F X N T hke hd hu hret
  dsimp only [Ret] at hret
  k_extra "s start"
  all_goals cb_end hret
example : True := by
  k_with "call ref" => first | ((k_here; k_dflt ((with_reducible show wpAny _ _ (call (Value.ref 815) _) _ _ _); refine' use_clm (go_on_s ) ?k1 ?k2 ?k3 ?k4 ?kn ?ks ?k5 ?k6 ?k7 ?k8 ?_;  k_extra "s premU";  k_whole); intro v' news' h' tk' F' N' Nd' HP; k_dflt (obtain ⟨rfl, ks', rfl⟩ := HP); (try dsimp only [sndD, List.cons_append, List.nil_append] at N'); (try dsimp only [sndD, List.cons_append, List.nil_append, Nd, List.map] at Nd');  (try k_sweep); (try dsimp only); (try k_fold))) | fail "-"
  k_with "call ref" => first | ((k_here; k_dflt ((with_reducible show wpAny _ _ (call (Value.ref 872) _) _ _ _); refine' use_clm (back_to_s ?h0) ?k1 ?k2 ?k3 ?k4 ?kn ?ks ?k5 ?k6 ?k7 ?k8 ?_;  k_extra "s premU"; (case h0 => k_extra "s hyp"); k_whole); intro v' news' h' tk' F' N' Nd' HP; k_dflt (obtain ⟨rfl, ks', rfl⟩ := HP); (try dsimp only [sndD, List.cons_append, List.nil_append] at N'); (try dsimp only [sndD, List.cons_append, List.nil_append, Nd, List.map] at Nd');  (try k_sweep); (try dsimp only); (try k_fold))) | fail "-"
  k_with "call ref" => first | ((k_here; k_dflt ((with_reducible show wpAny _ _ (call (Value.ref 272) _) _ _ _); refine' use_clm (read_s ?h0 ?h1 ?h2) ?k1 ?k2 ?k3 ?k4 ?kn ?ks ?k5 ?k6 ?k7 ?k8 ?_;  k_extra "s premU"; (case h0 => k_extra "s hyp"); (case h1 => k_extra "s hyp"); (case h2 => k_extra "s hyp"); k_whole); intro v' news' h' tk' F' N' Nd' HP; k_dflt (obtain ⟨⟨_, _, rfl, hcz'⟩, ks', _, _, hbz', rfl⟩ := HP); (try dsimp only [rcvB, List.cons_append, List.nil_append] at N'); (try dsimp only [rcvB, List.cons_append, List.nil_append, Nd, List.map] at Nd');  (try k_sweep); (try dsimp only); (try k_fold))) | fail "-"
  k_with "s hyp" => first | ((refine back_ok ?_ ?_ ?_ <;> omega)) | fail "-"
  trivial
theorem law_sent_s {w : World} {x bk : Addr} {oB : Obj} {k : Tks} {mss nx ed ur una snt most : Int} {on : Bool} {lT : Led} {many : Int} {t : Tok} (h : StT w x mss (Int.fmod nx 256) (Int.fmod ed 256) (ur.toNat) (Int.fmod una 256) (Int.fmod snt 256) (Int.fmod most 256) on lT) (hB : oB.IsDictOf (PySem.strKind pw w) (bkE k mss nx ed ur una snt most)) (h0 : 0 ≤ many) (h1 : una ≤ snt) (h2 : snt ≤ most) (h3 : most ≤ una + 40) :
    ClM 25 w 1172 ((bk, oB) :: lT) [.ref x, .ref bk, .int many t] fun v l => v = .bool true ∧ ∃ (k : Tks) (snt most : Int) (oB : Obj) (lT : Led), una ≤ snt ∧ snt ≤ most ∧ most ≤ una + 40 ∧ oB.IsDictOf (PySem.strKind pw w) (bkE k mss nx ed ur una snt most) ∧ StT w x mss (Int.fmod nx 256) (Int.fmod ed 256) (ur.toNat) (Int.fmod una 256) (Int.fmod snt 256) (Int.fmod most 256) on lT ∧ l = (bk, oB) :: lT := by
  k_extra "s fill"
  intro dp un gd cn cs a0 ccd cl outer A₀ base h₀ L m s mg mb mean Q rest B F X N hnd T hke hd hu hret
  obtain ⟨y, xL, tl, tr, xS, xR, xC, xG, xK, xW, yL, yR, ba, xA, yA, pl, yK, yS, xP, xQ, yW, sl, la, en, k, p, kL, kR, kA, kK, kS, kW, e0, b, wt, iss, mss', gv, due, lw, hb, h16, hwt, hdue, hoff, hw⟩ := h
  skip
  all_goals (k_dflt (refine' enterM (binds := [(Mine.s "tcb", .ref x), (Mine.s "book", .ref bk), (Mine.s "many", .int many t)]) ?k1 ?k2 ?k3 ?k4 ?kn ?k5 ?kA ?kF ?kK ?k6 ?k7 ?k8 ?k9 ?kB ?kR ?_ ?c2 ?c3 ?c4 ?c5; k_extra "s premM"); intro g' L' h' F' N' Nd' B' X' T'; (try dsimp only [tcbC, limL, rcvB, asmL, ackL, sndD, wheH, List.cons_append, List.nil_append] at N'); (try dsimp only [tcbC, limL, rcvB, asmL, ackL, sndD, wheH, List.cons_append, List.nil_append, Nd, List.map] at Nd'); (try dsimp only); (try k_fold))
  all_goals k_steps
  all_goals (have e1 := ring_add snt (if 40 - (snt - una) < many then 40 - (snt - una) else many); have e2 := late_ring (a := most) (b := snt + (if 40 - (snt - una) < many then 40 - (snt - una) else many)) (by omega) (by omega); rw [← e1] at e2; (rename News _ _ _ _ => nN); rw [e2, e1] at nN)
  all_goals ((try dsimp only); refine' endMS ?F ?N ?nd ?sp ⟨?v, _, _, _, _, _, ?g1, ?g2, ?g3, ?hB, StT.mk (k := tokL [_, _, _, _, _, _, _, _, _, _, _, _, _, _, _, _, _]) (p := tokL [_, _, _, _]) (kL := tokL [_, _, _, _, _, _, _, _, _, _, _, _, _, _, _, _, _, _, _, _]) (kR := tokL [_, _, _, _, _, _, _, _, _, _, _, _, _, _, _]) (kA := tokL [_, _, _]) (kK := tokL [_, _, _, _, _, _]) (kS := tokL [_, _, _, _, _, _, _, _, _, _, _, _, _, _, _, _, _]) (kW := tokL [_, _, _, _, _, _, _, _]) ?zb ?z16 ?zt ?zd ?zo ?hw, rfl⟩; (case hw => assumption); (case F => k_asm); (case N => k_asm); (case sp => k_extra "s take"); (case nd => k_extra "s nd"); (case hB => assumption); (case zb => first | rfl | assumption | omega); (case z16 => omega); (case zt => first | assumption | omega); (case zd => first | assumption | exact .inl rfl); (case zo => first | assumption | (intro _; rfl) | (intro hz; cases hz)); (case v => rw [e2, beq_self_eq_true]); (case g1 => omega); (case g2 => omega); (case g3 => omega); skip)
theorem law_back_s {w : World} {x bk : Addr} {oB : Obj} {k : Tks} {mss nx ed ur una snt most : Int} {on : Bool} {lT : Led} {many : Int} {t : Tok} (h : StT w x mss (Int.fmod nx 256) (Int.fmod ed 256) (ur.toNat) (Int.fmod una 256) (Int.fmod snt 256) (Int.fmod most 256) on lT) (hB : oB.IsDictOf (PySem.strKind pw w) (bkE k mss nx ed ur una snt most)) (h0 : 0 ≤ many) (h1 : una ≤ snt) (h2 : snt ≤ most) (h3 : most ≤ una + 40) :
    ClM 25 w 1179 ((bk, oB) :: lT) [.ref x, .ref bk, .int many t] fun v l => v = .bool true ∧ ∃ (k : Tks) (snt : Int) (oB : Obj) (lT : Led), una ≤ snt ∧ snt ≤ most ∧ oB.IsDictOf (PySem.strKind pw w) (bkE k mss nx ed ur una snt most) ∧ StT w x mss (Int.fmod nx 256) (Int.fmod ed 256) (ur.toNat) (Int.fmod una 256) (Int.fmod snt 256) (Int.fmod most 256) on lT ∧ l = (bk, oB) :: lT := by
  k_extra "s fill"
  intro dp un gd cn cs a0 ccd cl outer A₀ base h₀ L m s mg mb mean Q rest B F X N hnd T hke hd hu hret
  obtain ⟨y, xL, tl, tr, xS, xR, xC, xG, xK, xW, yL, yR, ba, xA, yA, pl, yK, yS, xP, xQ, yW, sl, la, en, k, p, kL, kR, kA, kK, kS, kW, e0, b, wt, iss, mss', gv, due, lw, hb, h16, hwt, hdue, hoff, hw⟩ := h
  skip
  all_goals (k_dflt (refine' enterM (binds := [(Mine.s "tcb", .ref x), (Mine.s "book", .ref bk), (Mine.s "many", .int many t)]) ?k1 ?k2 ?k3 ?k4 ?kn ?k5 ?kA ?kF ?kK ?k6 ?k7 ?k8 ?k9 ?kB ?kR ?_ ?c2 ?c3 ?c4 ?c5; k_extra "s premM"); intro g' L' h' F' N' Nd' B' X' T'; (try dsimp only [tcbC, limL, rcvB, asmL, ackL, sndD, wheH, List.cons_append, List.nil_append] at N'); (try dsimp only [tcbC, limL, rcvB, asmL, ackL, sndD, wheH, List.cons_append, List.nil_append, Nd, List.map] at Nd'); (try dsimp only); (try k_fold))
  all_goals k_steps
  all_goals ((try dsimp only); refine' endMS ?F ?N ?nd ?sp ⟨?v, _, _, _, _, ?g1, ?g2, ?hB, StT.mk (k := tokL [_, _, _, _, _, _, _, _, _, _, _, _, _, _, _, _, _]) (p := tokL [_, _, _, _]) (kL := tokL [_, _, _, _, _, _, _, _, _, _, _, _, _, _, _, _, _, _, _, _]) (kR := tokL [_, _, _, _, _, _, _, _, _, _, _, _, _, _, _]) (kA := tokL [_, _, _]) (kK := tokL [_, _, _, _, _, _]) (kS := tokL [_, _, _, _, _, _, _, _, _, _, _, _, _, _, _, _, _]) (kW := tokL [_, _, _, _, _, _, _, _]) ?zb ?z16 ?zt ?zd ?zo ?hw, rfl⟩; (case hw => assumption); (case F => k_asm); (case N => k_asm); (case sp => k_extra "s take"); (case nd => k_extra "s nd"); (case hB => assumption); (case zb => first | rfl | assumption | omega); (case z16 => omega); (case zt => first | assumption | omega); (case zd => first | assumption | exact .inl rfl); (case zo => first | assumption | (intro _; rfl) | (intro hz; cases hz)); (case v => first | rfl | simp); (case g1 => omega); (case g2 => omega); skip)
theorem law_read_s {w : World} {x bk : Addr} {oB : Obj} {k : Tks} {mss nx ed ur una snt most : Int} {on : Bool} {lT : Led} {many : Int} {t : Tok} (h : StT w x mss (Int.fmod nx 256) (Int.fmod ed 256) (ur.toNat) (Int.fmod una 256) (Int.fmod snt 256) (Int.fmod most 256) on lT) (hB : oB.IsDictOf (PySem.strKind pw w) (bkE k mss nx ed ur una snt most)) (h0 : 0 ≤ many) (h1 : 0 ≤ ur) :
    ClM 25 w 1158 ((bk, oB) :: lT) [.ref x, .ref bk, .int many t] fun v l => v = .bool true ∧ ∃ (k : Tks) (ur' : Int) (oB : Obj) (lT : Led), 0 ≤ ur' ∧ ur' ≤ ur ∧ oB.IsDictOf (PySem.strKind pw w) (bkE k mss nx ed ur' una snt most) ∧ StT w x mss (Int.fmod nx 256) (Int.fmod ed 256) (ur'.toNat) (Int.fmod una 256) (Int.fmod snt 256) (Int.fmod most 256) on lT ∧ l = (bk, oB) :: lT := by
  k_extra "s fill"
  intro dp un gd cn cs a0 ccd cl outer A₀ base h₀ L m s mg mb mean Q rest B F X N hnd T hke hd hu hret
  obtain ⟨y, xL, tl, tr, xS, xR, xC, xG, xK, xW, yL, yR, ba, xA, yA, pl, yK, yS, xP, xQ, yW, sl, la, en, k, p, kL, kR, kA, kK, kS, kW, e0, b, wt, iss, mss', gv, due, lw, hb, h16, hwt, hdue, hoff, hw⟩ := h
  skip
  all_goals (k_dflt (refine' enterM (binds := [(Mine.s "tcb", .ref x), (Mine.s "book", .ref bk), (Mine.s "many", .int many t)]) ?k1 ?k2 ?k3 ?k4 ?kn ?k5 ?kA ?kF ?kK ?k6 ?k7 ?k8 ?k9 ?kB ?kR ?_ ?c2 ?c3 ?c4 ?c5; k_extra "s premM"); intro g' L' h' F' N' Nd' B' X' T'; (try dsimp only [tcbC, limL, rcvB, asmL, ackL, sndD, wheH, List.cons_append, List.nil_append] at N'); (try dsimp only [tcbC, limL, rcvB, asmL, ackL, sndD, wheH, List.cons_append, List.nil_append, Nd, List.map] at Nd'); (try dsimp only); (try k_fold))
  all_goals k_steps
  all_goals ((try dsimp only); refine' endMS ?F ?N ?nd ?sp ⟨?v, _, _, _, _, ?g1, ?g2, ?hB, StT.mk (k := tokL [_, _, _, _, _, _, _, _, _, _, _, _, _, _, _, _, _]) (p := tokL [_, _, _, _]) (kL := tokL [_, _, _, _, _, _, _, _, _, _, _, _, _, _, _, _, _, _, _, _]) (kR := tokL [_, _, _, _, _, _, _, _, _, _, _, _, _, _, _]) (kA := tokL [_, _, _]) (kK := tokL [_, _, _, _, _, _]) (kS := tokL [_, _, _, _, _, _, _, _, _, _, _, _, _, _, _, _, _]) (kW := tokL [_, _, _, _, _, _, _, _]) ?zb ?z16 ?zt ?zd ?zo ?hw, rfl⟩; (case hw => assumption); (case F => k_asm); (case N => k_asm); (case sp => k_extra "s take"); (case nd => k_extra "s nd"); (case hB => assumption); (case zb => first | rfl | assumption | omega); (case z16 => omega); (case zt => first | assumption | omega); (case zd => first | assumption | exact .inl rfl); (case zo => first | assumption | (intro _; rfl) | (intro hz; cases hz)); (case v => first | rfl | (refine congrArg Value.bool (beq_iff_eq.mpr ?_); omega)); (case g1 => omega); (case g2 => omega); skip)
example : True := by
  trivial
example : True := by
  k_with "call ref" => first | ((k_here; k_dflt ((with_reducible show wpAny _ _ (call (Value.ref 1095) _) _ _ _); refine' use_clm (make_s ?h0) ?k1 ?k2 ?k3 ?k4 ?kn ?ks ?k5 ?k6 ?k7 ?k8 ?_;  k_extra "s premU"; (case h0 => k_extra "s hyp"); k_whole); intro v' news' h' tk' F' N' Nd' HP; k_dflt (obtain ⟨_, _, kg', _, _, lT', rfl, rfl, rfl, hT', rfl⟩ := HP); (try dsimp only [segL, List.cons_append, List.nil_append] at N'); (try dsimp only [segL, List.cons_append, List.nil_append, Nd, List.map] at Nd');  (try k_sweep); (try dsimp only); (try k_fold))) | fail "-"
  trivial
theorem ack_seg_s {w : World} {x : Addr} {mss nx ed una snt gr : Int} {n : Nat} {on : Bool} {l : Led} (h : StT w x mss nx ed n una snt gr on l) :
    ClM 35 w 1109 l [.ref x] fun v l => ∃ (xg yg : Addr) (kg : Tks) (lT : Led), v = .ref xg ∧ StT w x mss nx (edW mss nx ed n) n una snt gr false lT ∧ l = segL w xg yg kg 10 20 snt nx 16 (toldW nx (edW mss nx ed n)) #[] ++ lT := by
  k_extra "s fill"
  intro dp un gd cn cs a0 ccd cl outer A₀ base h₀ L m s mg mb mean Q rest B F X N hnd T hke hd hu hret
  have hc := h
  obtain ⟨y, xL, tl, tr, xS, xR, xC, xG, xK, xW, yL, yR, ba, xA, yA, pl, yK, yS, xP, xQ, yW, sl, la, en, k, p, kL, kR, kA, kK, kS, kW, e0, b, wt, iss, mss', gv, due, lw, hb, h16, hwt, hdue, hoff, hw⟩ := h
  skip
  all_goals (k_dflt (refine' enterM (binds := [(Mine.s "tcb", .ref x)]) ?k1 ?k2 ?k3 ?k4 ?kn ?k5 ?kA ?kF ?kK ?k6 ?k7 ?k8 ?k9 ?kB ?kR ?_ ?c2 ?c3 ?c4 ?c5; k_extra "s premM"); intro g' L' h' F' N' Nd' B' X' T'; (try dsimp only [tcbC, limL, rcvB, asmL, ackL, sndD, wheH, List.cons_append, List.nil_append] at N'); (try dsimp only [tcbC, limL, rcvB, asmL, ackL, sndD, wheH, List.cons_append, List.nil_append, Nd, List.map] at Nd'); (try dsimp only); (try k_fold))
  all_goals k_steps
  all_goals ((try dsimp only); refine' endMS ?F ?N ?nd ?sp ⟨_, _, tokL [_, _, _, _, _, _, _, _, _, _, _, _, _, _, _, _, _, _], _, rfl, ?hT, rfl⟩; (case hT => assumption); (case F => k_asm); (case N => k_asm); (case sp => k_extra "s take"); (case nd => k_extra "s nd"); skip)
theorem row_s {w : World} {x d : Addr} {k : Tks} {sq ak fl wi : Int} : ClM 9 w 950 (segL w x d k 10 20 sq ak fl wi #[]) [.ref x] fun v l => ∃ (a : Addr) (t0 t1 t2 t3 t4 t5 t6 t7 t8 : Tok), v = .ref a ∧ l = [(a, { cls := .type "tuple", data := .seq #[.int 10 t0, .int 20 t1, .int sq t2, .int ak t3, .int fl t4, .int wi t5, .int 0 t6, .bytes #[] t7, .bytes #[] t8] })] := by
  k_extra "s fill"
  intro dp un gd cn cs a0 ccd cl outer A₀ base h₀ L m s mg mb mean Q rest B F X N hnd T hke hd hu hret
  all_goals (k_dflt (refine' enterM (binds := [(Mine.s "self", .ref x)]) ?k1 ?k2 ?k3 ?k4 ?kn ?k5 ?kA ?kF ?kK ?k6 ?k7 ?k8 ?k9 ?kB ?kR ?_ ?c2 ?c3 ?c4 ?c5; k_extra "s premM"); intro g' L' h' F' N' Nd' B' X' T'; (try dsimp only [segL, List.cons_append, List.nil_append] at N'); (try dsimp only [segL, List.cons_append, List.nil_append, Nd, List.map] at Nd'); (try dsimp only); (try k_fold))
  all_goals k_steps
  all_goals ((try dsimp only); refine' endMS ?F ?N ?nd ?sp ⟨_, _, _, _, _, _, _, _, _, _, rfl, rfl⟩; (case F => k_asm); (case N => k_asm); (case sp => k_extra "s take"); (case nd => k_extra "s nd"); skip)
section
open PySem PySem.W PySem.Calls PySem.Spec PyProof.Rows
section
variable {prog : Program} {w : World} {M : Model} {A : Around} {s : Shared} {env : Env}
theorem X_For2 {target iter body orelse pos} {Q : Flow → Shared → Prop}
    (h : wpAny (model prog w) A (eval iter env) (fun x s₁ => Hold (wpAny (model prog w) A (pyIter x) (fun it s₂ =>
      codeX (model prog w) A (.forLoop target it body orelse env) (fun r s' => match r with | .ok f => Q f s' | .error _ => False) s₂) Nev s₁)) Nev s)
    (hs : ∀ x, foldedSetIterable iter env x = pure x := by intro _; rfl) : wpX (model prog w) A (exec (.For target iter body orelse pos) env) Q s := X_For h hs
theorem X_cons_mid {st : Stmt} {rest : List Stmt} {Q : Flow → Shared → Prop} (Mid : Shared → Prop) (h : wpX M A (exec st env) (fun f s' => f = .next ∧ Mid s') s) (h2 : ∀ s', Mid s' → wpX M A (execs rest env) Q s') : wpX M A (execs (st :: rest) env) Q s :=
  X_cons (X_mono h fun f s' q => by obtain ⟨rfl, q⟩ := q; exact h2 s' q)
theorem ite_split {c : Bool} {p q : Prop} (h1 : c = true → p) (h2 : c = false → q) : if c = true then p else q := by
  cases c with
  | true => exact h1 rfl
  | false => exact h2 rfl
theorem map3 {m : Str → Option Value} {x y z : Str} {a b c : Value} (hx : m x = some a) (hy : m y = some b) (hz : m z = some c) : m = fun k => if k = x then some a else if k = y then some b else if k = z then some c else m k := by
  funext k
  by_cases h1 : k = x
  · rw [if_pos h1, h1, hx]
  · rw [if_neg h1]
    by_cases h2 : k = y
    · rw [if_pos h2, h2, hy]
    · rw [if_neg h2]
      by_cases h3 : k = z
      · rw [if_pos h3, h3, hz]
      · rw [if_neg h3]
theorem map4 {m : Str → Option Value} {x y z u : Str} {a b c d : Value} (hx : m x = some a) (hy : m y = some b) (hz : m z = some c) (hu : m u = some d) : m = fun k => if k = x then some a else if k = y then some b else if k = z then some c else if k = u then some d else m k := by
  funext k
  by_cases h1 : k = x
  · rw [if_pos h1, h1, hx]
  · rw [if_neg h1]
    by_cases h2 : k = y
    · rw [if_pos h2, h2, hy]
    · rw [if_neg h2]
      by_cases h3 : k = z
      · rw [if_pos h3, h3, hz]
      · rw [if_neg h3]
        by_cases h4 : k = u
        · rw [if_pos h4, h4, hu]
        · rw [if_neg h4]
end
end
example : True := by
  trivial
theorem ackt_any {mss nx ed ur ed' : Int} (hm : 1 ≤ mss) (h0 : 0 ≤ ur) (h : ed ≤ nx + 16 - ur) (h' : nx ≤ ed) (he : ed' = if nx + 16 - ur - ed ≥ min mss 8 then nx + 16 - ur else ed) : toldW (Int.fmod nx 256) (edW mss (Int.fmod nx 256) (Int.fmod ed 256) ur.toNat) = ed' - nx := by
  by_cases c : nx + 16 - ur - ed ≥ min mss 8
  · rw [he, if_pos c]; exact ackt_pos hm h0 h h' c
  · rw [he, if_neg c]; exact ackt_neg hm h0 h h' c
theorem edw_any {mss nx ed ur ed' : Int} (hm : 1 ≤ mss) (h0 : 0 ≤ ur) (h : ed ≤ nx + 16 - ur) (h' : nx ≤ ed) (he : ed' = if nx + 16 - ur - ed ≥ min mss 8 then nx + 16 - ur else ed) : edW mss (Int.fmod nx 256) (Int.fmod ed 256) ur.toNat = Int.fmod ed' 256 := by
  rw [ed_ring (Int.toNat_of_nonneg h0) h h' h0 hm, he]
example : True := by
  k_with "call ref" => first | ((k_here; k_dflt ((with_reducible show wpAny _ _ (call (Value.ref 1144) _) _ _ _); refine' use_cl (law_window_s ?h0 ?h1) ?k1 ?k2 ?k3 ?k4 ?k5 ?k6 ?k7 ?k8 ?_; k_extra "s prem"; (case h0 => k_extra "s hyp"); (case h1 => k_extra "s hyp"); k_whole); (try dsimp only [Ret]); intro t9 h9 tk9 F9 N9; (try dsimp only); (try k_fold))) | fail "-"
  k_with "call ref" => first | ((k_here; k_dflt ((with_reducible show wpAny _ _ (call (Value.ref 1109) _) _ _ _); refine' use_clm (ack_seg_s ?h0) ?k1 ?k2 ?k3 ?k4 ?kn ?ks ?k5 ?k6 ?k7 ?k8 ?_; (case h0 => k_extra "s hyp"); k_extra "s premU";  k_whole); intro v' news' h' tk' F' N' Nd' HP; k_dflt (obtain ⟨_, _, kg', lT', rfl, ⟨y, xL, tl, tr, xS, xR, xC, xG, xK, xW, yL, yR, ba, xA, yA, pl, yK, yS, xP, xQ, yW, sl, la, en, k, p, kL, kR, kA, kK, kS, kW, e0, b, wt, iss, mss', gv, due, lw, hbz', h16', hwt', hdue', hoff', hw'⟩, rfl⟩ := HP); replace N' := newsSwap N'; replace Nd' := ndSwap Nd'; (try dsimp only [segL, tcbC, limL, rcvB, asmL, ackL, sndD, wheH, List.cons_append, List.nil_append] at N'); (try dsimp only [segL, tcbC, limL, rcvB, asmL, ackL, sndD, wheH, List.cons_append, List.nil_append, Nd, List.map] at Nd'); (obtain rfl := hoff' rfl);  (try k_sweep); (try dsimp only); (try k_fold))) | fail "-"
  k_with "call ref" => first | ((k_here; k_dflt ((with_reducible show wpAny _ _ (call (Value.ref 950) _) _ _ _); refine' use_clm (row_s ) ?k1 ?k2 ?k3 ?k4 ?kn ?ks ?k5 ?k6 ?k7 ?k8 ?_;  k_extra "s premU";  k_whole); intro v' news' h' tk' F' N' Nd' HP; k_dflt (obtain ⟨_, _, _, _, _, _, _, _, _, _, rfl, rfl⟩ := HP); (try dsimp only [List.cons_append, List.nil_append] at N'); (try dsimp only [List.cons_append, List.nil_append, Nd, List.map] at Nd');  (try k_sweep); (try dsimp only); (try k_fold))) | fail "-"
  k_with "call ref" => first | ((k_here; k_dflt ((with_reducible show wpAny _ _ (call (Value.ref 1012) _) _ _ _); refine' use_clm (time_s ?h0) ?k1 ?k2 ?k3 ?k4 ?kn ?ks ?k5 ?k6 ?k7 ?k8 ?_;  k_extra "s premU"; (case h0 => k_extra "s hyp"); k_whole); intro v' news' h' tk' F' N' Nd' HP; k_dflt (obtain ⟨rfl, rfl⟩ := HP); replace N' := newsSwap N'; replace Nd' := ndSwap Nd'; (try dsimp only [wheH, List.cons_append, List.nil_append] at N'); (try dsimp only [wheH, List.cons_append, List.nil_append, Nd, List.map] at Nd');  (try k_sweep); (try dsimp only); (try k_fold))) | fail "-"
  k_with "call ref" => first | ((k_here; k_dflt ((with_reducible show wpAny _ _ (call (Value.ref 357) _) _ _ _); refine' use_clm (due_time_s ) ?k1 ?k2 ?k3 ?k4 ?kn ?ks ?k5 ?k6 ?k7 ?k8 ?_;  k_extra "s premU";  k_whole); intro v' news' h' tk' F' N' Nd' HP; k_dflt (obtain ⟨rfl, rfl⟩ := HP); (try dsimp only [ackL, List.cons_append, List.nil_append] at N'); (try dsimp only [ackL, List.cons_append, List.nil_append, Nd, List.map] at Nd');  (try k_sweep); (try dsimp only); (try k_fold))) | fail "-"
  k_with "compareOp Eq ref ref" => first | ((k_here; (with_reducible show wpAny _ _ (compareOp CmpOp.Eq (Value.ref _) (Value.ref _)) _ _ _); k_dflt (refine' eq_row9 ?rwN ?rwa ?rwb ?rwu ?rwe0 ?rwe1 ?rwe2 ?rwe3 ?rwe4 ?rwe5 ?rwe6 ?rwe7 ?rwe8 ?_; (case rwN => k_asm); (case rwa => k_mem); (case rwb => k_mem); (case rwu => ktr_units); (case rwe0 => exact rfl); (case rwe1 => exact rfl); (case rwe2 => exact rfl); (case rwe3 => exact rfl); (case rwe4 => exact rfl); (case rwe6 => exact rfl); (case rwe7 => exact rfl); (case rwe8 => exact rfl); (case rwe5 => k_extra "s row"); k_whole); (try dsimp only); (try k_fold))) | fail "-"
  k_with "s row" => first | (exact ackt_any hm h0 h1 h2 hed) | fail "-"
  trivial
theorem law_acked_s {w : World} {x bk : Addr} {oB : Obj} {k : Tks} {mss nx ed ur una snt most : Int} {on : Bool} {lT : Led} (h : StT w x mss (Int.fmod nx 256) (Int.fmod ed 256) (ur.toNat) (Int.fmod una 256) (Int.fmod snt 256) (Int.fmod most 256) on lT) (hB : oB.IsDictOf (PySem.strKind pw w) (bkE k mss nx ed ur una snt most)) (hm : 1 ≤ mss) (h0 : 0 ≤ ur) (h1 : ed ≤ nx + 16 - ur) (h2 : nx ≤ ed) :
    ClM 45 w 1165 ((bk, oB) :: lT) [.ref x, .ref bk] fun v l => v = .bool true ∧ ∃ (k : Tks) (ed' : Int) (oB : Obj) (lT : Led), ed ≤ ed' ∧ ed' ≤ nx + 16 - ur ∧ oB.IsDictOf (PySem.strKind pw w) (bkE k mss nx ed' ur una snt most) ∧ StT w x mss (Int.fmod nx 256) (Int.fmod ed' 256) (ur.toNat) (Int.fmod una 256) (Int.fmod snt 256) (Int.fmod most 256) false lT ∧ l = (bk, oB) :: lT := by
  k_extra "s fill"
  intro dp un gd cn cs a0 ccd cl outer A₀ base h₀ L m s mg mb mean Q rest B F X N hnd T hke hd hu hret
  have hc := h
  obtain ⟨y, xL, tl, tr, xS, xR, xC, xG, xK, xW, yL, yR, ba, xA, yA, pl, yK, yS, xP, xQ, yW, sl, la, en, k, p, kL, kR, kA, kK, kS, kW, e0, b, wt, iss, mss', gv, due, lw, hb, h16, hwt, hdue, hoff, hw⟩ := h
  skip
  all_goals (k_dflt (refine' enterM (binds := [(Mine.s "tcb", .ref x), (Mine.s "book", .ref bk)]) ?k1 ?k2 ?k3 ?k4 ?kn ?k5 ?kA ?kF ?kK ?k6 ?k7 ?k8 ?k9 ?kB ?kR ?_ ?c2 ?c3 ?c4 ?c5; k_extra "s premM"); intro g' L' h' F' N' Nd' B' X' T'; (try dsimp only [tcbC, limL, rcvB, asmL, ackL, sndD, wheH, List.cons_append, List.nil_append] at N'); (try dsimp only [tcbC, limL, rcvB, asmL, ackL, sndD, wheH, List.cons_append, List.nil_append, Nd, List.map] at Nd'); (try dsimp only); (try k_fold))
  all_goals k_extra "x body"
  refine A_hold ?_
  k_steps
  unfold Hold
  refine' A_cons_law (h₀ := g') (L := L') (s0 := s) (pre := []) (Z := fun m' l' => ∃ (ed' : Int) (kb : Tks) (oB' : Obj) (tF : Tok), ed ≤ ed' ∧ ed' ≤ nx + 16 - ur ∧ (ed' = if nx + 16 - ur - ed ≥ min mss 8 then nx + 16 - ur else ed) ∧ oB'.IsDictOf (PySem.strKind pw w) (bkE kb mss nx ed' ur una snt most) ∧ m' = (fun y => (if y = Mine.s "free" then some (Value.int (nx + 16 - ur) tF) else List.lookup y (List.reverse [(Mine.s "tcb", Value.ref x), (Mine.s "book", Value.ref bk)]))) ∧ l' = (bk, oB') :: (tcbC w x y k p xL tl tr xS xR xC xG xK xW ++ (limL w xL yL kL mss ++ (rcvB w xR yR kR mss (Int.fmod nx 256) (Int.fmod ed 256) ba xA b ++ (asmL w xA yA pl kA e0 ++ (ackL w xK yK kK wt due ++ (sndD w xS yS kS iss mss' (Int.fmod una 256) (Int.fmod snt 256) (Int.fmod most 256) xP xQ false ++ (wheH w xW yW kW gv sl la en ++ lw)))))))) ?one ?rest1
  case one =>
    k_steps
    all_goals (unfold Hold; (try dsimp only); refine' lawE ?F ?N ?nd ?sp (⟨_, _, _, _, ?q1, ?q2, ?q3, ?hB, rfl, rfl⟩); (case F => k_asm); (case hB => assumption); (case N => k_asm); (case sp => (try dsimp only [List.nil_append]); k_extra "s take"); (case q1 => omega); (case q2 => omega); (case q3 => first | (rw [if_pos (by omega)]) | (rw [if_neg (by omega)])); (case nd => k_extra "s nd"); skip)

  intro h' tk' m' l' F' N' Nd' z
  obtain ⟨ed', kb, oB', tF, he0, he1, hed, hB, rfl, rfl⟩ := z
  (dsimp only [tcbC, limL, rcvB, asmL, ackL, sndD, wheH, List.cons_append, List.nil_append] at N'); (dsimp only [tcbC, limL, rcvB, asmL, ackL, sndD, wheH, List.cons_append, List.nil_append, Nd, List.map] at Nd')
  all_goals k_steps
  all_goals (have e1 := edw_any hm h0 h1 h2 hed; (rename News _ _ _ _ => nN); rw [e1] at nN)
  all_goals ((try dsimp only); refine' endMS ?F ?N ?nd ?sp ⟨?v, _, _, _, _, ?g1, ?g2, ?hB, StT.mk (k := tokL [_, _, _, _, _, _, _, _, _, _, _, _, _, _, _, _, _]) (p := tokL [_, _, _, _]) (kL := tokL [_, _, _, _, _, _, _, _, _, _, _, _, _, _, _, _, _, _, _, _]) (kR := tokL [_, _, _, _, _, _, _, _, _, _, _, _, _, _, _]) (kA := tokL [_, _, _]) (kK := tokL [_, _, _, _, _, _]) (kS := tokL [_, _, _, _, _, _, _, _, _, _, _, _, _, _, _, _, _]) (kW := tokL [_, _, _, _, _, _, _, _]) ?zb ?z16 ?zt ?zd ?zo ?hw, rfl⟩; (case hw => assumption); (case F => k_asm); (case N => k_asm); (case sp => k_extra "s take"); (case nd => k_extra "s nd"); (case hB => assumption); (case zb => first | rfl | assumption | omega); (case z16 => omega); (case zt => first | assumption | omega); (case zd => first | assumption | exact .inl rfl); (case zo => first | assumption | (intro _; rfl) | (intro hz; cases hz)); (case v => rfl); (case g1 => omega); (case g2 => omega); skip)
example : True := by
  trivial
section
variable {nx ed ur m : Int}
theorem rep_size (m : Int) (h : 0 ≤ m) : ((Array.replicate m.toNat (0 : UInt8)).size : Int) = m := by rw [Array.size_replicate]; exact Int.toNat_of_nonneg h
theorem come1 (h0 : 0 ≤ m) (h1 : m ≤ ed - nx) (h2 : ed - nx ≤ 16) : ((Array.replicate m.toNat (0 : UInt8)).size : Int) ≤ toldW (Int.fmod nx 256) (Int.fmod ed 256) := by
  rw [told_ring (by omega) h2, rep_size m h0]; exact h1
theorem come0 (h0 : 0 ≤ m) (h1 : m ≤ ed - nx) (h2 : ed - nx ≤ 16) : isB (Int.fmod nx 256) (Int.fmod ed 256) 256 = false → (Array.replicate m.toNat (0 : UInt8)).size = 0 := fun h => by
  rw [isB_ring (by omega) (by omega)] at h
  have : ¬ nx < ed := of_decide_eq_false h
  rw [Array.size_replicate]; omega
theorem come2 (h1 : nx ≤ ed) (h2 : ed - nx ≤ 16) : isB (Int.fmod ed 256) (Int.fmod nx 256) 256 = false := by
  rw [isB_ring (by omega) (by omega)]; exact decide_eq_false (by omega)
theorem fmod_nn (a : Int) : 0 ≤ Int.fmod a 256 := by rw [fm]; exact Int.emod_nonneg _ (by decide)
theorem fmod_lt (a : Int) : Int.fmod a 256 < 256 := by rw [fm]; exact Int.emod_lt_of_pos _ (by decide)
theorem come_nx (h0 : 0 ≤ m) : Int.fmod (Int.fmod nx 256 + ((Array.replicate m.toNat (0 : UInt8)).size : Int)) 256 = Int.fmod (nx + m) 256 := by rw [rep_size m h0, ring_add]
theorem come5 {b : Array UInt8} {n : Nat} (hb : b.size = n) (h : n ≤ 16) (h0 : 0 ≤ m) (h1 : m ≤ 16) : b.size + (Array.replicate m.toNat (0 : UInt8)).size ≤ 1048576 := by
  rw [Array.size_replicate]; omega
theorem come_sz {b : Array UInt8} (hb : b.size = ur.toNat) (hu : 0 ≤ ur) (h0 : 0 ≤ m) : (b ++ Array.replicate m.toNat (0 : UInt8)).size = (ur + m).toNat := by
  rw [Array.size_append, Array.size_replicate, hb]; omega
end
example : True := by
  k_with "call ref" => first | ((k_here; k_dflt ((with_reducible show wpAny _ _ (call (Value.ref 991) _) _ _ _); refine' use_clm (put_s ?h0) ?k1 ?k2 ?k3 ?k4 ?kn ?ks ?k5 ?k6 ?k7 ?k8 ?_;  k_extra "s premU"; (case h0 => k_extra "s hyp"); k_whole); intro v' news' h' tk' F' N' Nd' HP; k_dflt (obtain ⟨rfl, ks', _, lw', hw', rfl⟩ := HP); replace N' := newsSwap N'; replace Nd' := ndSwap Nd'; (try dsimp only [wheH, List.cons_append, List.nil_append] at N'); (try dsimp only [wheH, List.cons_append, List.nil_append, Nd, List.map] at Nd');  (try k_sweep); (try dsimp only); (try k_fold))) | fail "-"
  k_with "call ref" => first | ((k_here; k_dflt ((with_reducible show wpAny _ _ (call (Value.ref 329) _) _ _ _); refine' use_clm (on_octets_s ?h0 ?h1) ?k1 ?k2 ?k3 ?k4 ?kn ?ks ?k5 ?k6 ?k7 ?k8 ?_;  k_extra "s premU"; (case h0 => k_extra "s hyp"); (case h1 => k_extra "s hyp"); k_whole); intro v' news' h' tk' F' N' Nd' HP; k_dflt (obtain ⟨⟨_, _, rfl⟩, ks', _, _, hwt', hdue', rfl⟩ := HP); (try dsimp only [ackL, List.cons_append, List.nil_append] at N'); (try dsimp only [ackL, List.cons_append, List.nil_append, Nd, List.map] at Nd');  (try k_sweep); (try dsimp only); (try k_fold))) | fail "-"
  k_with "s hyp" => first | ((refine come5 (by assumption) (by assumption) ?_ ?_ <;> omega)) | fail "-"
  k_with "s hyp" => first | (exact fmod_nn _) | fail "-"
  k_with "s hyp" => first | (exact fmod_lt _) | fail "-"
  k_with "s hyp" => first | ((refine come2 ?_ ?_ <;> omega)) | fail "-"
  k_with "s hyp" => first | ((refine come0 ?_ ?_ ?_ <;> omega)) | fail "-"
  k_with "s hyp" => first | ((refine come1 ?_ ?_ ?_ <;> omega)) | fail "-"
  trivial
theorem law_come_s {w : World} {x bk : Addr} {oB : Obj} {k : Tks} {mss nx ed ur una snt most : Int} {on : Bool} {lT : Led} {many : Int} {t : Tok} (h : StT w x mss (Int.fmod nx 256) (Int.fmod ed 256) (ur.toNat) (Int.fmod una 256) (Int.fmod snt 256) (Int.fmod most 256) on lT) (hB : oB.IsDictOf (PySem.strKind pw w) (bkE k mss nx ed ur una snt most)) (h0 : 0 ≤ many) (h1 : ed ≤ nx + 16 - ur) (h2 : nx ≤ ed) (h3 : 0 ≤ ur) :
    ClMX 50 w 1151 ((bk, oB) :: lT) [.ref x, .ref bk, .int many t] fun v l => v = .bool true ∧ ∃ (k : Tks) (nx' ur' : Int) (oB : Obj) (lT : Led), nx ≤ nx' ∧ nx' ≤ ed ∧ 0 ≤ ur' ∧ nx' - ur' = nx - ur ∧ oB.IsDictOf (PySem.strKind pw w) (bkE k mss nx' ed ur' una snt most) ∧ StT w x mss (Int.fmod nx' 256) (Int.fmod ed 256) (ur'.toNat) (Int.fmod una 256) (Int.fmod snt 256) (Int.fmod most 256) true lT ∧ l = (bk, oB) :: lT := by
  k_extra "s fill"
  intro dp un cn cs a0 ccd cl outer A₀ base h₀ L m s mg mb mean Q rest B F X N hnd T hke hd hu hret
  obtain ⟨y, xL, tl, tr, xS, xR, xC, xG, xK, xW, yL, yR, ba, xA, yA, pl, yK, yS, xP, xQ, yW, sl, la, en, k, p, kL, kR, kA, kK, kS, kW, e0, b, wt, iss, mss', gv, due, lw, hb, h16, hwt, hdue, hoff, hw⟩ := h
  skip
  all_goals (k_dflt (refine' enterMX (binds := [(Mine.s "tcb", .ref x), (Mine.s "book", .ref bk), (Mine.s "many", .int many t)]) ?k1 ?k2 ?k3 ?k4 ?kn ?k5 ?kA ?kF ?kK ?k6 ?k7 ?k8 ?k9 ?kB ?kR ?_ ?c2 ?c3 ?c4 ?c5; k_extra "s premM"); intro g' L' h' F' N' Nd' B' X' T'; (try dsimp only [tcbC, limL, rcvB, asmL, ackL, sndD, wheH, List.cons_append, List.nil_append] at N'); (try dsimp only [tcbC, limL, rcvB, asmL, ackL, sndD, wheH, List.cons_append, List.nil_append, Nd, List.map] at Nd'); (try dsimp only); (try k_fold))
  all_goals k_extra "x body"
  all_goals (k_extra "x any")
  all_goals (refine X_cons (X_Assign_Name (X_MethodCall ?_)); (try k_fold); k_steps; (all_goals (try dsimp only)); refine' X_callK (K := K w.params) ?xX ?xhk ?_; (case xX => k_asm); (case xhk => k_is); (try k_fold); k_steps; (all_goals (try dsimp only)); k_dflt (refine' use_clmX (arrive_s ?h0 ?h1 ?h2 ?h3 ?h4 ?h5) ?k1 ?k2 ?k3 ?k4 ?kn ?ks ?k5 ?k6 ?k7 ?k8 ?_; k_extra "s premU"; (case h0 => k_extra "s hyp"); (case h1 => k_extra "s hyp"); (case h2 => k_extra "s hyp"); (case h3 => k_extra "s hyp"); (case h4 => k_extra "s hyp"); (case h5 => k_extra "s hyp"); k_whole); intro v' news' h' tk' F' N' Nd' HP; k_dflt (obtain ⟨_, _, _, _, ks', kA', _, rfl, rfl⟩ := HP); (try dsimp only [rcvB, asmL, List.cons_append, List.nil_append] at N'); (try dsimp only [rcvB, asmL, List.cons_append, List.nil_append, Nd, List.map] at Nd'); (try k_sweep); (try dsimp only); (try k_fold); k_steps; (all_goals (try dsimp only)))
  all_goals (k_extra "x any")
  all_goals (k_extra "x any")
  all_goals (k_extra "x any")
  all_goals (k_extra "x any")
  all_goals (have e1 := come_nx (nx := nx) (m := (if ed - nx < many then ed - nx else many)) (by omega); (rename News _ _ _ _ => nN); rw [e1] at nN)
  all_goals ((try dsimp only); refine' endMS ?F ?N ?nd ?sp ⟨?v, _, _, _, _, _, ?g1, ?g2, ?g3, ?g4, ?hB, StT.mk (k := tokL [_, _, _, _, _, _, _, _, _, _, _, _, _, _, _, _, _]) (p := tokL [_, _, _, _]) (kL := tokL [_, _, _, _, _, _, _, _, _, _, _, _, _, _, _, _, _, _, _, _]) (kR := tokL [_, _, _, _, _, _, _, _, _, _, _, _, _, _, _]) (kA := tokL [_, _, _]) (kK := tokL [_, _, _, _, _, _]) (kS := tokL [_, _, _, _, _, _, _, _, _, _, _, _, _, _, _, _, _]) (kW := tokL [_, _, _, _, _, _, _, _]) ?zb ?z16 ?zt ?zd ?zo ?hw, rfl⟩; (case hw => assumption); (case F => k_asm); (case N => k_asm); (case sp => k_extra "s take"); (case nd => k_extra "s nd"); (case hB => assumption); (case zt => first | assumption | omega); (case zd => first | assumption | exact .inl rfl); (case zo => first | assumption | (intro _; rfl) | (intro hz; cases hz)); (case zb => exact come_sz hb h3 (by omega)); (case z16 => omega); (case v => (refine congrArg Value.bool (beq_iff_eq.mpr ?_); exact rep_size _ (by omega))); (case g1 => omega); (case g2 => omega); (case g3 => omega); (case g4 => omega); skip)
example : True := by
  trivial
noncomputable abbrev srcL (sr : Addr) (k : Tks) (a b : Int) (n : Nat) : Led := [(sr, listOf #[.int a (k 0), .int b (k 1)] n)]
theorem fmod_nn' {a t : Int} (h : 1 ≤ t) : 0 ≤ Int.fmod a t := by rw [Int.fmod_eq_emod_of_nonneg _ (by omega)]; exact Int.emod_nonneg _ (by omega)
theorem fmod_lt' {a t : Int} (h : 1 ≤ t) : Int.fmod a t < t := by rw [Int.fmod_eq_emod_of_nonneg _ (by omega)]; exact Int.emod_lt_of_pos _ (by omega)
theorem mulR {a x y : Int} : PySem.IntMulOk ([a, x.fmod 2147483647].getD (Int.toNat 1) 0) y := PySem.IntMulOk.of_left (PySem.intBits_le_64 (by
  show -(2 : Int) ^ 64 < Int.fmod x 2147483647
  have := fmod_nn' (a := x) (t := 2147483647) (by decide); omega) (by
  show Int.fmod x 2147483647 < (2 : Int) ^ 64
  have := fmod_lt' (a := x) (t := 2147483647) (by decide); omega))
local macro_rules | `(tactic| mul_fits) => `(tactic| exact mulR)
example : True := by
  trivial
theorem take_s {w : World} {sr : Addr} {k : Tks} {a b top : Int} {n : Nat} {t : Tok} (h1 : 1 ≤ top) (h2 : top ≤ 100) : ClM 9 w 1123 (srcL sr k a b n) [.ref sr, .int top t] fun v l => ∃ (d : Int) (t : Tok) (k : Tks) (a b : Int) (n : Nat), v = .int d t ∧ 0 ≤ d ∧ d < top ∧ l = srcL sr k a b n := by
  k_extra "s fill"
  intro dp un gd cn cs a0 ccd cl outer A₀ base h₀ L m s mg mb mean Q rest B F X N hnd T hke hd hu hret
  all_goals (k_dflt (refine' enterM (binds := [(Mine.s "source", .ref sr), (Mine.s "top", .int top t)]) ?k1 ?k2 ?k3 ?k4 ?kn ?k5 ?kA ?kF ?kK ?k6 ?k7 ?k8 ?k9 ?kB ?kR ?_ ?c2 ?c3 ?c4 ?c5; k_extra "s premM"); intro g' L' h' F' N' Nd' B' X' T'; (try dsimp only [srcL, List.cons_append, List.nil_append] at N'); (try dsimp only [srcL, List.cons_append, List.nil_append, Nd, List.map] at Nd'); (try dsimp only); (try k_fold))
  all_goals k_steps
  all_goals ((try dsimp only); refine' endMS ?F ?N ?nd ?sp ⟨_, _, tokL [_, _], _, _, _, rfl, ?g1, ?g2, rfl⟩; (case F => k_asm); (case N => k_asm); (case sp => k_extra "s take"); (case nd => k_extra "s nd"); (case g1 => exact fmod_nn' h1); (case g2 => exact fmod_lt' h1); skip)
theorem isl_keep {xs : Addr} {vs : Array Value} : ∀ h h' : Heap, h.StaysIn h' → h.IsList xs vs → h'.IsList xs vs := fun h h' st hl => by
  obtain ⟨o, e, r⟩ := hl
  exact ⟨o, st _ _ e, r⟩
theorem pool_s {w : World} {xs : Addr} {vs : List Value} {ns : List Int} {t : Tok} (hI : IntsAre vs ns) (hn : ns.length ≤ 63) : ClMZ (fun h => h.IsList xs vs.toArray) 9 w 1116 [] [.ref xs, .int 0 t] fun v l => ∃ (sr : Addr) (k : Tks) (a b : Int) (n : Nat), v = .ref sr ∧ l = srcL sr k a b n := by
  k_extra "s fill"
  intro dp un gd cn cs a0 ccd cl outer A₀ base h₀ L m s mg mb mean Q rest z0 B F X N hnd T hke hd hu hret
  all_goals (k_dflt (refine' enterMZ (Z := fun h => h.IsList xs vs.toArray) (binds := [(Mine.s "script", .ref xs), (Mine.s "k", .int 0 t)]) isl_keep z0 ?k1 ?k2 ?k3 ?k4 ?kn ?k5 ?kA ?kF ?kK ?k6 ?k7 ?k8 ?k9 ?kB ?kR ?_ ?c2 ?c3 ?c4 ?c5; k_extra "s premM"); intro g' L' h' Z' F' N' Nd' B' X' T'; (try dsimp only at Z'); (try dsimp only [List.cons_append, List.nil_append] at N'); (try dsimp only [List.cons_append, List.nil_append, Nd, List.map] at Nd'); (try dsimp only); (try k_fold))
  all_goals k_extra "x body"
  refine A_hold ?_
  k_steps
  unfold Hold
  refine' A_cons_law (h₀ := g') (L := L') (s0 := s) (pre := []) (Z := fun m' l' => ∃ (c : Int) (u : Tok), m' (Mine.s "cell") = some (Value.int c u) ∧ m' (Mine.s "script") = some (Value.ref xs) ∧ m' (Mine.s "k") = some (Value.int 0 t) ∧ l' = []) ?one ?rest1
  case one =>
    k_steps
    all_goals (unfold Hold; (try dsimp only); refine' lawE ?F ?N ?nd ?sp (⟨_, _, ?q1, ?q2, ?q3, rfl⟩); (case F => k_asm); (case q1 => exact rfl); (case q2 => exact rfl); (case q3 => exact rfl); (case N => k_asm); (case sp => exact SubP.nil); (case nd => k_extra "s nd"); skip)
  intro h' tk' m' l' F' N' Nd' z
  obtain ⟨c, u, hc, hsx, hkx, rfl⟩ := z
  rw [map3 hc hsx hkx] at F'
  dsimp only [List.nil_append] at N' Nd'
  all_goals k_steps
  all_goals ((try dsimp only); refine' endMS ?F ?N ?nd ?sp ⟨_, tokL [_, _], _, _, _, rfl, rfl⟩; (case F => k_asm); (case N => k_asm); (case sp => k_extra "s take"); (case nd => k_extra "s nd"); skip)
theorem one2 {p q i : Int} (h0 : 0 ≤ i) (h1 : i < 2) : [p, q].getD i.toNat 0 = p ∨ [p, q].getD i.toNat 0 = q := by
  rcases (by omega : i = 0 ∨ i = 1) with rfl | rfl
  · exact .inl rfl
  · exact .inr rfl
theorem one6 {i : Int} (h0 : 0 ≤ i) (h1 : i < 6) : [0, 0, 1, 3, 5, 6].getD i.toNat (0 : Int) = 0 ∨ [0, 0, 1, 3, 5, 6].getD i.toNat (0 : Int) = 1 ∨ [0, 0, 1, 3, 5, 6].getD i.toNat (0 : Int) = 3 ∨ [0, 0, 1, 3, 5, 6].getD i.toNat (0 : Int) = 5 ∨ [0, 0, 1, 3, 5, 6].getD i.toNat (0 : Int) = 6 := by
  rcases (by omega : i = 0 ∨ i = 1 ∨ i = 2 ∨ i = 3 ∨ i = 4 ∨ i = 5) with rfl | rfl | rfl | rfl | rfl | rfl <;> decide
example : True := by
  k_with "call ref" => first | ((k_here; k_dflt ((with_reducible show wpAny _ _ (call (Value.ref 1123) _) _ _ _); refine' use_clm (take_s ?h0 ?h1) ?k1 ?k2 ?k3 ?k4 ?kn ?ks ?k5 ?k6 ?k7 ?k8 ?_;  k_extra "s premU"; (case h0 => k_extra "s hyp"); (case h1 => k_extra "s hyp"); k_whole); intro v' news' h' tk' F' N' Nd' HP; k_dflt (obtain ⟨_, _, kt', _, _, _, rfl, hd0', hd1', rfl⟩ := HP); (try dsimp only [srcL, List.cons_append, List.nil_append] at N'); (try dsimp only [srcL, List.cons_append, List.nil_append, Nd, List.map] at Nd');  (try k_sweep); (try dsimp only); (try k_fold))) | fail "-"
  trivial
theorem one_2 {w : World} {sr th : Addr} {k : Tks} {u0 u1 : Tok} {a b p q : Int} {n n2 : Nat} : ClM 20 w 1130 ((th, listOf #[.int p u0, .int q u1] n2) :: srcL sr k a b n) [.ref sr, .ref th] fun v l => ∃ (i : Int) (t : Tok) (k : Tks) (a b : Int) (n : Nat), v = .int i t ∧ (i = p ∨ i = q) ∧ l = srcL sr k a b n := by
  k_extra "s fill"
  intro dp un gd cn cs a0 ccd cl outer A₀ base h₀ L m s mg mb mean Q rest B F X N hnd T hke hd hu hret
  all_goals (k_dflt (refine' enterM (binds := [(Mine.s "source", .ref sr), (Mine.s "things", .ref th)]) ?k1 ?k2 ?k3 ?k4 ?kn ?k5 ?kA ?kF ?kK ?k6 ?k7 ?k8 ?k9 ?kB ?kR ?_ ?c2 ?c3 ?c4 ?c5; k_extra "s premM"); intro g' L' h' F' N' Nd' B' X' T'; (try dsimp only [srcL, List.cons_append, List.nil_append] at N'); (try dsimp only [srcL, List.cons_append, List.nil_append, Nd, List.map] at Nd'); (try dsimp only); (try k_fold))
  all_goals k_steps
  all_goals ((try dsimp only); refine' endMS ?F ?N ?nd ?sp ⟨_, _, kt', _, _, _, rfl, ?g1, rfl⟩; (case F => k_asm); (case N => k_asm); (case sp => k_extra "s take"); (case nd => k_extra "s nd"); (case g1 => exact one2 (by assumption) (by assumption)); skip)
theorem one_6 {w : World} {sr th : Addr} {k : Tks} {u0 u1 u2 u3 u4 u5 : Tok} {a b : Int} {n n2 : Nat} : ClM 20 w 1130 ((th, listOf #[.int 0 u0, .int 0 u1, .int 1 u2, .int 3 u3, .int 5 u4, .int 6 u5] n2) :: srcL sr k a b n) [.ref sr, .ref th] fun v l => ∃ (i : Int) (t : Tok) (k : Tks) (a b : Int) (n : Nat), v = .int i t ∧ (i = 0 ∨ i = 1 ∨ i = 3 ∨ i = 5 ∨ i = 6) ∧ l = srcL sr k a b n := by
  k_extra "s fill"
  intro dp un gd cn cs a0 ccd cl outer A₀ base h₀ L m s mg mb mean Q rest B F X N hnd T hke hd hu hret
  all_goals (k_dflt (refine' enterM (binds := [(Mine.s "source", .ref sr), (Mine.s "things", .ref th)]) ?k1 ?k2 ?k3 ?k4 ?kn ?k5 ?kA ?kF ?kK ?k6 ?k7 ?k8 ?k9 ?kB ?kR ?_ ?c2 ?c3 ?c4 ?c5; k_extra "s premM"); intro g' L' h' F' N' Nd' B' X' T'; (try dsimp only [srcL, List.cons_append, List.nil_append] at N'); (try dsimp only [srcL, List.cons_append, List.nil_append, Nd, List.map] at Nd'); (try dsimp only); (try k_fold))
  all_goals k_steps
  all_goals ((try dsimp only); refine' endMS ?F ?N ?nd ?sp ⟨_, _, kt', _, _, _, rfl, ?g1, rfl⟩; (case F => k_asm); (case N => k_asm); (case sp => k_extra "s take"); (case nd => k_extra "s nd"); (case g1 => exact one6 (by assumption) (by assumption)); skip)
section
open PySem PySem.W PySem.Calls PySem.Spec PyProof.Rows
theorem nd_off1 {D : Addr} {o : Obj} {l : Led} (h : LCg.Off1 D l) (n : Nd l) : Nd ((D, o) :: l) := nd_cons (fun q hq => by
  induction l with
  | nil => cases hq
  | cons p r ih =>
    rcases List.mem_cons.mp hq with rfl | hq
    · exact fun e => h.1 e.symm
    · exact ih h.2 (List.nodup_cons.mp n).2 hq) n
theorem csz {its : List Value} {ns : List Int} (h : IntsAre its ns) (hn : ns.length ≤ 100) : its.toArray.size ≤ sizeLine := by
  have := h.length
  rw [sizeLine_eq, List.size_toArray]; omega
section
variable {place nx ed ln : Int}
theorem told_ne (h1 : nx ≤ ed) (h2 : ed ≤ nx + 16) : toldW (Int.fmod nx 256) (Int.fmod ed 256) = ed - nx := told_ring (by omega) (by omega)
theorem let_none (h1 : ed = nx) (h3 : nx - 30 ≤ place) (h4 : place ≤ ed + 30) : letIn (Int.fmod place 256) ln (Int.fmod nx 256) (Int.fmod ed 256) = (place == nx) := by
  have ht : toldW (Int.fmod nx 256) (Int.fmod ed 256) = 0 := by rw [told_ne (by omega) (by omega)]; omega
  have he : (Int.fmod place 256 = Int.fmod nx 256) ↔ place = nx := by simp only [fm]; omega
  unfold letIn
  rw [ht]
  by_cases hp : place = nx
  · rw [if_pos ⟨rfl, he.mpr hp⟩, hp, beq_self_eq_true]
  · rw [if_neg (fun h => hp (he.mp h.2))]
    have hb : (place == nx) = false := beq_eq_false_iff_ne.mpr hp
    rw [hb]
    unfold isAcc
    by_cases hl : ln = 0
    · rw [if_pos ⟨hl, rfl⟩]; exact decide_eq_false (by rw [he]; exact hp)
    · rw [if_neg (fun h => hl h.1), if_neg hl, if_pos rfl]
theorem isW_ring {x low size : Int} (h0 : -200 ≤ x - low) (h1 : x - low ≤ 50) (h2 : size ≤ 50) : isW (Int.fmod x 256) (Int.fmod low 256) size 256 = (decide (low ≤ x) && decide (x < low + size)) := by
  unfold isW
  rw [ring_sub, fm, Bool.eq_iff_iff]
  simp only [Bool.and_eq_true, decide_eq_true_eq]
  omega
theorem let_some0 (h1 : nx < ed) (h2 : ed ≤ nx + 16) (h3 : nx - 30 ≤ place) (h4 : place ≤ ed + 30) (hl : ln = 0) : letIn (Int.fmod place 256) ln (Int.fmod nx 256) (Int.fmod ed 256) = (decide (nx ≤ place) && decide (place < ed)) := by
  have ht := told_ne (nx := nx) (ed := ed) (by omega) h2
  unfold letIn isAcc
  rw [ht, if_neg (by omega), if_neg (by omega), if_pos hl, isW_ring (by omega) (by omega) (by omega), show nx + (ed - nx) = ed by omega]
theorem let_some (h1 : nx < ed) (h2 : ed ≤ nx + 16) (h3 : nx - 30 ≤ place) (h4 : place ≤ ed + 30) (hl : 1 ≤ ln) (hl6 : ln ≤ 6) : letIn (Int.fmod place 256) ln (Int.fmod nx 256) (Int.fmod ed 256) = (decide (place < ed) && decide (nx < place + ln)) := by
  have ht := told_ne (nx := nx) (ed := ed) (by omega) h2
  unfold letIn isAcc
  rw [ht, if_neg (by omega), if_neg (by omega), if_neg (by omega), if_neg (by omega), isW_ring (by omega) (by omega) (by omega), isW_ring (by omega) (by omega) (by omega), Bool.eq_iff_iff]
  simp only [Bool.and_eq_true, Bool.or_eq_true, decide_eq_true_eq]
  omega
noncomputable abbrev hitQ (nx ed : Int) (n : Int) : Bool := decide (nx ≤ n) && decide (n < ed)
theorem all_rng {k : Nat} (h1 : nx < ed) (hk : 1 ≤ k) : (rangeKs place k).all (fun n => !hitQ nx ed n) = !(decide (place < ed) && decide (nx < place + (k : Int))) := by
  rw [Bool.eq_iff_iff]
  simp only [List.all_eq_true, Bool.not_eq_true', Bool.and_eq_false_iff, decide_eq_false_iff_not]
  constructor
  · intro h
    by_cases hp : place < ed
    · right
      intro hn
      by_cases hc : nx ≤ place
      · have := h place (kre_mem (by omega) (by omega)); omega
      · have := h nx (kre_mem (by omega) (by omega)); omega
    · exact .inl hp
  · intro h n hn
    have := mem_rangeKs hn
    omega
theorem let_r {ys : List Value} {k : Nat} (h1 : nx < ed) (h2 : ed ≤ nx + 16) (h3 : nx - 30 ≤ place) (h4 : place ≤ ed + 30) (hl : 1 ≤ ln) (hl6 : ln ≤ 6) (hk : (k : Int) = ln) (hy : ys.isEmpty = (rangeKs place k).all (fun n => !hitQ nx ed n)) :
    letIn (Int.fmod place 256) ln (Int.fmod nx 256) (Int.fmod ed 256) = !ys.isEmpty := by
  rw [let_some h1 h2 h3 h4 hl hl6, hy, all_rng h1 (by omega), hk, Bool.not_not]
theorem let_0 {ys : List Value} (h1 : nx < ed) (h2 : ed ≤ nx + 16) (h3 : nx - 30 ≤ place) (h4 : place ≤ ed + 30) (hl : ln = 0) (hy : ys.isEmpty = [place].all (fun n => !hitQ nx ed n)) :
    letIn (Int.fmod place 256) ln (Int.fmod nx 256) (Int.fmod ed 256) = !ys.isEmpty := by
  rw [let_some0 h1 h2 h3 h4 hl, hy]
  simp [hitQ]
theorem hit_t {n : Int} (h : nx ≤ n) (h' : n < ed) : hitQ nx ed n = true := by simp [hitQ, h, h']
theorem hit_f {n : Int} (h : ¬ (nx ≤ n ∧ n < ed)) : hitQ nx ed n = false := by
  rw [Bool.and_eq_false_iff, decide_eq_false_iff_not, decide_eq_false_iff_not]; omega
end
/-- one of its numbers lies between -/
noncomputable def dueB (nx ed place many : Int) : Bool := if many = 0 then decide (nx ≤ place) && decide (place < ed) else decide (place < ed) && decide (nx < place + many)
theorem due_r {nx ed place many : Int} {k : Nat} (h : 1 ≤ many) (hk : (k : Int) = many) : nx < ed → (rangeKs place k).all (fun n => !hitQ nx ed n) = !dueB nx ed place many := fun h1 => by
  unfold dueB
  rw [if_neg (by omega), all_rng h1 (by omega), hk]
theorem due_0 {nx ed place many : Int} (h : many = 0) : nx < ed → [place].all (fun n => !hitQ nx ed n) = !dueB nx ed place many := fun _ => by
  unfold dueB
  rw [if_pos h]
  simp [hitQ]
theorem let_g {nx ed place many ln : Int} {ns : List Int} {ys : List Value} (h1 : nx < ed) (h2 : ed ≤ nx + 16) (h3 : nx - 30 ≤ place) (h4 : place ≤ ed + 30) (h0 : 0 ≤ many) (h6 : many ≤ 6) (hl : ln = many)
    (hp : nx < ed → ns.all (fun n => !hitQ nx ed n) = !dueB nx ed place many) (hy : ys.isEmpty = ns.all (fun n => !hitQ nx ed n)) :
    letIn (Int.fmod place 256) ln (Int.fmod nx 256) (Int.fmod ed 256) = !ys.isEmpty := by
  rw [hy, hp h1, Bool.not_not, hl]
  unfold dueB
  by_cases hm : many = 0
  · rw [if_pos hm, hm, let_some0 h1 h2 h3 h4 rfl]
  · rw [if_neg hm, let_some h1 h2 h3 h4 (by omega) h6]
theorem len_16 {m : Int} (h : 0 ≤ m) : lenOf 16 (Array.replicate m.toNat (0 : UInt8)).size = m := by
  unfold lenOf
  rw [if_neg (by decide), Array.size_replicate]; omega
theorem len_17 {m : Int} (h : 0 ≤ m) : lenOf 17 (Array.replicate m.toNat (0 : UInt8)).size = m + 1 := by
  unfold lenOf
  rw [if_pos rfl, Array.size_replicate]; omega
theorem len_a {m : Int} (h : 0 ≤ m) : lenOf 16 m.toNat = m := by
  unfold lenOf
  rw [if_neg (by decide)]; omega
theorem len_b {m : Int} (h : 1 ≤ m) : lenOf 17 (m - 1).toNat = m := by
  unfold lenOf
  rw [if_pos rfl]; omega
end
example : True := by
  trivial
example : True := by
  k_with "call ref" => first | ((k_here; k_dflt ((with_reducible show wpAny _ _ (call (Value.ref 77) _) _ _ _); refine' use_cl (is_let_in_s ?lh0 ?lh1 ?lh2 ?lh3 ?lh4 ?lh5 ?lh6 ?lh7 ?lh8 ?lh9) ?k1 ?k2 ?k3 ?k4 ?k5 ?k6 ?k7 ?k8 ?_; k_extra "s prem"; (case lh1 => k_mem); (case lh2 => k_mem); (case lh3 => k_mem); (case lh4 => k_mem); (case lh5 => k_mem); (case lh6 => k_mem); (case lh7 => k_mem); (case lh8 => k_mem); (case lh9 => k_extra "s hyp"); (case lh0 => assumption); k_whole); (try dsimp only [Ret]); intro t9 h9 tk9 F9 N9; (try dsimp only); (try k_fold))) | fail "-"
  k_with "call ref" => first | ((k_here; k_dflt ((with_reducible show wpAny _ _ (call (Value.ref 209) _) _ _ _); refine' use_cl (told_window_s ?h0 ?h1) ?k1 ?k2 ?k3 ?k4 ?k5 ?k6 ?k7 ?k8 ?_; k_extra "s prem"; (case h0 => k_extra "s hyp"); (case h1 => k_extra "s hyp"); k_whole); (try dsimp only [Ret]); intro t9 h9 tk9 F9 N9; (try dsimp only); (try k_fold))) | fail "-"
  k_with "eval ListComp" => first | ((k_here; k_dflt (refine LCt.ListComp_T (F₀ := by k_asm) (by with_unfolding_all rfl) (by decide) (by rfl) (by decide) (by rfl) ?_); k_dflt lct_toSrc)) | fail "-"
  k_with "CompSrcT" => first | ((k_here; k_dflt (refine LCt.CompSrcT.ledger (by rfl) (by k_asm) (by k_asm) (by k_mem) (by k_extra "s csz") ?_); intro gC; refine' due_rest (hitQ nx ed) ?cI ?cS ?_ ?_; (case cI => k_dflt (assumption)); (case cS => k_dflt (exact Or.inr ⟨_, by k_mem, rfl, _, rfl⟩)); k_dflt (all_goals first | (intro n9 t9 I' oI' C' oC' D' oD' m' h' tk' E' Z1 Z0 hC' hx' F' N' yes no; (try dsimp only); (try k_fold)) | (intro ys' hys' D' h' tk' F' N' off'; have ndD := nd_off1 (o := LCg.lst ys') off' (by k_extra "s nd"); dsimp only [Nd, List.map] at ndD; clear off'; (try k_sweep); (try dsimp only); (try k_fold))))) | fail "-"
  k_with "compareOp NotEq ref ref" => first | ((k_here; (with_reducible show wpAny _ _ (compareOp CmpOp.NotEq (Value.ref _) (Value.ref _)) _ _ _); k_dflt (refine' ne_emptyK ?rwN ?rwa ?rwb ?rwu ?_; (case rwN => k_asm); (case rwa => k_mem); (case rwb => k_mem); (case rwu => ktr_units); k_whole))) | fail "-"
  k_with "s csz" => first | (exact csz (by assumption) (by assumption)) | fail "-"
  k_with "s hyp" => first | ((rw [Array.size_replicate]; omega)) | fail "-"
  trivial
theorem law_let_s {w : World} {x bk : Addr} {oB : Obj} {k : Tks} {mss nx ed ur una snt most : Int} {on : Bool} {lT : Led} {place many : Int} {t t' : Tok} (h : StT w x mss (Int.fmod nx 256) (Int.fmod ed 256) (ur.toNat) (Int.fmod una 256) (Int.fmod snt 256) (Int.fmod most 256) on lT) (hB : oB.IsDictOf (PySem.strKind pw w) (bkE k mss nx ed ur una snt most)) (hm0 : 0 ≤ many) (hm6 : many ≤ 6) (h1 : nx ≤ ed) (h2 : ed ≤ nx + 16) (h3 : nx - 30 ≤ place) (h4 : place ≤ ed + 30) (h5 : 0 ≤ nx) (h6 : nx ≤ 1000) :
    ClM 40 w 1184 ((bk, oB) :: lT) [.ref x, .ref bk, .int place t, .int many t'] fun v l => v = .bool true ∧ l = (bk, oB) :: lT := by
  k_extra "s fill"
  intro dp un gd cn cs a0 ccd cl outer A₀ base h₀ L m s mg mb mean Q rest B F X N hnd T hke hd hu hret
  obtain ⟨y, xL, tl, tr, xS, xR, xC, xG, xK, xW, yL, yR, ba, xA, yA, pl, yK, yS, xP, xQ, yW, sl, la, en, k, p, kL, kR, kA, kK, kS, kW, e0, b, wt, iss, mss', gv, due, lw, hb, h16, hwt, hdue, hoff, hw⟩ := h
  skip
  all_goals (k_dflt (refine' enterMC (cx := Mine.s "book") (binds := [(Mine.s "tcb", .ref x), (Mine.s "book", .ref bk), (Mine.s "place", .int place t), (Mine.s "many", .int many t')]) ?k1 ?k2 ?k3 ?k4 ?kn ?k5 ?kA ?kF ?kK ?k6 ?k7 ?k8 ?k9 ?kB ?kD ?kR ?_ ?c2 ?c3 ?c4; k_extra "s premC"); intro g' L' h' tk' o' F' N' Nd' d1' B' X' T'; (replace d1' : o'.data = .cell (some (.ref bk)) := d1'); (try dsimp only [tcbC, limL, rcvB, asmL, ackL, sndD, wheH, List.cons_append, List.nil_append] at N'); (try dsimp only [tcbC, limL, rcvB, asmL, ackL, sndD, wheH, List.cons_append, List.nil_append, Nd, List.map] at Nd'); (try dsimp only); (try k_fold))
  all_goals k_extra "x body"
  refine' A_cons_law (h₀ := g') (L := L') (s0 := s) (pre := []) (Z := fun m' l' => ∃ (fl sz : Int) (t1 t2 : Tok), (fl = 16 ∨ fl = 17) ∧ 0 ≤ sz ∧ sz ≤ 6 ∧ lenOf fl sz.toNat = many ∧ m' = (fun y => (if y = Mine.s "size" then some (Value.int sz t2) else if y = Mine.s "flags" then some (Value.int fl t1) else (bindL (envOfC (Mine.s "_law_let_right") (fS (st 68)) L' 1184 (.ref 1183)).kindOf [(Mine.s "tcb", .ref x), (Mine.s "book", .ref bk), (Mine.s "place", .int place t), (Mine.s "many", .int many t')] (fun _ => none) y))) ∧ l' = (L' + 1, o') :: (bk, oB) :: (tcbC w x y k p xL tl tr xS xR xC xG xK xW ++ (limL w xL yL kL mss ++ (rcvB w xR yR kR mss (Int.fmod nx 256) (Int.fmod ed 256) ba xA b ++ (asmL w xA yA pl kA e0 ++ (ackL w xK yK kK wt due ++ (sndD w xS yS kS iss mss' (Int.fmod una 256) (Int.fmod snt 256) (Int.fmod most 256) xP xQ false ++ (wheH w xW yW kW gv sl la en ++ lw)))))))) ?one ?rest1
  case one =>
    k_steps
    all_goals (unfold Hold; (try dsimp only); refine' lawE ?F ?N ?nd ?sp (⟨_, _, _, _, ?q1, ?q2, ?q3, ?q4, rfl, rfl⟩); (case F => k_asm); (case N => k_asm); (case sp => (try dsimp only [List.nil_append]); k_extra "s take"); (case q1 => first | exact .inl rfl | exact .inr rfl); (case q2 => omega); (case q3 => omega); (case q4 => first | (refine len_b ?_; omega) | (refine len_a ?_; omega)); (case nd => k_extra "s nd"); skip)
  clear F' N'
  intro h' tk' m' l' F' N' Nd' z
  obtain ⟨fl, sz, t1, t2, hfl, hz0, hz6, hln, rfl, rfl⟩ := z
  (dsimp only [tcbC, limL, rcvB, asmL, ackL, sndD, wheH, List.cons_append, List.nil_append] at N'); (dsimp only [tcbC, limL, rcvB, asmL, ackL, sndD, wheH, List.cons_append, List.nil_append, Nd, List.map] at Nd')
  refine' A_cons_law (h₀ := g') (L := L') (s0 := s) (pre := []) (Z := fun m' l' => ∃ (D : Addr) (its : List Value) (ns : List Int) (n0 : Nat) (t3 : Tok), IntsAre its ns ∧ ns.length ≤ 100 ∧ (nx < ed → ns.all (fun n => !hitQ nx ed n) = !dueB nx ed place many) ∧ m' = (fun y => (if y = Mine.s "window" then some (Value.int (ed - nx) t3) else if y = Mine.s "numbers" then some (Value.ref D) else (if y = Mine.s "size" then some (Value.int sz t2) else if y = Mine.s "flags" then some (Value.int fl t1) else (bindL (envOfC (Mine.s "_law_let_right") (fS (st 68)) L' 1184 (.ref 1183)).kindOf [(Mine.s "tcb", .ref x), (Mine.s "book", .ref bk), (Mine.s "place", .int place t), (Mine.s "many", .int many t')] (fun _ => none) y)))) ∧ l' = (D, listOf its.toArray n0) :: (L' + 1, o') :: (bk, oB) :: (tcbC w x y k p xL tl tr xS xR xC xG xK xW ++ (limL w xL yL kL mss ++ (rcvB w xR yR kR mss (Int.fmod nx 256) (Int.fmod ed 256) ba xA b ++ (asmL w xA yA pl kA e0 ++ (ackL w xK yK kK wt due ++ (sndD w xS yS kS iss mss' (Int.fmod una 256) (Int.fmod snt 256) (Int.fmod most 256) xP xQ false ++ (wheH w xW yW kW gv sl la en ++ lw)))))))) ?two ?rest2
  case two =>
    k_steps
    all_goals (unfold Hold; (try dsimp only); refine' lawE ?F ?N ?nd ?sp (⟨_, _, _, _, _, ?q1, ?q2, ?q3, rfl, rfl⟩); (case F => k_asm); (case N => k_asm); (case sp => (try dsimp only [List.nil_append]); k_extra "s take"); (case q1 => first | assumption | exact .cons _ _ .nil); (case q2 => first | (simp only [rangeKs_length]; omega) | exact Nat.le_of_ble_eq_true rfl); (case q3 => first | (refine due_r ?_ ?_ <;> omega) | (refine due_0 ?_; omega)); (case nd => k_extra "s nd"); skip)
  clear F' N'
  intro h' tk' m' l' F' N' Nd' z
  obtain ⟨D, its, ns, n0, t3, hIs, hlen, hp, rfl, rfl⟩ := z
  (dsimp only [tcbC, limL, rcvB, asmL, ackL, sndD, wheH, List.cons_append, List.nil_append] at N'); (dsimp only [tcbC, limL, rcvB, asmL, ackL, sndD, wheH, List.cons_append, List.nil_append, Nd, List.map] at Nd')
  all_goals k_steps
  all_goals first | exact yes (hit_t (by omega) (by omega)) _ _ | exact no (hit_f (by omega)) _ | ((try dsimp only); refine' endMS ?F ?N ?nd ?sp ⟨?v, rfl⟩; (case F => k_asm); (case N => k_asm); (case sp => k_extra "s take"); (case nd => k_extra "s nd"); (case v => (refine congrArg Value.bool (beq_iff_eq.mpr ?_)); first | (with_reducible refine told_ne ?_ ?_ <;> omega) | (with_reducible refine let_none ?_ ?_ ?_ <;> omega) | exact let_g (by omega) h2 h3 h4 hm0 hm6 (by rw [Array.size_replicate]; exact hln) hp hys'); skip)
example : True := by
  trivial
section
variable {a : Int}
theorem iss1 : Int.fmod (Int.fmod (a - 1) 256 + 1) 256 = Int.fmod a 256 := by rw [ring_add]; congr 1; omega
theorem ack1 : Int.fmod (Int.fmod a 256 - Int.fmod (a - 1) 256) 256 = 1 := by rw [ring_sub, show a - (a - 1) = 1 by omega]; decide
theorem ack3 : Int.fmod (Int.fmod (Int.fmod (a - 1) 256 + 1) 256 - Int.fmod (a - 1) 256) 256 = 1 := by rw [iss1]; exact ack1
theorem lat1 : lateI (Int.fmod (a - 1) 256) (Int.fmod (Int.fmod (a - 1) 256 + 1) 256) 256 = Int.fmod a 256 := by
  rw [iss1, late_ring (by omega) (by omega), if_pos (by omega)]
theorem ack2 : Int.fmod (lateI (Int.fmod (a - 1) 256) (Int.fmod (Int.fmod (a - 1) 256 + 1) 256) 256 - Int.fmod (a - 1) 256) 256 = 1 := by rw [lat1]; exact ack1
theorem edg1 : Int.fmod (Int.fmod (Int.fmod (a - 1) 256 + 1) 256 + 16) 256 = Int.fmod (a + 16) 256 := by rw [iss1, ring_add]
end
example : True := by
  k_with "call ref" => first | ((k_here; k_dflt ((with_reducible show wpAny _ _ (call (Value.ref 1055) _) _ _ _); refine' use_cls (fun x dx => lim_init ) ?k1 ?k2 ?k3 ?k4 ?kn ?ks ?k5 ?k6 ?k7 ?k8 ?km ?ki ?kf ?_; k_extra "s premU"; (case km => k_is); (case ki => k_is); (case kf => k_is);  k_whole); intro x' dx' news' h' tk' F' N' Nd' HP; k_dflt (obtain ⟨ks', rfl⟩ := HP); (try dsimp only [limL, List.cons_append, List.nil_append] at N'); (try dsimp only [limL, List.cons_append, List.nil_append, Nd, List.map] at Nd');  (try k_sweep); (try dsimp only); (try k_fold))) | fail "-"
  k_with "call ref" => first | ((k_here; k_dflt ((with_reducible show wpAny _ _ (call (Value.ref 1098) _) _ _ _); refine' use_cls (fun x dx => tcb_init ) ?k1 ?k2 ?k3 ?k4 ?kn ?ks ?k5 ?k6 ?k7 ?k8 ?km ?ki ?kf ?_; k_extra "s premU"; (case km => k_is); (case ki => k_is); (case kf => k_is);  k_whole); intro x' dx' news' h' tk' F' N' Nd' HP; k_dflt (obtain ⟨_, _, _, _, _, _, _, _, _, _, _, _, _, _, kt', kl', kn', kq', kk', kw', lw', hw', rfl⟩ := HP); (try dsimp only [limL, sndD, queL, ackL, wheH, List.cons_append, List.nil_append] at N'); (try dsimp only [limL, sndD, queL, ackL, wheH, List.cons_append, List.nil_append, Nd, List.map] at Nd');  (try k_sweep); (try dsimp only); (try k_fold))) | fail "-"
  k_with "call ref" => first | ((k_here; k_dflt ((with_reducible show wpAny _ _ (call (Value.ref 822) _) _ _ _); refine' use_clm (start_s ) ?k1 ?k2 ?k3 ?k4 ?kn ?ks ?k5 ?k6 ?k7 ?k8 ?_;  k_extra "s premU";  k_whole); intro v' news' h' tk' F' N' Nd' HP; k_dflt (obtain ⟨⟨_, rfl⟩, ks', rfl⟩ := HP); (try dsimp only [sndD, List.cons_append, List.nil_append] at N'); (try dsimp only [sndD, List.cons_append, List.nil_append, Nd, List.map] at Nd');  (try k_sweep); (try dsimp only); (try k_fold))) | fail "-"
  k_with "call ref" => first | ((k_here; k_dflt ((with_reducible show wpAny _ _ (call (Value.ref 900) _) _ _ _); refine' use_clm (acked_s ?h0 ?h1 ?h2) ?k1 ?k2 ?k3 ?k4 ?kn ?ks ?k5 ?k6 ?k7 ?k8 ?_;  k_extra "s premU"; (case h0 => k_extra "s hyp"); (case h1 => k_extra "s hyp"); (case h2 => k_extra "s hyp"); k_whole); intro v' news' h' tk' F' N' Nd' HP; k_dflt (obtain ⟨⟨_, rfl⟩, ks', kq', rfl⟩ := HP); (try dsimp only [sndD, queL, List.cons_append, List.nil_append] at N'); (try dsimp only [sndD, queL, List.cons_append, List.nil_append, Nd, List.map] at Nd');  (try k_sweep); (try dsimp only); (try k_fold))) | fail "-"
  k_with "call ref" => first | ((k_here; k_dflt ((with_reducible show wpAny _ _ (call (Value.ref 752) _) _ _ _); refine' use_clm (sput_s ?h0) ?k1 ?k2 ?k3 ?k4 ?kn ?ks ?k5 ?k6 ?k7 ?k8 ?_;  k_extra "s premU"; (case h0 => k_extra "s hyp"); k_whole); intro v' news' h' tk' F' N' Nd' HP; k_dflt (obtain ⟨⟨_, _, rfl⟩, ks', rfl⟩ := HP); (try dsimp only [sndD, List.cons_append, List.nil_append] at N'); (try dsimp only [sndD, List.cons_append, List.nil_append, Nd, List.map] at Nd');  (try k_sweep); (try dsimp only); (try k_fold))) | fail "-"
  k_with "s hyp" => first | (exact ack1) | fail "-"
  k_with "s hyp" => first | (exact ack2) | fail "-"
  k_with "s hyp" => first | (exact ack3) | fail "-"
  trivial
theorem law_made_s {w : World} {mss first own : Int} {t0 t1 t2 : Tok} : ClMX 50 w 1137 [] [.int mss t0, .int first t1, .int own t2] fun v l => ∃ (tp x bk : Addr) (k : Tks) (oB : Obj) (lT : Led), v = .ref tp ∧ oB.IsDictOf (PySem.strKind pw w) (bkE k mss first (first + 16) 0 own own own) ∧ StT w x mss (Int.fmod first 256) (Int.fmod (first + 16) 256) ((Int.toNat 0)) (Int.fmod own 256) (Int.fmod own 256) (Int.fmod own 256) false lT ∧ l = (tp, { cls := .type "tuple", data := .seq #[.ref x, .ref bk] }) :: (bk, oB) :: lT := by
  k_extra "s fill"
  intro dp un cn cs a0 ccd cl outer A₀ base h₀ L m s mg mb mean Q rest B F X N hnd T hke hd hu hret
  all_goals (k_dflt (refine' enterMX (binds := [(Mine.s "mss", .int mss t0), (Mine.s "first", .int first t1), (Mine.s "own", .int own t2)]) ?k1 ?k2 ?k3 ?k4 ?kn ?k5 ?kA ?kF ?kK ?k6 ?k7 ?k8 ?k9 ?kB ?kR ?_ ?c2 ?c3 ?c4 ?c5; k_extra "s premM"); intro g' L' h' F' N' Nd' B' X' T'; (try dsimp only [List.cons_append, List.nil_append] at N'); (try dsimp only [List.cons_append, List.nil_append, Nd, List.map] at Nd'); (try dsimp only); (try k_fold))
  all_goals k_extra "x body"
  all_goals (k_extra "x any")
  all_goals (k_extra "x any")
  all_goals (refine X_cons (X_Assign_Attr (X_Call ?_)); (try k_fold); k_steps; (all_goals (try dsimp only)); refine' X_callK (K := K w.params) ?xX ?xhk ?_; (case xX => k_asm); (case xhk => k_is); (try k_fold); k_steps; (all_goals (try dsimp only)); k_dflt (refine' use_clsX (fun x dx => rcv_init ) ?k1 ?k2 ?k3 ?k4 ?kn ?ks ?k5 ?k6 ?k7 ?k8 ?km ?ki ?kf ?_; k_extra "s premU"; (case km => k_is); (case ki => k_is); (case kf => k_is);  k_whole); intro x' dx' news' h' tk' F' N' Nd' HP; k_dflt (obtain ⟨_, _, _, _, kr', ka', rfl⟩ := HP); (try dsimp only [rcvB, asmL, List.cons_append, List.nil_append] at N'); (try dsimp only [rcvB, asmL, List.cons_append, List.nil_append, Nd, List.map] at Nd'); (try k_sweep); (try dsimp only); (try k_fold); k_steps; (all_goals (try dsimp only)))
  all_goals (k_extra "x any")
  all_goals (k_extra "x any")
  all_goals (k_extra "x any")
  all_goals (k_extra "x any")
  all_goals ((rename News _ _ _ _ => nN); rw [lat1, edg1, iss1, iss1] at nN)
  all_goals ((try dsimp only); refine' endMS ?F ?N ?nd ?sp ⟨_, _, _, tokL [_, _, _, _, _, _, _], _, _, rfl, ?hB, StT.mk (k := tokL [_, _, _, _, _, _, _, _, _, _, _, _, _, _, _, _, _]) (p := tokL [_, _, _, _]) (kL := tokL [_, _, _, _, _, _, _, _, _, _, _, _, _, _, _, _, _, _, _, _]) (kR := tokL [_, _, _, _, _, _, _, _, _, _, _, _, _, _, _]) (kA := tokL [_, _, _]) (kK := tokL [_, _, _, _, _, _]) (kS := tokL [_, _, _, _, _, _, _, _, _, _, _, _, _, _, _, _, _]) (kW := tokL [_, _, _, _, _, _, _, _]) ?zb ?z16 ?zt ?zd ?zo ?hw, rfl⟩; (case hw => assumption); (case F => k_asm); (case N => k_asm); (case sp => k_extra "s take"); (case nd => k_extra "s nd"); (case hB => assumption); (case zb => first | rfl | assumption | omega); (case z16 => omega); (case zt => first | assumption | omega); (case zd => first | assumption | exact .inl rfl); (case zo => first | assumption | (intro _; rfl) | (intro hz; cases hz)); skip)
example : True := by
  trivial
example : True := by
  k_with "call ref" => first | ((k_here; k_dflt ((with_reducible show wpAny _ _ (call (Value.ref 1158) _) _ _ _); refine' use_clm (law_read_s ?h0 ?h1 ?h2 ?h3) ?k1 ?k2 ?k3 ?k4 ?kn ?ks ?k5 ?k6 ?k7 ?k8 ?_; (case h0 => k_extra "s hyp"); (case h1 => k_extra "s hyp"); (case h2 => k_extra "s hyp"); (case h3 => k_extra "s hyp"); k_extra "s premU";  k_whole); intro v' news' h' tk' F' N' Nd' HP; k_dflt (obtain ⟨rfl, kb', ur', oB', lT', hu0', hu1', hB', hT', rfl⟩ := HP); replace N' := newsSwap N'; replace Nd' := ndSwap Nd'; (try dsimp only [List.cons_append, List.nil_append] at N'); (try dsimp only [List.cons_append, List.nil_append, Nd, List.map] at Nd');  (try k_sweep); (try dsimp only); (try k_fold))) | fail "-"
  k_with "call ref" => first | ((k_here; k_dflt ((with_reducible show wpAny _ _ (call (Value.ref 1165) _) _ _ _); refine' use_clm (law_acked_s ?h0 ?h1 ?h2 ?h3 ?h4 ?h5) ?k1 ?k2 ?k3 ?k4 ?kn ?ks ?k5 ?k6 ?k7 ?k8 ?_; (case h0 => k_extra "s hyp"); (case h1 => k_extra "s hyp"); (case h2 => k_extra "s hyp"); (case h3 => k_extra "s hyp"); (case h4 => k_extra "s hyp"); (case h5 => k_extra "s hyp"); k_extra "s premU";  k_whole); intro v' news' h' tk' F' N' Nd' HP; k_dflt (obtain ⟨rfl, kb', ed', oB', lT', he0', he1', hB', hT', rfl⟩ := HP); replace N' := newsSwap N'; replace Nd' := ndSwap Nd'; (try dsimp only [List.cons_append, List.nil_append] at N'); (try dsimp only [List.cons_append, List.nil_append, Nd, List.map] at Nd');  (try k_sweep); (try dsimp only); (try k_fold))) | fail "-"
  k_with "call ref" => first | ((k_here; k_dflt ((with_reducible show wpAny _ _ (call (Value.ref 1184) _) _ _ _); refine' use_clm (law_let_s ?h0 ?h1 ?h2 ?h3 ?h4 ?h5 ?h6 ?h7 ?h8 ?h9) ?k1 ?k2 ?k3 ?k4 ?kn ?ks ?k5 ?k6 ?k7 ?k8 ?_; (case h0 => k_extra "s hyp"); (case h1 => k_extra "s hyp"); (case h2 => k_extra "s hyp"); (case h3 => k_extra "s hyp"); (case h4 => k_extra "s hyp"); (case h5 => k_extra "s hyp"); (case h6 => k_extra "s hyp"); (case h7 => k_extra "s hyp"); (case h8 => k_extra "s hyp"); (case h9 => k_extra "s hyp"); k_extra "s premU";  k_whole); intro v' news' h' tk' F' N' Nd' HP; k_dflt (obtain ⟨rfl, rfl⟩ := HP); replace N' := newsSwap N'; replace Nd' := ndSwap Nd'; (try dsimp only [List.cons_append, List.nil_append] at N'); (try dsimp only [List.cons_append, List.nil_append, Nd, List.map] at Nd');  (try k_sweep); (try dsimp only); (try k_fold))) | fail "-"
  trivial
theorem told_first_s {w : World} : ClMX 60 w 1191 [] [] fun v l => v = .bool true ∧ l = [] := by
  k_extra "s fill"
  intro dp un cn cs a0 ccd cl outer A₀ base h₀ L m s mg mb mean Q rest B F X N hnd T hke hd hu hret
  all_goals (k_dflt (refine' enterMX (binds := []) ?k1 ?k2 ?k3 ?k4 ?kn ?k5 ?kA ?kF ?kK ?k6 ?k7 ?k8 ?k9 ?kB ?kR ?_ ?c2 ?c3 ?c4 ?c5; k_extra "s premM"); intro g' L' h' F' N' Nd' B' X' T'; (try dsimp only [List.cons_append, List.nil_append] at N'); (try dsimp only [List.cons_append, List.nil_append, Nd, List.map] at Nd'); (try dsimp only); (try k_fold))
  all_goals k_extra "x body"
  all_goals (refine X_cons (X_Assign_Tuple (X_Call ?_)); (try k_fold); k_steps; (all_goals (try dsimp only)); refine' X_callK (K := K w.params) ?xX ?xhk ?_; (case xX => k_asm); (case xhk => k_is); (try k_fold); k_steps; (all_goals (try dsimp only)); k_dflt (refine' use_clmX (law_made_s ) ?k1 ?k2 ?k3 ?k4 ?kn ?ks ?k5 ?k6 ?k7 ?k8 ?_; k_extra "s premU";  k_whole); intro v' news' h' tk' F' N' Nd' HP; k_dflt (obtain ⟨_, _, _, kb', oB', lT', rfl, hB', hT', rfl⟩ := HP); replace N' := newsSwap N'; replace Nd' := ndSwap Nd'; (try dsimp only [List.cons_append, List.nil_append] at N'); (try dsimp only [List.cons_append, List.nil_append, Nd, List.map] at Nd'); (try k_sweep); (try dsimp only); (try k_fold); k_steps; (all_goals (try dsimp only)))
  all_goals (refine X_cons (X_If (X_isTrue_BoolOp (X_allTrue_or (X_isTrue_Not (X_isTrue_value (X_Call ?_)))))); (try k_fold); k_steps; (all_goals (try dsimp only)); refine' X_callK (K := K w.params) ?xX ?xhk ?_; (case xX => k_asm); (case xhk => k_is); (try k_fold); k_steps; (all_goals (try dsimp only)); k_dflt (refine' use_clmX (law_come_s ?h0 ?h1 ?h2 ?h3 ?h4 ?h5) ?k1 ?k2 ?k3 ?k4 ?kn ?ks ?k5 ?k6 ?k7 ?k8 ?_; (case h0 => k_extra "s hyp"); (case h1 => k_extra "s hyp"); (case h2 => k_extra "s hyp"); (case h3 => k_extra "s hyp"); (case h4 => k_extra "s hyp"); (case h5 => k_extra "s hyp"); k_extra "s premU"; k_whole); intro v' news' h' tk' F' N' Nd' HP; k_dflt (obtain ⟨rfl, kb', nx', ur', oB', lT', hn0', hn1', hn2', hn3', hB', hT', rfl⟩ := HP); replace N' := newsSwap N'; replace Nd' := ndSwap Nd'; (try dsimp only [List.cons_append, List.nil_append] at N'); (try dsimp only [List.cons_append, List.nil_append, Nd, List.map] at Nd'); (try k_sweep); (try dsimp only); (try k_fold); k_steps; (all_goals (try dsimp only)))
  all_goals (refine X_any_all ?_; (try k_fold); k_steps; (all_goals (try dsimp only)))
  all_goals (k_extra "x nil")
  all_goals (k_extra "x any")
  all_goals ((try dsimp only); refine' endMS ?F ?N ?nd ?sp ⟨rfl, rfl⟩; (case F => k_asm); (case N => k_asm); (case sp => k_extra "s take"); (case nd => k_extra "s nd"); skip)
example : True := by
  trivial
noncomputable def forB : Stmt → List Stmt | .For _ _ b .. => b | _ => []
noncomputable def outerB : List Stmt := forB ((fB (st 70)).getD 3 (.Pass default))
noncomputable def innerB : List Stmt := forB (outerB.getD 3 (.Pass default))
/-- what stands between the turns -/
inductive LawS (w : World) (B : Int) (m : Str → Option Value) : Led → Prop
  | intro (sr x bk : Addr) (ks kb : Tks) (a b : Int) (n2 : Nat) (oB : Obj) (lT : Led) (mss nx ed ur una snt most : Int) (on : Bool) (hs : m (Mine.s "source") = some (.ref sr)) (ht : m (Mine.s "tcb") = some (.ref x)) (hb : m (Mine.s "book") = some (.ref bk)) (hB : oB.IsDictOf (PySem.strKind pw w) (bkE kb mss nx ed ur una snt most)) (hT : StT w x mss (Int.fmod nx 256) (Int.fmod ed 256) (ur.toNat) (Int.fmod una 256) (Int.fmod snt 256) (Int.fmod most 256) on lT) (f1 : 1 ≤ mss) (f2 : 0 ≤ nx) (f3 : nx ≤ B) (f4 : nx ≤ ed) (f5 : ed ≤ nx + 16 - ur) (f6 : 0 ≤ ur) (f7 : una ≤ snt) (f8 : snt ≤ most) (f9 : most ≤ una + 40) :
    LawS w B m ((sr, listOf #[.int a (ks 0), .int b (ks 1)] n2) :: (bk, oB) :: lT)
example : True := by
  k_with "call ref" => first | ((k_here; k_dflt ((with_reducible show wpAny _ _ (call (Value.ref 1130) _) _ _ _); refine' use_clm (one_6 ) ?k1 ?k2 ?k3 ?k4 ?kn ?ks ?k5 ?k6 ?k7 ?k8 ?_;  k_extra "s premU";  k_whole); intro v' news' h' tk' F' N' Nd' HP; k_dflt (obtain ⟨_, _, kt', _, _, _, rfl, hi', rfl⟩ := HP); (try dsimp only [srcL, List.cons_append, List.nil_append] at N'); (try dsimp only [srcL, List.cons_append, List.nil_append, Nd, List.map] at Nd');  (try k_sweep); (try dsimp only); (try k_fold))) | fail "-"
  k_with "call ref" => first | ((k_here; k_dflt ((with_reducible show wpAny _ _ (call (Value.ref 1130) _) _ _ _); refine' use_clm (one_2 ) ?k1 ?k2 ?k3 ?k4 ?kn ?ks ?k5 ?k6 ?k7 ?k8 ?_;  k_extra "s premU";  k_whole); intro v' news' h' tk' F' N' Nd' HP; k_dflt (obtain ⟨_, _, kt', _, _, _, rfl, hi', rfl⟩ := HP); (try dsimp only [srcL, List.cons_append, List.nil_append] at N'); (try dsimp only [srcL, List.cons_append, List.nil_append, Nd, List.map] at Nd');  (try k_sweep); (try dsimp only); (try k_fold))) | fail "-"
  trivial
theorem inner_turn {w : World} {dp un : Nat} {L a0 : Addr} {ccd : Value} {outer : List Env} {A₀ : Around} {base h₀ : Heap} {s : Shared} {mg mb : Str → Option Value} {mean : ExcName → Option Value} {Bd : Int} {m : Str → Option Value} {h : Heap} {tk : Nat} {l : Led} {I1 I2 : Addr} {o1 o2 : Obj} {i : Int} {t : Tok} (K0 : Below A₀ base outer h₀) (X : (K w.params).In h₀) (T : Top qv loose mean mg mb h₀) (hd : dp + 70 < recursionLimit) (hu : un + 10 * 70 < cLine) (hBd : Bd ≤ 900)
    (F : Fr h₀ L h (fun y => if y = Mine.s "again" then some (.int i t) else m y)) (N : News h₀ L h ((I2, o2) :: (I1, o1) :: l)) (nd : Nd ((I2, o2) :: (I1, o1) :: l)) (S : LawS w Bd m l) :
    wpX (model pw w) (ktrTop dp un (some []) (Mine.s "law") (fS (st 70)) L a0 ccd [] outer) (execs innerB (envX (Mine.s "law") (fS (st 70)) L a0 ccd [])) (LawE h₀ L s [(I2, o2), (I1, o1)] (LawS w Bd)) { s with heap := h, toks := tk } := by
  k_extra "s fill"
  obtain ⟨sr, x, bk, ks, kb, a, b, n2, oB, lT, mss, nx, ed, ur, una, snt, most, on, hs, ht, hb, hB, hT, f1, f2, f3, f4, f5, f6, f7, f8, f9⟩ := S
  rw [map3 hs ht hb] at F
  dsimp only [Nd, List.map] at nd
  k_extra "x body"
  all_goals (k_extra "x any")
  all_goals (k_extra "x any")
  all_goals (k_extra "x nil")
  all_goals ((try dsimp only); refine' lawE ?F ?N ?nd ?sp (LawS.intro _ _ _ (tokL [_, _]) _ _ _ _ _ _ _ _ _ _ _ _ _ _ ?s1 ?s2 ?s3 ?hB ?hT ?f1 ?f2 ?f3 ?f4 ?f5 ?f6 ?f7 ?f8 ?f9); (case F => k_asm); (case s1 => exact rfl); (case s2 => exact rfl); (case s3 => exact rfl); (case hT => assumption); (case hB => assumption); (case N => k_asm); (case sp => (try dsimp only [List.cons_append, List.nil_append]); k_extra "s take"); (case nd => k_extra "s nd"); (case f1 => omega); (case f2 => omega); (case f3 => omega); (case f4 => omega); (case f5 => omega); (case f6 => omega); (case f7 => omega); (case f8 => omega); (case f9 => omega))
section
open PySem PySem.W PySem.Calls PySem.Spec PyProof.Rows
theorem X_cons_law {M : Model} {A : Around} {s s0 : Shared} {env : Env} {h₀ : Heap} {L : Addr} {st : Stmt} {rest : List Stmt} {Q : Flow → Shared → Prop} {pre : Led} {Z : (Str → Option Value) → Led → Prop} (h : wpX M A (exec st env) (LawE h₀ L s0 pre Z) s)
    (h2 : ∀ h' tk' m' l', Fr h₀ L h' m' → News h₀ L h' (pre ++ l') → Nd (pre ++ l') → Z m' l' → wpX M A (execs rest env) Q { s0 with heap := h', toks := tk' }) : wpX M A (execs (st :: rest) env) Q s :=
  X_cons (X_mono h fun f s' q => by
    obtain ⟨rfl, h', tk', m', l', rfl, F, N, nd, z⟩ := q
    exact h2 h' tk' m' l' F N nd z)
section
variable {w : World} {dp un : Nat} {L a0 : Addr} {ccd : Value} {outer : List Env} {A₀ : Around} {base h₀ : Heap} {s : Shared} {mg mb : Str → Option Value} {mean : ExcName → Option Value} {Bd : Int} {m : Str → Option Value} {l l0 : Led}
theorem inner_loop {I1 r : Addr} {o1 : Obj} {px : Pos} {t₀ u₀ v₀ : Tok} {R : Result → Shared → Prop} (K0 : Below A₀ base outer h₀) (X : (K w.params).In h₀) (T : Top qv loose mean mg mb h₀) (hd : dp + 70 < recursionLimit) (hu : un + 10 * 70 < cLine) (hBd : Bd ≤ 900)
    (hr : IsRange s.heap r 0 4 1 t₀ u₀ v₀) (F : Fr h₀ L s.heap m) (N : News h₀ L s.heap l0) (nd : Nd l0) (sp : SubP ((I1, o1) :: l) l0) (S : LawS w Bd m l)
    (done : ∀ h tk m' l', Fr h₀ L h m' → News h₀ L h ((I1, o1) :: l') → Nd ((I1, o1) :: l') → LawS w Bd m' l' → R (.ok .next) { s with heap := h, toks := tk }) :
    wpAny (model pw w) (ktrTop dp un (some []) (Mine.s "law") (fS (st 70)) L a0 ccd [] outer) (pyIter (.ref r)) (fun it s₂ => codeX (model pw w) (ktrTop dp un (some []) (Mine.s "law") (fS (st 70)) L a0 ccd [] outer) (.forLoop (.Name (Mine.s "again") px) it innerB [] (envX (Mine.s "law") (fS (st 70)) L a0 ccd [])) R s₂) Nev s := by
  refine X_rangeLoop (env := envX (Mine.s "law") (fS (st 70)) L a0 ccd []) (n := 4) (news := (I1, o1) :: l) (fun _ m₁ news₁ => ∃ l, news₁ = (I1, o1) :: l ∧ Nd news₁ ∧ LawS w Bd m₁ l) rfl rfl rfl hr (by decide) (by decide) F (fun p hp => N p (sp.mem p hp)) ⟨l, rfl, sp.nd nd, S⟩ ?_ ?_
  · rintro i t m₁ news₁ I o h tk hi ⟨l, rfl, nd, S⟩ hne F N
    refine X_mono (inner_turn K0 X T hd hu hBd F N (nd_cons (fun q hq => (hne q hq).symm) nd) S) fun f s' hE => ?_
    obtain ⟨rfl, h', tk', m', l', rfl, F', N', nd', S'⟩ := hE
    exact ⟨h', tk', m', (I1, o1) :: l', rfl, F', N', fun p hp e => (List.nodup_cons.mp nd').1 (List.mem_map.mpr ⟨p, hp, e⟩), l', rfl, (List.nodup_cons.mp nd').2, S'⟩
  · rintro m₁ news₁ h tk ⟨l, rfl, nd, S⟩ F N
    exact done h tk m₁ l F N nd S
end
end
example : True := by
  trivial
example : True := by
  k_with "call ref" => first | ((k_here; k_dflt ((with_reducible show wpAny _ _ (call (Value.ref 1172) _) _ _ _); refine' use_clm (law_sent_s ?h0 ?h1 ?h2 ?h3 ?h4 ?h5) ?k1 ?k2 ?k3 ?k4 ?kn ?ks ?k5 ?k6 ?k7 ?k8 ?_; (case h0 => k_extra "s hyp"); (case h1 => k_extra "s hyp"); (case h2 => k_extra "s hyp"); (case h3 => k_extra "s hyp"); (case h4 => k_extra "s hyp"); (case h5 => k_extra "s hyp"); k_extra "s premU";  k_whole); intro v' news' h' tk' F' N' Nd' HP; k_dflt (obtain ⟨rfl, kb', snt', most', oB', lT', hs0', hs1', hs2', hB', hT', rfl⟩ := HP); replace N' := newsSwap N'; replace Nd' := ndSwap Nd'; (try dsimp only [List.cons_append, List.nil_append] at N'); (try dsimp only [List.cons_append, List.nil_append, Nd, List.map] at Nd');  (try k_sweep); (try dsimp only); (try k_fold))) | fail "-"
  k_with "call ref" => first | ((k_here; k_dflt ((with_reducible show wpAny _ _ (call (Value.ref 1179) _) _ _ _); refine' use_clm (law_back_s ?h0 ?h1 ?h2 ?h3 ?h4 ?h5) ?k1 ?k2 ?k3 ?k4 ?kn ?ks ?k5 ?k6 ?k7 ?k8 ?_; (case h0 => k_extra "s hyp"); (case h1 => k_extra "s hyp"); (case h2 => k_extra "s hyp"); (case h3 => k_extra "s hyp"); (case h4 => k_extra "s hyp"); (case h5 => k_extra "s hyp"); k_extra "s premU";  k_whole); intro v' news' h' tk' F' N' Nd' HP; k_dflt (obtain ⟨rfl, kb', snt', oB', lT', hs0', hs1', hB', hT', rfl⟩ := HP); replace N' := newsSwap N'; replace Nd' := ndSwap Nd'; (try dsimp only [List.cons_append, List.nil_append] at N'); (try dsimp only [List.cons_append, List.nil_append, Nd, List.map] at Nd');  (try k_sweep); (try dsimp only); (try k_fold))) | fail "-"
  trivial
theorem outer_turn {w : World} {dp un : Nat} {L a0 : Addr} {ccd : Value} {outer : List Env} {A₀ : Around} {base h₀ : Heap} {s : Shared} {mg mb : Str → Option Value} {mean : ExcName → Option Value} {Bd : Int} {m : Str → Option Value} {h : Heap} {tk : Nat} {l : Led} {I1 : Addr} {o1 : Obj} {i : Int} {t : Tok} (K0 : Below A₀ base outer h₀) (X : (K w.params).In h₀) (T : Top qv loose mean mg mb h₀) (hd : dp + 70 < recursionLimit) (hu : un + 10 * 70 < cLine) (hBd : Bd ≤ 800)
    (F : Fr h₀ L h (fun y => if y = Mine.s "turn" then some (.int i t) else m y)) (N : News h₀ L h ((I1, o1) :: l)) (nd : Nd ((I1, o1) :: l)) (S : LawS w Bd m l) :
    wpX (model pw w) (ktrTop dp un (some []) (Mine.s "law") (fS (st 70)) L a0 ccd [] outer) (execs outerB (envX (Mine.s "law") (fS (st 70)) L a0 ccd [])) (LawE h₀ L s [(I1, o1)] (LawS w (Bd + 16))) { s with heap := h, toks := tk } := by
  k_extra "s fill"
  obtain ⟨sr, x, bk, ks, kb, a, b, n2, oB, lT, mss, nx, ed, ur, una, snt, most, on, hs, ht, hb, hB, hT, f1, f2, f3, f4, f5, f6, f7, f8, f9⟩ := S
  rw [map3 hs ht hb] at F
  dsimp only [Nd, List.map] at nd
  k_extra "x body"
  all_goals (k_extra "x any")
  all_goals (refine' X_cons_law (h₀ := h₀) (L := L) (s0 := s) (pre := [(I1, o1)]) (Z := fun m' l' => LawS w (Bd + 16) m' l' ∧ m' (Mine.s "is_right") = some (.bool true)) ?deed ?rest)
  case deed =>
    refine X_If (X_any ?_)
    (try k_fold)
    k_steps
    (all_goals (try dsimp only))
    next =>
      refine X_cons (X_Assign_Name (X_Call ?_)); (try k_fold); k_steps; (all_goals (try dsimp only)); refine' X_callK (K := K w.params) ?xX ?xhk ?_; (case xX => k_asm); (case xhk => k_is); (try k_fold); k_steps; (all_goals (try dsimp only)); k_dflt (refine' use_clmX (law_come_s ?h0 ?h1 ?h2 ?h3 ?h4 ?h5) ?k1 ?k2 ?k3 ?k4 ?kn ?ks ?k5 ?k6 ?k7 ?k8 ?_; (case h0 => k_extra "s hyp"); (case h1 => k_extra "s hyp"); (case h2 => k_extra "s hyp"); (case h3 => k_extra "s hyp"); (case h4 => k_extra "s hyp"); (case h5 => k_extra "s hyp"); k_extra "s premU"; k_whole); intro v' news' h' tk' F' N' Nd' HP; k_dflt (obtain ⟨rfl, kb', nx', ur', oB', lT', hn0', hn1', hn2', hn3', hB', hT', rfl⟩ := HP); replace N' := newsSwap N'; replace Nd' := ndSwap Nd'; (try dsimp only [List.cons_append, List.nil_append] at N'); (try dsimp only [List.cons_append, List.nil_append, Nd, List.map] at Nd'); (try k_sweep); (try dsimp only); (try k_fold); k_steps; (all_goals (try dsimp only))
      all_goals (k_extra "x nil")
      all_goals ((try dsimp only); refine' lawE ?F ?N ?nd ?sp (⟨LawS.intro _ _ _ (tokL [_, _]) _ _ _ _ _ _ _ _ _ _ _ _ _ _ ?s1 ?s2 ?s3 ?hB ?hT ?f1 ?f2 ?f3 ?f4 ?f5 ?f6 ?f7 ?f8 ?f9, ?s4⟩); (case F => k_asm); (case s1 => exact rfl); (case s2 => exact rfl); (case s3 => exact rfl); (case s4 => exact rfl); (case hT => assumption); (case hB => assumption); (case N => k_asm); (case sp => (try dsimp only [List.cons_append, List.nil_append]); k_extra "s take"); (case nd => k_extra "s nd"); (case f1 => omega); (case f2 => omega); (case f3 => omega); (case f4 => omega); (case f5 => omega); (case f6 => omega); (case f7 => omega); (case f8 => omega); (case f9 => omega))
    next =>
      all_goals (k_extra "x any")
      all_goals (k_extra "x nil")
      all_goals ((try dsimp only); refine' lawE ?F ?N ?nd ?sp (⟨LawS.intro _ _ _ (tokL [_, _]) _ _ _ _ _ _ _ _ _ _ _ _ _ _ ?s1 ?s2 ?s3 ?hB ?hT ?f1 ?f2 ?f3 ?f4 ?f5 ?f6 ?f7 ?f8 ?f9, ?s4⟩); (case F => k_asm); (case s1 => exact rfl); (case s2 => exact rfl); (case s3 => exact rfl); (case s4 => exact rfl); (case hT => assumption); (case hB => assumption); (case N => k_asm); (case sp => (try dsimp only [List.cons_append, List.nil_append]); k_extra "s take"); (case nd => k_extra "s nd"); (case f1 => omega); (case f2 => omega); (case f3 => omega); (case f4 => omega); (case f5 => omega); (case f6 => omega); (case f7 => omega); (case f8 => omega); (case f9 => omega))
  case rest =>
    intro h' tk' m' l' F' N' Nd' z
    obtain ⟨S, hr⟩ := z
    have Sc := S
    obtain ⟨sr, x, bk, ks, kb, a, b, n2, oB, lT, mss, nx, ed, ur, una, snt, most, on, hs, ht, hb, hB, hT, f1, f2, f3, f4, f5, f6, f7, f8, f9⟩ := S
    rw [map4 hs ht hb hr] at F'
    dsimp only [List.cons_append, List.nil_append] at N'
    dsimp only [Nd, List.map, List.cons_append, List.nil_append] at Nd'
    all_goals (k_extra "x any")
    refine X_cons (X_For2 ?_)
    (try k_fold)
    k_steps
    (all_goals (try dsimp only))
    all_goals (unfold Hold; refine' inner_loop (I1 := I1) (o1 := o1) (Bd := Bd + 16) K0 X T hd hu (by omega) ?hr ?F ?N ?nd ?sp ?S ?done)
    case F => k_asm
    case N => k_asm
    case nd => k_extra "s nd"
    case S => exact LawS.intro sr x bk ks kb a b n2 oB lT mss nx ed ur una snt most on rfl rfl rfl hB hT f1 f2 f3 f4 f5 f6 f7 f8 f9
    case sp => k_extra "s take"
    case hr => assumption
    case done =>
      intro h tk m' l' F' N' nd' S'
      exact X_nil (lawE F' N' nd' SubP.same S')
section
open PySem PySem.W PySem.Calls PySem.Spec PyProof.Rows
section
variable {w : World} {dp un : Nat} {L a0 : Addr} {ccd : Value} {outer : List Env} {A₀ : Around} {base h₀ : Heap} {s : Shared} {mg mb : Str → Option Value} {mean : ExcName → Option Value} {m : Str → Option Value} {l l0 : Led}
theorem outer_loop {r : Addr} {b₀ : Int} {px : Pos} {t₀ u₀ v₀ : Tok} {R : Result → Shared → Prop} (K0 : Below A₀ base outer h₀) (X : (K w.params).In h₀) (T : Top qv loose mean mg mb h₀) (hd : dp + 70 < recursionLimit) (hu : un + 10 * 70 < cLine)
    (hr : IsRange s.heap r 0 b₀ 1 t₀ u₀ v₀) (h0 : 0 ≤ b₀) (h1 : b₀ ≤ 20) (F : Fr h₀ L s.heap m) (N : News h₀ L s.heap l0) (nd : Nd l0) (sp : SubP l l0) (S : LawS w 300 m l)
    (done : ∀ h tk m' l' B, Fr h₀ L h m' → News h₀ L h l' → Nd l' → LawS w B m' l' → R (.ok .next) { s with heap := h, toks := tk }) :
    wpAny (model pw w) (ktrTop dp un (some []) (Mine.s "law") (fS (st 70)) L a0 ccd [] outer) (pyIter (.ref r)) (fun it s₂ => codeX (model pw w) (ktrTop dp un (some []) (Mine.s "law") (fS (st 70)) L a0 ccd [] outer) (.forLoop (.Name (Mine.s "turn") px) it outerB [] (envX (Mine.s "law") (fS (st 70)) L a0 ccd [])) R s₂) Nev s := by
  refine X_rangeLoop (env := envX (Mine.s "law") (fS (st 70)) L a0 ccd []) (n := b₀.toNat) (news := l) (fun i m₁ news₁ => Nd news₁ ∧ LawS w (300 + 16 * (i : Int)) m₁ news₁) rfl rfl rfl hr (small_one (by omega) (by omega) (by omega) (by omega)) (by rw [rangeSize_nat]; simp) F (fun p hp => N p (sp.mem p hp)) ⟨sp.nd nd, by simpa using S⟩ ?_ ?_
  · rintro i t m₁ news₁ I o h tk hi ⟨nd, S⟩ hne F N
    refine X_mono (outer_turn K0 X T hd hu (by omega) F N (nd_cons (fun q hq => (hne q hq).symm) nd) S) fun f s' hE => ?_
    obtain ⟨rfl, h', tk', m', l', rfl, F', N', nd', S'⟩ := hE
    refine ⟨h', tk', m', l', rfl, F', N', fun p hp e => (List.nodup_cons.mp nd').1 (List.mem_map.mpr ⟨p, hp, e⟩), (List.nodup_cons.mp nd').2, ?_⟩
    rwa [show (300 : Int) + 16 * ((i + 1 : Nat) : Int) = 300 + 16 * (i : Int) + 16 by omega]
  · rintro m₁ news₁ h tk ⟨nd, S⟩ F N
    exact done h tk m₁ news₁ _ F N nd S
end
end
example : True := by
  trivial
example : True := by
  k_with "call ref" => first | ((k_here; k_dflt ((with_reducible show wpAny _ _ (call (Value.ref 1116) _) _ _ _); refine' use_clmZ (pool_s ?h0 ?h1) ?k0 ?k1 ?k2 ?k3 ?k4 ?kn ?ks ?k5 ?k6 ?k7 ?k8 ?_; (case k0 => exact hl); (case h0 => assumption); (case h1 => assumption); k_extra "s premU"; k_whole); intro v' news' h' tk' F' N' Nd' HP; k_dflt (obtain ⟨_, ks', _, _, _, rfl, rfl⟩ := HP); (try dsimp only [srcL, List.cons_append, List.nil_append] at N'); (try dsimp only [srcL, List.cons_append, List.nil_append, Nd, List.map] at Nd'); (try k_sweep); (try dsimp only); (try k_fold))) | fail "-"
  trivial
noncomputable def BodyE (h₀ : Heap) (L : Addr) (s : Shared) (f : Flow) (s' : Shared) : Prop := f = .ret (.bool true) ∧ ∃ h' tk' m', s' = { s with heap := h', toks := tk' } ∧ Fr h₀ L h' m'
theorem law_body {w : World} {dp un : Nat} {L a0 : Addr} {ccd : Value} {outer : List Env} {A₀ : Around} {base h₀ : Heap} {s : Shared} {mg mb : Str → Option Value} {mean : ExcName → Option Value} {xs : Addr} {vs : List Value} {ns : List Int} (K0 : Below A₀ base outer h₀) (X : (K w.params).In h₀) (T : Top qv loose mean mg mb h₀) (hd : dp + 70 < recursionLimit) (hu : un + 10 * 70 < cLine) (hI : IntsAre vs ns) (hn : ns.length ≤ 63) (hl : h₀.IsList xs vs.toArray)
    (F : Fr h₀ L s.heap (fun y => List.lookup y [(Mine.s "script", Value.ref xs)])) :
    wpX (model pw w) (ktrTop dp un (some []) (Mine.s "law") (fS (st 70)) L a0 ccd [] outer) (execs (fB (st 70)) (envX (Mine.s "law") (fS (st 70)) L a0 ccd [])) (BodyE h₀ L s) s := by
  k_extra "s fill"
  have N : News h₀ L s.heap [] := News.nil
  have Nd0 : Nd [] := nd_nil
  k_extra "x body"
  all_goals (refine X_cons (X_If (X_isTrue_Not (X_isTrue_value (X_Call ?_)))); (try k_fold); k_steps; (all_goals (try dsimp only)); refine' X_callK0 (K := K w.params) ?xX ?xhk ?_; (case xX => k_in); (case xhk => k_is); (try dsimp only [List.cons_append, List.nil_append]); k_dflt (refine' use_clmX (told_first_s ) ?k1 ?k2 ?k3 ?k4 ?kn ?ks ?k5 ?k6 ?k7 ?k8 ?_; k_extra "s premU";  k_whole); intro v' news' h' tk' F' N' Nd' HP; k_dflt (obtain ⟨rfl, rfl⟩ := HP); (try dsimp only [List.cons_append, List.nil_append] at N'); (try dsimp only [List.cons_append, List.nil_append, Nd, List.map] at Nd'); (try k_sweep); (try dsimp only); (try k_fold); k_steps; (all_goals (try dsimp only)))
  all_goals (k_extra "x nil")
  all_goals (k_extra "x any")
  all_goals (refine X_cons (X_Assign_Tuple (X_Call ?_)); (try k_fold); k_steps; (all_goals (try dsimp only)); refine' X_callK (K := K w.params) ?xX ?xhk ?_; (case xX => k_asm); (case xhk => k_is); (try k_fold); k_steps; (all_goals (try dsimp only)); k_dflt (refine' use_clmX (law_made_s ) ?k1 ?k2 ?k3 ?k4 ?kn ?ks ?k5 ?k6 ?k7 ?k8 ?_; k_extra "s premU";  k_whole); intro v' news' h' tk' F' N' Nd' HP; k_dflt (obtain ⟨_, _, _, kb', oB', lT', rfl, hB', hT', rfl⟩ := HP); replace N' := newsSwap N'; replace Nd' := ndSwap Nd'; (try dsimp only [List.cons_append, List.nil_append] at N'); (try dsimp only [List.cons_append, List.nil_append, Nd, List.map] at Nd'); (try k_sweep); (try dsimp only); (try k_fold); k_steps; (all_goals (try dsimp only)))
  refine X_cons (X_For2 ?_)
  (try k_fold)
  k_steps
  (all_goals (try dsimp only))
  unfold Hold
  refine' outer_loop K0 X T hd hu ?hr ?h0 ?h1 ?F ?N ?nd ?sp (LawS.intro _ _ _ (tokL [_, _]) _ _ _ _ _ _ _ _ _ _ _ _ _ _ ?s1 ?s2 ?s3 ?hB ?hT ?f1 ?f2 ?f3 ?f4 ?f5 ?f6 ?f7 ?f8 ?f9) ?done
  case F => k_asm
  case hr => assumption
  case h0 => omega
  case h1 => omega
  case s1 => exact rfl
  case s2 => exact rfl
  case s3 => exact rfl
  case hT => assumption
  case hB => assumption
  case N => k_asm
  case sp => k_extra "s take"
  case nd => k_extra "s nd"
  case f1 => omega
  case f2 => omega
  case f3 => omega
  case f4 => omega
  case f5 => omega
  case f6 => omega
  case f7 => omega
  case f8 => omega
  case f9 => omega
  case done =>
    intro h tk m' l' B F' N' nd' S
    obtain ⟨sr, x, bk, ks, kb, a, b, n2, oB, lT, mss, nx, ed, ur, una, snt, most, on, hs, ht, hb, hB, hT, f1, f2, f3, f4, f5, f6, f7, f8, f9⟩ := S
    rw [map3 hs ht hb] at F'
    dsimp only [Nd, List.map] at nd'
    all_goals (k_extra "x any")
    all_goals exact ⟨rfl, _, _, _, rfl, by assumption⟩
section
open PySem PySem.W PyProof.Rows
theorem law_call : WalkOX qv loose (XL qv []) (kHook K Ks hKs).says PySem.Challenge.rw_pq1200_01.row.toRowW dLaw [] := by
  intro w s₀ s₁ mg mb G Y fa o pm cd doc dV kV ho hd hcd hD hmg hg args vals as hpre hlay hrd hwl hlo
  have KX := kIn_of Y
  have X := (Ground.X G)
  refine Ground.open G ?_
  intro T B D TE TW
  wrow_args hpre hlay hrd hwl hlo
  rename_i ns _ _ _ _ _ _ _ xs vs _ hl _ _ _ hI _ hc1 _
  obtain ⟨_, _, hec, B0⟩ := based_of_top T rfl hmg ho hd
  have e : looseW qv loose = loose := by kernel_rfl
  rw [e] at T
  have he := Dflts.none hD rfl
  subst he
  refine X_call (enterLaw (body := dLaw.body) (binds := [(Mine.s "script", .ref xs)]) ?hroom ho hd (Top.nolimit T) hcd ?hbody ?hbind ?hcell ?hloc ?h ?hco ?hgen ?hk)
  case hroom => decide
  case hbody => exact rfl
  case hbind => exact BindsTo.of_eq (by kernel_rfl!)
  case hcell => exact of_decide_eq_true (by kernel_rfl)
  case hloc => exact locs rfl
  case hco => exact rfl
  case hgen => exact rfl
  case hk => exact rfl
  case h =>
    intro h₁ F
    have hlen : ns.length ≤ 63 := by omega
    have z := law_body (w := w) (dp := callerA.depth + 1) (un := callerA.units + 3) (a0 := fa) (ccd := cd) (outer := []) (s := { s₁ with heap := h₁, toks := s₁.toks + 1 }) (below_caller s₁.heap) KX T (by decide) (by decide) hI hlen hl F
    refine X_mono z fun f s' hE => ?_
    obtain ⟨rfl, h', tk', m', rfl, F'⟩ := hE
    have N' : News s₁.heap s₁.heap.objs.size h' [] := News.nil
    dsimp only
    exact goodWG_reads B0 F' (AllBare.of_eq hg) (raisesW_false (fun _ h => nomatch h)) (ReadsW.bool true) unshared_nil (by kernel_rfl) rfl
end
end Mine
theorem PySem.Challenge.cw_pq1200_01_holds : PySem.Challenge.rw_pq1200_01.Holds := by
  exact Mine.hd Mine.law_call

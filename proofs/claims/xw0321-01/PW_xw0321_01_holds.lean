import PyProof.Rows.All
import Wide.All
import OpenK.AllK
import Wide.FinOn
import PySem.Challenge.RW_xw0321_01
set_option Elab.async false
section
open PySem PySem.W PyProof.Rows
set_option maxRecDepth 100000
namespace Mine
open Builtin
namespace Ft
theorem look_bytes_bytes : typeLookup (.type "bytes") "__bytes__" = pure (some (.builtin "bytes.__bytes__")) := by rw [typeLookup_type, builtinLookup_eq_fast]; kernel_rfl
theorem look_int_bytes : typeLookup (.type "int") "__bytes__" = pure none := by rw [typeLookup_type, builtinLookup_eq_fast]; kernel_rfl
theorem look_ba_bytes : typeLookup (.type "bytearray") "__bytes__" = pure none := by rw [typeLookup_type, builtinLookup_eq_fast]; kernel_rfl
theorem look_ba_index : typeLookup (.type "bytearray") "__index__" = pure none := by rw [typeLookup_type, builtinLookup_eq_fast]; kernel_rfl
theorem look_ba_buffer : typeLookup (.type "bytearray") "__buffer__" = pure (some (.builtin "bytearray.__buffer__")) := by rw [typeLookup_type, builtinLookup_eq_fast]; kernel_rfl
theorem look_ba_release : typeLookup (.type "bytearray") "__release_buffer__" = pure (some (.builtin "bytearray.__release_buffer__")) := by rw [typeLookup_type, builtinLookup_eq_fast]; kernel_rfl
theorem sub_ba : isSubtype (.type "bytearray") (.type "bytearray") = pure true := by rw [isSubtype_type]; kernel_rfl
theorem slot_ba_len : Slot "bytearray" "__len__" "bytearray.__len__" :=
  .of (owner := "bytearray") (n := "__len__") (by rw [typeLookup_type, builtinLookup_eq_fast]; kernel_rfl) (by decide +kernel) (by decide +kernel) (by decide +kernel)
    (by first | exact .inl (by decide +kernel) | exact .inr (by decide +kernel)) (by rw [isSubtype_type]; kernel_rfl)
theorem entry_ba_len : entryFor table "bytearray.__len__" = some Builtin.«bytearray.__len__» := entryFor_of_tree (by kernel_rfl)
theorem owner_ba : Manifest.owners.lookup (String.ofList ['y', 'a', 'r', 'r', 'a', 'e', 't', 'y', 'b'].reverse) = some Manifest.sig_bytearray := by kernel_rfl
end Ft

section
variable {prog : Program} {w : World} {A : Around} {E : Value → Shared → Prop} {s : Shared}

theorem new_bytes_bytes {b : Array UInt8} {t : Tok} {Q : Value → Shared → Prop} (h : Q (.bytes b t) s) :
    codeAny (model prog w) A (.call (.builtin "bytes.__new__") ⟨[.type "bytes", .bytes b t], []⟩) (wants Q E) s := by
  refine codeAny_of_tree ?_
  show wpAny _ A.in1 (do checkBuiltinCall "bytes.__new__" ⟨[.type "bytes", .bytes b t], []⟩; again (.builtin "bytes.__new__" ⟨[.type "bytes", .bytes b t], []⟩)) _ _ s
  refine wpAny_bind (wpAny_of_eq (F.bm_newCall _) (wpAny_pure ⟨plainId_quiet F.bm_plain _, codeAny_builtin F.bm_entry ?_⟩))
  rw [Around.under_plainId F.bm_plain _]
  have hT : s.TypeIs (.bytes b t) "bytes" := typeIs_bytes s b t
  unfold Builtin.«bytes.__new__»
  refine wpAny_bind (wpAny_of_eq (a := true) rfl ?_)
  refine bm_if_false rfl ?_
  refine wpAny_bind (wpAny_of_eq F.bm_sub ?_)
  refine bm_if_false rfl ?_
  refine wpAny_bind (wpAny_of_eq (F.bm_bind _) ?_)
  refine wpAny_bind (wpAny_of_eq (a := ()) rfl ?_)
  refine wpAny_bind (wpAny_of_eq (a := ()) rfl ?_)
  refine bm_if_false rfl ?_
  refine wpAny_bind (wpAny_specialOf hT Ft.look_bytes_bytes ?_)
  show wpAny _ _ (rule "bytes.__new__.of-bytes" >>= _) _ _ _
  refine wpAny_bind (wpAny_rule ?_)
  refine wpAny_bind (wpAny_typeOf hT ?_)
  refine bm_if_true (by decide) ?_
  show wpAny _ _ (if (Value.type "bytes" == Value.type "bytes") = true then _ else _) _ _ _
  refine bm_if_true (by decide) ?_
  first
    | exact wpAny_pure h
    | exact wpAny_bind (wpAny_pure (wpAny_pure h))
theorem call_bytes_bytes {b : Array UInt8} {t : Tok} {Q : Value → Shared → Prop} (h : Q (.bytes b t) s) : wpAny (model prog w) A (call (.type "bytes") [.bytes b t]) Q E s := by
  refine callType_codes (Q₁ := fun obj s₁ => s₁.TypeIs obj "bytes" ∧ Q obj s₁) F.bm_called (F.bm_typeCall _) F.entry_object_init (new_bytes_bytes ⟨typeIs_bytes _ _ _, h⟩) fun obj s₁ h₁ => ?_
  exact ⟨h₁.1, F.args_object_init_2 obj _, object_init_meets F.bm_called.init.lookup F.bm_called.made (by decide) prog w A.in1 _ s₁ ⟨h₁.1, rfl, h₁.2⟩⟩

theorem new_bytes_int {n : Int} {t : Tok} {Q : Value → Shared → Prop} (h0 : 0 ≤ n) (h1 : n ≤ 16777216) (h : ∀ k t', Q (.bytes (Array.replicate n.toNat 0) t') { s with toks := k }) :
    codeAny (model prog w) A (.call (.builtin "bytes.__new__") ⟨[.type "bytes", .int n t], []⟩) (wants Q E) s := by
  refine codeAny_of_tree ?_
  show wpAny _ A.in1 (do checkBuiltinCall "bytes.__new__" ⟨[.type "bytes", .int n t], []⟩; again (.builtin "bytes.__new__" ⟨[.type "bytes", .int n t], []⟩)) _ _ s
  refine wpAny_bind (wpAny_of_eq (F.bm_newCall _) (wpAny_pure ⟨plainId_quiet F.bm_plain _, codeAny_builtin F.bm_entry ?_⟩))
  rw [Around.under_plainId F.bm_plain _]
  have hT : s.TypeIs (.int n t) "int" := typeIs_int s n t
  unfold Builtin.«bytes.__new__»
  refine wpAny_bind (wpAny_of_eq (a := true) rfl ?_)
  refine bm_if_false rfl ?_
  refine wpAny_bind (wpAny_of_eq F.bm_sub ?_)
  refine bm_if_false rfl ?_
  refine wpAny_bind (wpAny_of_eq (F.bm_bind _) ?_)
  refine wpAny_bind (wpAny_of_eq (a := ()) rfl ?_)
  refine wpAny_bind (wpAny_of_eq (a := ()) rfl ?_)
  refine bm_if_false rfl ?_
  refine wpAny_bind (wpAny_specialOf hT Ft.look_int_bytes ?_)
  refine wpAny_bind (wpAny_of_eq (a := false) rfl ?_)
  refine bm_if_false rfl ?_
  refine wpAny_bind (wpAny_specialOf hT F.slot_int_index.lookup ?_)
  refine bm_if_false rfl ?_
  refine wpAny_bind (wpAny_attempt (wpAny_of_eq (a := n) rfl ?_))
  refine bm_if_false (by simp only [Bytes.fitsIndex, Bool.not_eq_false', Bool.and_eq_true, decide_eq_true_eq]; omega) ?_
  refine wpAny_ite ?_
  rw [if_neg (by omega)]
  refine wpAny_ite ?_
  rw [if_neg (by omega)]
  refine bm_if_false (by unfold Bytes.tooLong; rw [sizeLine_eq]; exact decide_eq_false (by omega)) ?_
  refine wpAny_bind (wpAny_rule ?_)
  refine wpAny_bind (wpAny_mkBytes ?_ (by rw [Array.size_replicate, sizeLine_eq]; omega))
  show wpAny _ _ (if (Value.type "bytes" == Value.type "bytes") = true then _ else _) _ _ _
  refine bm_if_true (by decide) ?_
  first
    | exact wpAny_pure (h _ _)
    | exact wpAny_bind (wpAny_pure (wpAny_pure (h _ _)))
theorem call_bytes_int {n : Int} {t : Tok} {Q : Value → Shared → Prop} (h0 : 0 ≤ n) (h1 : n ≤ 16777216) (h : ∀ k t', Q (.bytes (Array.replicate n.toNat 0) t') { s with toks := k }) : wpAny (model prog w) A (call (.type "bytes") [.int n t]) Q E s := by
  refine callType_codes (Q₁ := fun obj s₁ => s₁.TypeIs obj "bytes" ∧ Q obj s₁) F.bm_called (F.bm_typeCall _) F.entry_object_init (new_bytes_int h0 h1 fun k t' => ⟨typeIs_bytes _ _ _, h k t'⟩) fun obj s₁ h₁ => ?_
  exact ⟨h₁.1, F.args_object_init_2 obj _, object_init_meets F.bm_called.init.lookup F.bm_called.made (by decide) prog w A.in1 _ s₁ ⟨h₁.1, rfl, h₁.2⟩⟩

def baObj (b : Array UInt8) : Obj := { cls := .type "bytearray", data := .bytearray b }
theorem ba_typeIs {a : Addr} {b : Array UInt8} (ho : s.heap.get? a = some (baObj b)) : s.TypeIs (.ref a) "bytearray" := ⟨_, ho, rfl⟩
theorem ba_isStr {a : Addr} {b : Array UInt8} (ho : s.heap.get? a = some (baObj b)) {Q : Option Str → Shared → Prop} (h : Q none s) : wpAny (model prog w) A (asStr? (.ref a)) Q E s := by
  show wpAny _ _ (load a >>= _) _ _ _
  refine wpAny_bind (wpAny_load ho ?_)
  exact wpAny_pure h
theorem ba_own {a : Addr} {b : Array UInt8} {name : String} {id : String} (ho : s.heap.get? a = some (baObj b)) (hl : typeLookup (.type "bytearray") name = pure (some (.builtin id))) (he : id.endsWith ("." ++ name) = true)
    (hn : id.dropRight (name.length + 1) = "bytearray") {Q : Bool → Shared → Prop} (h : Q true s) : wpAny (model prog w) A (Bytes.slotIsOwn (.ref a) name) Q E s := by
  unfold Bytes.slotIsOwn
  refine wpAny_bind (wpAny_specialOf (ba_typeIs ho) hl ?_)
  dsimp only
  rw [he, hn]
  refine bm_if_false rfl ?_
  exact wpAny_isInstance (ba_typeIs ho) Ft.sub_ba h
theorem ba_release {a : Addr} {b : Array UInt8} (ho : s.heap.get? a = some (baObj b)) {Q : Bool → Shared → Prop} (h : Q false s) : wpAny (model prog w) A (Bytes.ownRelease (.ref a)) Q E s := by
  unfold Bytes.ownRelease
  exact wpAny_bind (ba_own ho Ft.look_ba_release (by decide +kernel) (by decide +kernel) (wpAny_pure h))
theorem ba_payload {a : Addr} {b : Array UInt8} (ho : s.heap.get? a = some (baObj b)) {Q : Array UInt8 → Shared → Prop} (h : Q b s) : wpAny (model prog w) A (Bytes.payload (.ref a)) Q E s := by
  unfold Bytes.payload Bytes.payload?
  exact wpAny_bind (wpAny_bind (wpAny_load ho (wpAny_pure (wpAny_pure h))))
theorem ba_buffer {a : Addr} {b : Array UInt8} {id : String} {full : Bool} (ho : s.heap.get? a = some (baObj b)) {Q : Option (Array UInt8) → Shared → Prop} (h : Q (some b) s) : wpAny (model prog w) A (Bytes.buffer? id (.ref a) full) Q E s := by
  unfold Bytes.buffer?
  refine wpAny_bind (wpAny_specialOf (ba_typeIs ho) Ft.look_ba_buffer ?_)
  refine wpAny_bind (ba_own ho Ft.look_ba_buffer (by decide +kernel) (by decide +kernel) ?_)
  refine bm_if_false rfl ?_
  refine wpAny_bind (wpAny_specialOf (ba_typeIs ho) Ft.look_ba_buffer ?_)
  refine wpAny_bind (ba_release ho ?_)
  refine bm_if_false rfl ?_
  exact wpAny_bind (ba_payload ho (wpAny_pure h))
theorem new_bytes_ba {a : Addr} {b : Array UInt8} {Q : Value → Shared → Prop} (ho : s.heap.get? a = some (baObj b)) (hz : b.size ≤ 16777216) (h : ∀ k t', Q (.bytes b t') { s with toks := k }) :
    codeAny (model prog w) A (.call (.builtin "bytes.__new__") ⟨[.type "bytes", .ref a], []⟩) (wants Q E) s := by
  refine codeAny_of_tree ?_
  show wpAny _ A.in1 (do checkBuiltinCall "bytes.__new__" ⟨[.type "bytes", .ref a], []⟩; again (.builtin "bytes.__new__" ⟨[.type "bytes", .ref a], []⟩)) _ _ s
  refine wpAny_bind (wpAny_of_eq (F.bm_newCall _) (wpAny_pure ⟨plainId_quiet F.bm_plain _, codeAny_builtin F.bm_entry ?_⟩))
  rw [Around.under_plainId F.bm_plain _]
  have hT : s.TypeIs (.ref a) "bytearray" := ba_typeIs ho
  unfold Builtin.«bytes.__new__»
  refine wpAny_bind (wpAny_of_eq (a := true) rfl ?_)
  refine bm_if_false rfl ?_
  refine wpAny_bind (wpAny_of_eq F.bm_sub ?_)
  refine bm_if_false rfl ?_
  refine wpAny_bind (wpAny_of_eq (F.bm_bind _) ?_)
  refine wpAny_bind (wpAny_of_eq (a := ()) rfl ?_)
  refine wpAny_bind (wpAny_of_eq (a := ()) rfl ?_)
  refine bm_if_false rfl ?_
  refine wpAny_bind (wpAny_specialOf hT Ft.look_ba_bytes ?_)
  refine wpAny_bind (wpAny_bind (ba_isStr ho (wpAny_pure ?_)))
  refine bm_if_false rfl ?_
  refine wpAny_bind (wpAny_specialOf hT Ft.look_ba_index ?_)
  refine bm_if_true rfl ?_
  first
    | show wpAny _ _ (Builtin.Bytes.buffer? "bytes.__new__" (.ref a) true >>= _) _ _ _
    | (refine wpAny_bind ?_; show wpAny _ _ (Builtin.Bytes.buffer? "bytes.__new__" (.ref a) true >>= _) _ _ _)
  refine wpAny_bind (ba_buffer ho ?_)
  refine wpAny_bind (wpAny_rule ?_)
  refine wpAny_bind (wpAny_mkBytes ?_ (by rw [sizeLine_eq]; omega))
  show wpAny _ _ (if (Value.type "bytes" == Value.type "bytes") = true then _ else _) _ _ _
  refine bm_if_true (by decide) ?_
  first
    | exact wpAny_pure (h _ _)
    | exact wpAny_bind (wpAny_pure (wpAny_pure (h _ _)))
theorem call_bytes_ba {a : Addr} {b : Array UInt8} {Q : Value → Shared → Prop} (ho : s.heap.get? a = some (baObj b)) (hz : b.size ≤ 16777216) (h : ∀ k t', Q (.bytes b t') { s with toks := k }) : wpAny (model prog w) A (call (.type "bytes") [.ref a]) Q E s := by
  refine callType_codes (Q₁ := fun obj s₁ => s₁.TypeIs obj "bytes" ∧ Q obj s₁) F.bm_called (F.bm_typeCall _) F.entry_object_init (new_bytes_ba ho hz fun k t' => ⟨typeIs_bytes _ _ _, h k t'⟩) fun obj s₁ h₁ => ?_
  exact ⟨h₁.1, F.args_object_init_2 obj _, object_init_meets F.bm_called.init.lookup F.bm_called.made (by decide) prog w A.in1 _ s₁ ⟨h₁.1, rfl, h₁.2⟩⟩
theorem args_ba_len (a : Value) : argsOk "bytearray.__len__" ⟨[a], []⟩ := by
  unfold argsOk; rw [signature?_of (id := "bytearray.__len__") (n := ['_', '_', 'n', 'e', 'l', '_', '_']) (o := ['y', 'a', 'r', 'r', 'a', 'e', 't', 'y', 'b']) (by kernel_rfl) Ft.owner_ba]; kernel_rfl
theorem meets_ba_len {a : Addr} {b : Array UInt8} : Meets (Builtin.«bytearray.__len__» ⟨[.ref a], []⟩) (fun _ R s => s.heap.get? a = some (baObj b) ∧ R (.ok (.ret (.int b.size s.toks))) { s with toks := s.toks + 1 }) := by
  refine Meets.of_wp fun prog w A R s hs => ?_
  obtain ⟨ho, h⟩ := hs
  show wpAny _ _ (Bytes.payload (.ref a) >>= fun r => _) _ _ s
  refine wpAny_bind (ba_payload ho ?_)
  exact wpAny_bind (wpAny_mkInt (wpAny_pure ⟨_, rfl, h⟩))
theorem len_ba {a : Addr} {b : Array UInt8} {Q : Value → Shared → Prop} (ho : s.heap.get? a = some (baObj b)) (hz : b.size ≤ 16777216) (h : Q (.int b.size (s.toks + 1)) { s with toks := s.toks + 1 + 1 }) :
    wpAny (model prog w) A (call (.builtin "len") [.ref a]) Q E s :=
  call_len_meets (ba_typeIs ho) Ft.slot_ba_len Ft.entry_ba_len (args_ba_len _) (meets_ba_len (b := b)) (by omega) (by omega) (fun _ q => ⟨ho, q⟩) h
end
end Mine
end
section
open PySem PySem.W PyProof.Rows
set_option maxRecDepth 100000
namespace Mine
open Builtin

def heldIds : List String := ["bytearray.__contains__", "bytearray.__mod__", "bytearray.__rmod__", "_struct.pack_into.held", "bytearray.find.held"] ++ Bytes.decodersThatHold
/-- a code that holds no bytearray's memory -/
def freeCode : Code → Bool
  | .builtin nm _ => !heldIds.contains nm
  | _ => true
def FreeB (Γ : Ctx) : Prop := ∀ q ∈ Γ.below, freeCode q.1 = true
def FreeC (Γ : Ctx) : Prop := freeCode Γ.code = true ∧ FreeB Γ

/-- like wpAny, but in those contexts alone where nothing holds a bytearray's memory -/
def wpC {α : Type} (M : Model) (A : Around) (t : Sem α) (Q : α → Shared → Prop) (E : Value → Shared → Prop) (s : Shared) : Prop :=
  ∀ Γ p, Γ.In A → FreeC Γ → Sem.wp M Γ t (fun a _ s' => Q a s') (fun e _ s' => E e s') p s
def codeC (M : Model) (A : Around) (c : Code) (R : Result → Shared → Prop) (s : Shared) : Prop :=
  ∀ Γ p, Γ.code = c → Γ.Below A → FreeB Γ → wpCode M Γ R p s

section
variable {α β : Type} {M : Model} {A : Around} {E : Value → Shared → Prop} {s : Shared}

theorem wpC_of {t : Sem α} {Q : α → Shared → Prop} (h : wpAny M A t Q E s) : wpC M A t Q E s := fun Γ p hΓ _ => h Γ p hΓ
theorem codeC_of {c : Code} {R : Result → Shared → Prop} (h : codeAny M A c R s) : codeC M A c R s := fun Γ p hc hΓ _ => h Γ p hc hΓ
theorem wpC_pure {a : α} {Q : α → Shared → Prop} (h : Q a s) : wpC M A (pure a) Q E s := fun _ _ _ _ => h
theorem wpC_mono {t : Sem α} {Q Q' : α → Shared → Prop} {E' : Value → Shared → Prop} (h : wpC M A t Q E s) (hQ : ∀ a s, Q a s → Q' a s) (hE : ∀ e s, E e s → E' e s) : wpC M A t Q' E' s :=
  fun Γ p hΓ hF => Sem.wp_mono M Γ t (fun a _ s => hQ a s) (fun e _ s => hE e s) p s (h Γ p hΓ hF)
theorem wpC_bind {m : Sem α} {f : α → Sem β} {Q : β → Shared → Prop} (h : wpC M A m (fun a s' => wpC M A (f a) Q E s') E s) : wpC M A (m >>= f) Q E s := fun Γ p hΓ hF => by
  rw [Sem.wp_bind']
  exact Sem.wp_mono M Γ m (fun a p' s' h' => h' Γ p' hΓ hF) (fun _ _ _ h' => h') p s (h Γ p hΓ hF)
theorem wpC_keep {vs : List Value} {m : Sem α} {Q : α → Shared → Prop} (h : wpC M A m Q E s) : wpC M A (m.keep vs) Q E s := fun Γ p hΓ hF => by rw [Sem.wp_keep]; exact h Γ p hΓ hF
theorem wpC_holding {vs : List Value} {m : Sem α} {Q : α → Shared → Prop} (h : wpC M A m Q E s) : wpC M A (holding vs m) Q E s := fun Γ p hΓ hF => by rw [Sem.wp_holding]; exact h Γ p hΓ hF
theorem wpC_onRaise {m : Sem α} {k : Value → Sem Unit} {Q : α → Shared → Prop} (h : wpC M A m Q (fun e s' => wpC M A (k e) (fun _ s'' => E e s'') E s') s) : wpC M A (m.onRaise k) Q E s := fun Γ p hΓ hF => by
  rw [Sem.wp_onRaise]
  exact Sem.wp_mono M Γ m (fun _ _ _ h' => h') (fun e p' s' h' => h' Γ p' hΓ hF) p s (h Γ p hΓ hF)
theorem wpC_eq {t : Sem α} {a : α} {Q : α → Shared → Prop} (e : t = pure a) (h : Q a s) : wpC M A t Q E s := by subst e; exact wpC_pure h
theorem wpC_no {c : Bool} {a b : Sem α} {Q : α → Shared → Prop} (hc : c = false) (h : wpC M A b Q E s) : wpC M A (if c = true then a else b) Q E s := by
  subst hc
  exact h
theorem wpC_yes {c : Bool} {a b : Sem α} {Q : α → Shared → Prop} (hc : c = true) (h : wpC M A a Q E s) : wpC M A (if c = true then a else b) Q E s := by
  subst hc
  exact h
theorem wpC_at {pos : Pos} {Q : Unit → Shared → Prop} (h : Q () s) : wpC M A (standAt pos) Q E s := wpC_of (wpAny_standAt h)

theorem free_enter {Γ : Ctx} (hF : FreeC Γ) (c : Code) (h : Option Value) (p : Pos) : FreeB (Γ.enter c h p) := fun q hq => by
  rcases List.mem_cons.mp hq with rfl | hq
  · exact hF.1
  · exact hF.2 q hq
theorem wpC_run {c : Code} {h : Option Value} {Q : Flow → Shared → Prop}
    (hc : codeC M (A.mark h) c (fun r s' => match r with | .ok f => Q f s' | .error e => E e s') s) (hnb : h ≠ some byPass := by intro x; cases x) : wpC M A (run c h) Q E s :=
  fun Γ p hΓ hF => by rw [Sem.wp_run]; exact hc _ p rfl (hΓ.enter c h p hnb) (free_enter hF _ _ _)
theorem wpC_runValue {c : Code} {Q : Value → Shared → Prop}
    (hc : codeC M A c (fun r s' => match r with | .ok (.ret v) => Q v s' | .ok _ => False | .error e => E e s') s) : wpC M A (runValue c) Q E s :=
  fun Γ p hΓ hF => by rw [Sem.wp_runValue]; exact hc _ p rfl (hΓ.enter c none p (by intro x; cases x)) (free_enter hF _ _ _)
theorem wpC_call {f : Value} {pos : List Value} {kw : List (Str × Value)} {Q : Value → Shared → Prop}
    (hc : codeC M A (.call f ⟨pos, kw⟩) (fun r s' => match r with | .ok (.ret v) => Q v s' | .ok _ => False | .error e => E e s') s) : wpC M A (call f pos kw) Q E s := wpC_runValue hc
theorem codeC_mono {c : Code} {R R' : Result → Shared → Prop} (h : codeC M A c R s) (hR : ∀ r s, R r s → R' r s) : codeC M A c R' s := fun Γ p hc hΓ hF => wpCode_mono hR (h Γ p hc hΓ hF)
theorem codeC_tree {c : Code} {R : Result → Shared → Prop} (hf : freeCode c = true)
    (h : wpC M (A.under c) (M.den c) (fun fin s' => match fin with | .done f => R (.ok f) s' | .again c' => c'.quiet = true ∧ codeC M A c' R s') (fun e s' => R (.error e) s') s) : codeC M A c R s := fun Γ p hc hΓ hF => by
  rw [wpCode_iff_wp, hc]
  refine Sem.wp_mono M Γ _ (fun fin p' s' h' => ?_) (fun _ _ _ h' => h') p s (h Γ p (hc ▸ hΓ.in) ⟨by rw [hc]; exact hf, hF⟩)
  cases fin with
  | done f => exact h'
  | again c' => exact ⟨h'.1, h'.2 (Γ.goto c') p' rfl (hΓ.goto c') hF⟩
end

section
variable {prog : Program} {w : World} {A : Around} {E : Value → Shared → Prop} {s : Shared} {R : Result → Shared → Prop}
theorem codeC_builtin {id : String} {args : Args} {b : Builtin} (hb : entryFor table id = some b) (hf : heldIds.contains id = false)
    (h : wpC (model prog w) (A.under (.builtin id args)) (b args) (fun fin s' => match fin with | .done f => R (.ok f) s' | .again c' => c'.quiet = true ∧ codeC (model prog w) A c' R s') (fun e s' => R (.error e) s') s) :
    codeC (model prog w) A (.builtin id args) R s := by
  refine codeC_tree (by show (!heldIds.contains id) = true; rw [hf]; rfl) ?_
  show wpC _ _ (match entryFor table id with | some b => b args | none => unsupported ((withoutEnding? id "#data").getD id)) _ _ s
  rw [hb]; exact h

/-- nothing on a free stack holds the bytearray -/
theorem wpC_exported {v : Value} {Q : Bool → Shared → Prop} (h : Q false s) : wpC (model prog w) A (Bytes.exported v) Q E s := fun Γ p _ hF => by
  unfold Bytes.exported
  have e : ∀ f : Code × Pos → Bool, (∀ q, freeCode q.1 = true → f q = false) → ((Γ.code, p) :: Γ.below).any f = false := fun f hf => by
    rw [List.any_eq_false]
    intro q hq
    rw [hf q (by
      rcases List.mem_cons.mp hq with rfl | hq
      · exact hF.1
      · exact hF.2 q hq)]
    exact Bool.false_ne_true
  show Q (((Γ.code, p) :: Γ.below).any _) s
  rw [e]
  · exact h
  · rintro ⟨c, q⟩ hc
    have hc' : freeCode c = true := hc
    have no : ∀ nm : String, heldIds.contains nm = true → freeCode (.builtin nm ⟨[], []⟩) = true → False := fun nm h1 h2 => by
      have h3 : (!heldIds.contains nm) = true := h2
      rw [h1] at h3
      cases h3
    have go : ∀ (nm : String) (args : Args), c = .builtin nm args → heldIds.contains nm = true → False := fun nm args hcn h1 => by
      subst hcn
      exact no nm h1 hc'
    split
    · rename_i heq
      exact (go _ _ (congrArg Prod.fst heq) (by decide +kernel)).elim
    · rename_i heq
      exact (go _ _ (congrArg Prod.fst heq) (by decide +kernel)).elim
    · rename_i heq
      exact (go _ _ (congrArg Prod.fst heq) (by decide +kernel)).elim
    · rename_i heq
      exact (go _ _ (congrArg Prod.fst heq) (by decide +kernel)).elim
    · rename_i heq
      exact (go _ _ (congrArg Prod.fst heq) (by decide +kernel)).elim
    · rename_i nm v' _ _ _ _ _ _ _ _ heq
      have hn : Bytes.decodersThatHold.contains nm = false := by
        cases hd : Bytes.decodersThatHold.contains nm with
        | false => rfl
        | true =>
          refine (go _ _ (congrArg Prod.fst heq) ?_).elim
          unfold heldIds
          rw [List.contains_eq_mem, decide_eq_true_eq] at hd ⊢
          exact List.mem_append_right _ hd
      rw [hn, Bool.and_false]
    · rfl
end

namespace Ft
theorem ba_mro : mroOf (.type "bytearray") = pure [.type "bytearray", .type "object"] := by rw [mroOf_type]; kernel_rfl
theorem ba_lookup_new : typeLookup (.type "bytearray") "__new__" = pure (some (.builtin "bytearray.__new__")) := by rw [typeLookup_type, builtinLookup_eq_fast]; kernel_rfl
theorem look_bytes_index : typeLookup (.type "bytes") "__index__" = pure none := by rw [typeLookup_type, builtinLookup_eq_fast]; kernel_rfl
theorem ba_made : Bind.madeBy (.type "bytearray") = pure (some "bytearray.__new__") := madeBy_type ba_mro ba_lookup_new (by decide +kernel)
theorem ba_slot_init : Slot "bytearray" "__init__" "bytearray.__init__" :=
  .of (owner := "bytearray") (n := "__init__") (by rw [typeLookup_type, builtinLookup_eq_fast]; kernel_rfl) (by decide +kernel) (by decide +kernel) (by decide +kernel)
    (by first | exact .inl (by decide +kernel) | exact .inr (by decide +kernel)) (by rw [isSubtype_type]; kernel_rfl)
theorem ba_typeCall (a : Value) : checkTypeCall "bytearray" ⟨[a], []⟩ = pure () := by kernel_rfl
theorem ba_newCall (a : Value) : checkBuiltinCall "bytearray.__new__" ⟨[.type "bytearray", a], []⟩ = pure () := by kernel_rfl
theorem ba_plain_new : plainId "bytearray.__new__" = true := by decide +kernel
theorem ba_plain_init : plainId "bytearray.__init__" = true := by decide +kernel
theorem ba_entry_new : entryFor table "bytearray.__new__" = some Builtin.«list.__new__» := entryFor_alias (id' := "list.__new__") (by kernel_rfl) (by kernel_rfl) (by kernel_rfl) (by kernel_rfl)
theorem ba_entry_init : entryFor table "bytearray.__init__" = some Builtin.«bytearray.__init__» := by first | exact entryFor_of_fast (by kernel_rfl) | exact entryFor_of_tree (by kernel_rfl)
theorem ba_bind (v : Value) : Builtin.Bytes.bindOptional "bytearray.__init__" "bytearray" ["source", "encoding", "errors"] [v] [] = pure [some v, none, none] := by kernel_rfl
theorem ba_args_init (a b : Value) : argsOk "bytearray.__init__" ⟨[a, b], []⟩ := by
  unfold argsOk; rw [signature?_of (id := "bytearray.__init__") (n := ['_', '_', 't', 'i', 'n', 'i', '_', '_']) (o := ['y', 'a', 'r', 'r', 'a', 'e', 't', 'y', 'b']) (by kernel_rfl) owner_ba]; kernel_rfl
end Ft
set_option maxRecDepth 1000000 in
set_option maxHeartbeats 4000000 in
theorem ba_owner_new : ("bytearray.__new__".splitOn ".__new__").headD "" = "bytearray" := by simp +decide [String.splitOn, String.splitOnAux]

section
variable {prog : Program} {w : World} {A : Around} {E : Value → Shared → Prop} {s : Shared} {R : Result → Shared → Prop}
theorem new_ba (a : Value) {Q₁ : Value → Shared → Prop}
    (h : Q₁ (.ref s.heap.objs.size) { s with heap := s.heap.push (baObj #[]) }) :
    codeAny (model prog w) A (.call (.builtin "bytearray.__new__") ⟨[.type "bytearray", a], []⟩) (wants Q₁ E) s := by
  refine codeAny_of_tree ?_
  show wpAny _ A.in1 (do checkBuiltinCall "bytearray.__new__" ⟨[.type "bytearray", a], []⟩; again (.builtin "bytearray.__new__" ⟨[.type "bytearray", a], []⟩)) _ _ s
  refine wpAny_bind (wpAny_of_eq (Ft.ba_newCall a) (wpAny_pure ⟨plainId_quiet Ft.ba_plain_new _, codeAny_builtin_stack Ft.ba_entry_new rfl fun p st => ?_⟩))
  rw [Around.under_plainId Ft.ba_plain_new _]
  have hsub := Ft.sub_ba
  have hown := ba_owner_new
  obtain ⟨hp, g, d, tk, os⟩ := s
  simp only [hown]
  wp_walk
  exact h
theorem bytes_buffer {id : String} {b : Array UInt8} {t : Tok} : Bytes.buffer? id (.bytes b t) true = pure (some b) := by
  unfold Bytes.buffer?
  rw [KBy.special_eq KBy.look_buffer, KBy.own_buffer, KBy.own_release]
  kernel_rfl
theorem ba_write {a : Addr} {c : Array UInt8} {f : Array UInt8 → Array UInt8} {Q : Unit → Shared → Prop} (ho : s.heap.get? a = some (baObj c)) (hz : (f c).size ≤ 16777216)
    (h : ∀ h', (∀ x, x ≠ a → h'.get? x = s.heap.get? x) → h'.get? a = some (baObj (f c)) → Q () { s with heap := h' }) : wpAny (model prog w) A (Bytes.write (.ref a) f) Q E s := by
  show wpAny _ _ (updateBytearray a f) _ _ _
  unfold updateBytearray
  have ho₂ : (s.heap.update a (Obj.mapBytearray f)).get? a = some (baObj (f c)) := Heap.get?_update_self _ ho rfl
  refine wpAny_bind (wpAny_load ho ?_)
  show wpAny _ _ (update a (Obj.mapBytearray f) >>= fun _ => lookBehind a) _ _ _
  refine wpAny_bind (wpAny_update ho ?_)
  refine wpAny_lookBehind ho₂ ?_ (h _ (fun x hx => Heap.get?_update_other _ _ (Ne.symm hx)) ho₂)
  show (if (f c).size > sizeLine then some "bytearray:memory" else none) = none
  rw [if_neg]
  rw [sizeLine_eq]
  omega
theorem init_ba {a : Addr} {b : Array UInt8} {t : Tok} {Q : Value → Shared → Prop} (hz : b.size ≤ 16777216) (ho : s.heap.get? a = some (baObj #[]))
    (h : ∀ h', (∀ x, x ≠ a → h'.get? x = s.heap.get? x) → h'.get? a = some (baObj b) → Q .none { s with heap := h' }) :
    wpC (model prog w) A (call (.builtin "bytearray.__init__") [.ref a, .bytes b t]) Q E s := by
  have hT := ba_typeIs ho
  refine wpC_call (codeC_tree rfl ?_)
  show wpC _ A.in1 (do checkBuiltinCall "bytearray.__init__" ⟨[.ref a, .bytes b t], []⟩; again (.builtin "bytearray.__init__" ⟨[.ref a, .bytes b t], []⟩)) _ _ s
  refine wpC_bind (wpC_of (Ft.ba_slot_init.check _ _ _ _ _ _ _ _ hT (Ft.ba_args_init _ _) ?_))
  refine wpC_pure ⟨plainId_quiet Ft.ba_plain_init _, codeC_builtin Ft.ba_entry_init (by decide +kernel) ?_⟩
  rw [Around.under_plainId Ft.ba_plain_init _]
  unfold Builtin.«bytearray.__init__»
  refine wpC_bind (wpC_of (ba_release ho ?_))
  refine wpC_no rfl ?_
  refine wpC_bind (wpC_eq (Ft.ba_bind _) ?_)
  refine wpC_bind (wpC_eq (a := ()) rfl ?_)
  refine wpC_bind (wpC_eq (a := ()) rfl ?_)
  refine wpC_bind ?_
  refine wpC_bind (wpC_exported ?_)
  show wpC _ _ (Bytes.exportsOf (.ref a) >>= fun r => _) _ _ _
  refine wpC_bind (wpC_bind (wpC_of (wpAny_load ho ?_)))
  refine wpC_pure ?_
  refine wpC_pure ?_
  refine wpC_no rfl ?_
  refine wpC_bind (wpC_of (ba_write ho (Nat.zero_le _) fun h₂ k₂ o₂ => ?_))
  refine wpC_bind (wpC_eq (a := none) rfl ?_)
  refine wpC_no rfl ?_
  refine wpC_bind (wpC_eq (a := ()) rfl ?_)
  refine wpC_bind (wpC_of (wpAny_specialOf (typeIs_bytes _ b t) (T := "bytes") Ft.look_bytes_index ?_))
  refine wpC_no rfl ?_
  refine wpC_bind (wpC_eq bytes_buffer ?_)
  refine wpC_bind (wpC_of (wpAny_rule ?_))
  refine wpC_bind (wpC_of (ba_write o₂ hz fun h₃ k₃ o₃ => ?_))
  exact wpC_pure (h h₃ (fun x hx => (k₃ x hx).trans (k₂ x hx)) o₃)
/-- the whole call: the one look at the stack is in __init__ -/
theorem callC_bytearray {b : Array UInt8} {t : Tok} {Q : Value → Shared → Prop} (hz : b.size ≤ 16777216)
    (h : ∀ h', (∀ x o, s.heap.get? x = some o → h'.get? x = some o) → h'.get? s.heap.objs.size = some (baObj b) → Q (.ref s.heap.objs.size) { s with heap := h' }) : wpC (model prog w) A (call (.type "bytearray") [.bytes b t]) Q E s := by
  refine wpC_call (codeC_tree rfl ?_)
  show wpC _ _ (again (.builtin "type.__call__" ⟨.type "bytearray" :: [.bytes b t], []⟩)) _ _ _
  refine wpC_pure ⟨Code.quiet_builtin _ (by decide +kernel), codeC_builtin F.entry_type_call (by decide +kernel) ?_⟩
  rw [Around.under_plain (weight_type_call_type "bytearray" [.bytes b t] []) rfl]
  unfold Builtin.«type.__call__»
  refine wpC_no (by decide) ?_
  refine wpC_no (by decide +kernel) ?_
  refine wpC_bind (wpC_eq (Ft.ba_typeCall _) ?_)
  refine wpC_bind (wpC_eq Ft.ba_mro ?_)
  refine wpC_no rfl ?_
  refine wpC_bind (wpC_eq Ft.ba_made ?_)
  refine wpC_bind (wpC_pure ?_)
  refine wpC_bind (wpC_holding (wpC_of (wpAny_call (new_ba _ ?_))))
  have ho : (s.heap.push (baObj #[])).get? s.heap.objs.size = some (baObj #[]) := Heap.get?_push_size _ rfl
  have hT := ba_typeIs (s := { s with heap := s.heap.push (baObj #[]) }) ho
  refine wpC_bind (wpC_of (wpAny_isInstance hT Ft.sub_ba ?_))
  refine wpC_no rfl ?_
  refine wpC_bind (wpC_holding ?_)
  unfold callSpecial?
  refine wpC_bind (wpC_of (wpAny_specialOf hT Ft.ba_slot_init.lookup ?_))
  refine wpC_holding (wpC_bind (wpC_eq (Ft.ba_slot_init.bind _) ?_))
  refine wpC_bind (wpC_mono (init_ba (b := b) (t := t) (Q := fun v s' => v = .none ∧ Q (.ref s.heap.objs.size) s') hz ho fun h' k' o' => ⟨rfl, ?_⟩) (fun v s' hv => ?_) fun _ _ e => e)
  · exact h h' (fun x o e => (k' x (Nat.ne_of_lt (Heap.lt_size e))).trans (Heap.get?_push_of_some _ e)) o'
  · obtain ⟨rfl, hq⟩ := hv
    refine wpC_pure ?_
    refine wpC_no (by decide) ?_
    exact wpC_pure hq
end
end Mine
end
section
open PySem PySem.W PyProof.Rows
set_option maxRecDepth 100000
namespace Mine
open Builtin Builtin.ObjectAttr

namespace Ft
theorem pass_exc (self : Value) : refuseLoop self "__setattr__" [.type "Exception", .type "BaseException", .type "object"] = pure () := by kernel_rfl
end Ft

section
variable {prog : Program} {w : World} {A : Around} {E : Value → Shared → Prop} {R : Result → Shared → Prop} {h : Heap} {g : Array GenState} {d : Drawn} {t : Nat} {os : OsState}
variable {nm q : Str} {C N x : Addr} {bs bm bmB : List Value} {sn : List Str} {sub : List Value} {ab : Bool} {col : Option Bool} {dd : Option Addr} {k0 k1 k2 k3 k5 : Option Value} {B newId initId : String} {name : Str} {v : Value}

theorem exc_check_new {M : Model} (F : ExcBaseFacts B newId initId bmB) (hB : bm.contains (.type B) = true) {rest : List Value} {Q : Unit → Shared → Prop} (hC : h.get? C = some (excClassObj nm q C N bs bm true sn sub ab col dd k0 k1 k2 k3 k5 newId))
    (hq : Q () ⟨h, g, d, t, os⟩) : wpAny M A (checkBuiltinCall newId ⟨.ref C :: rest, []⟩) Q E ⟨h, g, d, t, os⟩ := by
  have hcont : (Value.ref C :: bm).contains (.type B) = true := by rw [List.contains_cons, hB, Bool.or_true]
  have hstar := F.noStar
  simp only [checkBuiltinCall, F.newKind, F.newSplit, F.newRow]
  repeat (first | refine wpAny_loadPart_at hC ?_ | (refine wpAny_isSubtype_exc hC ?_; rw [hcont]) | refine wpAny_staticBase_exc hC ?_ | refine wpAny_madeBy_exc hC ?_ | simp only [bne_self_eq_false, Bool.false_eq_true, if_false] | wp_step)
  exact hq

theorem exc_new (F : ExcBaseFacts B newId initId bmB) (hB : bm.contains (.type B) = true) (hA : bm.contains (.type "AttributeError") = false) (hN : bm.contains (.type "NameError") = false) {rest : List Value}
    (hC : h.get? C = some (excClassObj nm q C N bs bm true sn sub ab col dd k0 k1 k2 k3 k5 newId))
    (hq : R (.ok (.ret (.ref (h.objs.size + 1)))) ⟨(h.push { cls := .type "tuple", data := .seq rest.toArray }).push
      { cls := .ref C, data := .fields #[.ref h.objs.size, .none, .none, .none, .bool false, .none] }, g, d, t, os⟩) (hrest : rest.length ≤ sizeLine) :
    codeAny (model prog w) A (.builtin newId ⟨.ref C :: rest, []⟩) R ⟨h, g, d, t, os⟩ := by
  have hends := F.ends
  have hcB : (Value.ref C :: bm).contains (.type B) = true := by rw [List.contains_cons, hB, Bool.or_true]
  have hcA : (Value.ref C :: bm).contains (.type "AttributeError") = false := by rw [List.contains_cons, hA]; rfl
  have hcN : (Value.ref C :: bm).contains (.type "NameError") = false := by rw [List.contains_cons, hN]; rfl
  refine codeAny_builtinAt F.entry ?_
  unfold Builtin.«BaseException.__new__»
  refine PySem.wpAt_bind ?_
  show PySem.wpAt _ _ _ (stack >>= _) _ _ _
  refine PySem.wpAt_bind (PySem.wpAt_stack fun p below => PySem.wpAt_of_wpAny ?_)
  wp_walk
  refine PySem.wpAt_of_wpAny ?_
  rw [F.owner]
  repeat (first | with_reducible refine wpAny_madeHere_exc F.canon hC ?_ | with_reducible refine wpAny_loadPart_at hC ?_ | (with_reducible refine wpAny_isSubtype_exc hC ?_; first | rw [hcB] | rw [hcA] | rw [hcN]) | wp_step)
  show R _ _
  rw [Heap.size_push]
  exact hq

/-- an own exception class whose __init__ is a def, its own or a base's -/
theorem exc_type_call (F : ExcBaseFacts B newId initId bmB) (hB : bm.contains (.type B) = true) (hA : bm.contains (.type "AttributeError") = false) (hN : bm.contains (.type "NameError") = false) {rest : List Value} {fI : Addr} {oI : Obj} {Q : Fin → Shared → Prop}
    (hC : h.get? C = some (excClassObj nm q C N bs bm true sn sub ab col dd k0 k1 k2 k3 k5 newId)) (hi : Looks (model prog w) h (typeLookup (.ref C) "__init__") (some (.ref fI)))
    (hfI : h.get? fI = some oI) (hfc : oI.cls = .type "function")
    (hq : ∀ h' e, Heap.MadeExcOf h h' e (.ref C) rest →
      wpAny (model prog w) A (call (.ref fI) (.ref e :: rest)) (fun r s' => r = .none ∧ Q (.done (.ret (.ref e))) s') E ⟨h', g, d, t, os⟩) (hrest : rest.length ≤ sizeLine) :
    wpAny (model prog w) A (Builtin.«type.__call__» ⟨.ref C :: rest, []⟩) Q E ⟨h, g, d, t, os⟩ := by
  repeat (first | with_reducible refine wpAny_loadPart_at hC ?_ | with_reducible refine wpAny_madeBy_exc hC ?_ | wp_step)
  refine codeAny_call_builtin_code (Code.quiet_builtin _ F.quiet) (exc_check_new F hB hC ?_)
  refine exc_new F hB hA hN hC ?_ hrest
  show wpAny _ _ _ _ _ _
  have kp : ∀ b o, h.get? b = some o → ((h.push { cls := .type "tuple", data := .seq rest.toArray }).push { cls := .ref C, data := .fields #[.ref h.objs.size, .none, .none, .none, .bool false, .none] }).get? b = some o :=
    fun b o e => Heap.get?_push_of_some _ (Heap.get?_push_of_some _ e)
  have hC₁ := kp _ _ hC
  have hfI₁ := kp _ _ hfI
  have hget : ((h.push { cls := .type "tuple", data := .seq rest.toArray }).push
      { cls := .ref C, data := .fields #[.ref h.objs.size, .none, .none, .none, .bool false, .none] }).get? (h.objs.size + 1) = some
      { cls := .ref C, data := .fields #[.ref h.objs.size, .none, .none, .none, .bool false, .none] } := by heap_get
  have hcC : (Value.ref C :: bm).contains (.ref C) = true := by simp
  unfold isInstance
  repeat (first | with_reducible refine wpAny_loadPart_at hget ?_ | (with_reducible refine wpAny_isSubtype_exc hC₁ ?_; rw [hcC]) | wp_step)
  show wpAny _ _ (typeLookup (.ref C) _) _ _ _
  refine hi _ _ _ _ kp ?_
  refine wpAny_holding (wpAny_bind ?_)
  unfold bindSpecial
  refine wpAny_bind (wpAny_typeOf (T := "function") ⟨_, hfI₁, hfc⟩ ?_)
  rw [if_pos (by decide)]
  refine wpAny_pure (wpAny_bind (wpAny_mono (hq _ (h.objs.size + 1) ⟨kp, Heap.get?_none_of_le (Nat.le_succ _), h.objs.size, hget, Heap.get?_none_of_le (Nat.le_refl _), ?_⟩) (fun r s' hr => ?_) fun _ _ x => x))
  · exact Heap.get?_push_of_some _ (Heap.get?_push_at rfl rfl)
  · obtain ⟨rfl, hQ⟩ := hr
    wp_walk
    exact hQ

theorem exc_call (F : ExcBaseFacts B newId initId bmB) (hB : bm.contains (.type B) = true) (hA : bm.contains (.type "AttributeError") = false) (hN : bm.contains (.type "NameError") = false) {rest : List Value} {fI : Addr} {oI : Obj} {Q : Value → Shared → Prop}
    (hC : h.get? C = some (excClassObj nm q C N bs bm true sn sub ab col dd k0 k1 k2 k3 k5 newId)) (hi : Looks (model prog w) h (typeLookup (.ref C) "__init__") (some (.ref fI)))
    (hfI : h.get? fI = some oI) (hfc : oI.cls = .type "function")
    (hq : ∀ h' e, Heap.MadeExcOf h h' e (.ref C) rest →
      wpAny (model prog w) (A.under (.builtin "type.__call__" ⟨.ref C :: rest, []⟩)) (call (.ref fI) (.ref e :: rest)) (fun r s' => r = .none ∧ Q (.ref e) s') E ⟨h', g, d, t, os⟩) (hrest : rest.length ≤ sizeLine) :
    wpAny (model prog w) A (call (.ref C) rest) Q E ⟨h, g, d, t, os⟩ := by
  have f1 := tc_lookup
  have f2 := tc_bind (.ref C)
  have hT : (⟨h, g, d, t, os⟩ : Shared).TypeIs (.ref C) "type" := ⟨_, hC, rfl⟩
  refine wpAny_call (codeAny_of_tree ?_)
  show wpAny _ _ (callAny (.ref C) _) _ _ _
  repeat (any_goals (first | assumption | with_reducible refine wpAny_loadPart_at hC ?_ | wp_step))
  refine ⟨rfl, ?_⟩
  refine codeAny_call_builtin_at (Code.quiet_builtin _ (by decide +kernel)) entry_typeCall (wpAny_check_type_call_sub hC (exc_type_call F hB hA hN hC hi hfI hfc (fun h' e hm => ?_) hrest))
  exact hq h' e hm

theorem wpAny_typeOf_ref {M : Model} {s : Shared} {o : Obj} {Q : Value → Shared → Prop} (hx : s.heap.get? x = some o) (hq : Q o.cls s) : wpAny M A (typeOf (.ref x)) Q E s := by
  unfold typeOf
  exact wpAny_bind (wpAny_loadPart hx (wpAny_pure hq))
theorem exc_check_sa {M : Model} {s : Shared} {o : Obj} {nameV : Value} {Q : Unit → Shared → Prop} (hO : bm.contains (.type "object") = true)
    (hC : s.heap.get? C = some (excClassObj nm q C N bs bm true sn sub ab col dd k0 k1 k2 k3 k5 newId)) (hx : s.heap.get? x = some o) (hc : o.cls = .ref C) (hq : Q () s) :
    wpAny M A (checkBuiltinCall "object.__setattr__" ⟨[.ref x, nameV, v], []⟩) Q E s := by
  have SF := PySem.F.store_object
  have hcB : (Value.ref C :: bm).contains (.type "object") = true := by rw [List.contains_cons, hO, Bool.or_true]
  have ha := SF.args (.ref x) nameV v
  obtain ⟨h, g, d, t, os⟩ := s
  simp only [checkBuiltinCall, SF.kind, SF.split]
  refine wpAny_bind ?_
  unfold isInstance
  repeat (first | (with_reducible refine wpAny_loadPart_at hx ?_; rw [hc]) | (with_reducible refine wpAny_isSubtype_exc hC ?_; rw [hcB]) | wp_step)
  exact hq
/-- the first attribute laid on an exception that has no dict yet -/
theorem exc_setAttr {o : Obj} {Q : Unit → Shared → Prop} (hO : bm.contains (.type "object") = true) (hpass : refuseLoop (.ref x) "__setattr__" bm = pure ())
    (hC : h.get? C = some (excClassObj nm q C N bs bm true sn sub ab col dd k0 k1 k2 k3 k5 newId)) (hs : Looks (model prog w) h (typeLookup (.ref C) "__setattr__") (some (.builtin "object.__setattr__"))) (hna : Looks (model prog w) h (typeLookup (.ref C) name) none)
    (hx : h.get? x = some o) (hc : o.cls = .ref C) (hdn : o.dict = none) (hnc : ∀ c, o.data ≠ .cls c)
    (hq : ∀ h' tk', (∀ b o', b ≠ x → h.get? b = some o' → h'.get? b = some o') → (∃ o', h'.get? x = some o' ∧ o'.cls = o.cls ∧ o'.data = o.data) → Q () ⟨h', g, d, tk', os⟩) :
    wpAny (model prog w) A (setAttr (.ref x) name v) Q E ⟨h, g, d, t, os⟩ := by
  have SF := PySem.F.store_object
  have f3 := SF.slot.bind (.ref x)
  have hcB : (Value.ref C :: bm).contains (.type "object") = true := by rw [List.contains_cons, hO, Bool.or_true]
  unfold setAttr callSpecial? specialOf
  refine wpAny_bind (wpAny_mkText ?_)
  refine wpAny_bind (wpAny_bind (wpAny_bind (wpAny_typeOf_ref hx ?_)))
  rw [hc]
  refine hs _ _ _ _ (fun _ _ e => e) ?_
  refine wpAny_holding (wpAny_bind (wpAny_of_eq f3 ?_))
  refine wpAny_bind (wpAny_call (codeAny_call_builtin SF.slot.plain SF.entry ?_))
  refine exc_check_sa hO hC hx hc ?_
  show wpAny _ _ (Builtin.«object.__setattr__» ⟨[.ref x, .str name _, v], []⟩) _ _ _
  rw [osa_eq, refuse_eq]
  refine wpAny_bind (wpAny_bind (wpAny_typeOf_ref hx ?_))
  rw [hc]
  refine wpAny_bind (wpAny_mroOf_exc hC ?_)
  rw [refuseLoop_ref, hpass]
  refine wpAny_pure (wpAny_bind (wpAny_typeOf_ref hx ?_))
  rw [hc]
  refine wpAny_bind (hna _ _ _ _ (fun _ _ e => e) ?_)
  refine wpAny_bind (wpAny_pure ?_)
  show wpAny _ _ (storeInOwnDict (.ref x) (.ref C) _ name v false) _ _ _
  unfold storeInOwnDict
  refine wpAny_bind (wpAny_pure ?_)
  refine bm_if_false (by simp) ?_
  refine wpAny_bind ?_
  show wpAny _ _ (instanceDict x true) _ _ _
  unfold instanceDict
  refine wpAny_bind (wpAny_loadPart hx ?_)
  rw [hc]
  refine wpAny_bind ?_
  unfold classData
  refine wpAny_bind (wpAny_load hC (wpAny_pure ?_))
  refine bm_if_false rfl ?_
  rw [hdn]
  refine bm_if_false rfl ?_
  have hx₁ : (h.push { cls := .type "dict", data := .dict #[] }).get? x = some o := Heap.get?_push_of_some _ hx
  have hxs : x ≠ h.objs.size := Nat.ne_of_lt (Heap.lt_size hx)
  have hfr := (Heap.get?_some_iff.mp hx).2
  obtain ⟨oc, od, odt, osl⟩ := o
  dsimp only at hc hdn hnc
  subst hdn hc
  have hfr' : ({ cls := .ref C, dict := some h.objs.size, data := odt, slots := osl } : Obj).isFreed = false := by cases odt <;> first | rfl | exact hfr
  split
  · rename_i c hcd
    exact absurd hcd (hnc c)
  · refine wpAny_bind (wpAny_alloc ?_)
    refine wpAny_bind (wpAny_update hx₁ ?_)
    refine wpAny_pure ?_
    have hxd := Heap.get?_update_self (fun o : Obj => { cls := o.cls, dict := some h.objs.size, data := o.data, slots := o.slots }) hx₁ hfr'
    have hgd : ((h.push { cls := .type "dict", data := .dict #[] }).update x fun o => { cls := o.cls, dict := some h.objs.size, data := o.data, slots := o.slots }).get? h.objs.size
        = some { cls := .type "dict", data := .dict #[] } :=
      (Heap.get?_update_ne _ _ _ _ hxs.symm).trans (Heap.get?_push_at rfl rfl)
    have hnd : ((h.push { cls := .type "dict", data := .dict #[] }).update x fun o => { cls := o.cls, dict := some h.objs.size, data := o.data, slots := o.slots }).Ns h.objs.size (fun _ => none) :=
      ⟨_, #[], _, hgd, rfl, fun e he => absurd he (by simp), fun _ => rfl⟩
    show wpAny _ _ (storeInDict h.objs.size (.str name _) name v) _ _ _
    unfold storeInDict newKeyGuard
    refine wpAny_bind (wpAny_pure (wpAny_bind (wpAny_nsSet1 (Heap.Ns1.of_empty hnd) fun h' hn' hs => ?_)))
    obtain ⟨oD, esD, epD, hoD, hdD, hcD⟩ := hn'.count (Within.cons name v Within.nil)
    refine wpAny_bind (wpAny_lookBehind hoD (by rw [hdD]; exact pastItsLine_dict (Nat.le_trans hcD (by rw [List.length_cons, List.length_nil, sizeLine_eq]; omega))) ?_)
    refine wpAny_pure ?_
    refine wpAny_pure (wpAny_pure (hq h' _ (fun b o' hb e => ?_) ⟨_, (hs.2 x hxs).trans hxd, rfl, rfl⟩))
    exact (hs.2 b (Nat.ne_of_lt (Heap.lt_size e))).trans ((Heap.get?_update_ne _ _ _ _ hb).trans (Heap.get?_push_of_some _ e))
end
end Mine

namespace Mine
section
variable {prog : Program} {w : World} {A : Around} {E : Value → Shared → Prop} {s : Shared}
variable {nm q : Str} {C N x : Addr} {bs bm bmB : List Value} {sn : List Str} {sub : List Value} {ab : Bool} {col : Option Bool} {dd : Option Addr} {k0 k1 k2 k3 k5 : Option Value} {B newId initId : String}

/-- __init__(self, message): self.message = message, upon an exception -/
theorem exc_init {fI : Addr} {oI o : Obj} {v : Value} {p1 p2 p3 p4 p5 p6 : Pos} {dV kV doc pm cdv ct : Value} {an : Option Addr} {name qual : Str} {scope : Scope} {Q : Value → Shared → Prop} (hO : bm.contains (.type "object") = true) (hpass : refuseLoop (.ref x) "__setattr__" bm = pure ())
    (hroom : A.depth < recursionLimit) (hfI : s.heap.get? fI = some oI)
    (hd : oI.data = .func (fnOf name qual { posonlyargs := [], args := [{ arg := "self", annotation := none, pos := p1 }, { arg := "message", annotation := none, pos := p2 }], vararg := none, kwonlyargs := [], kw_defaults := [], kwarg := none, defaults := [] }
      [.Assign [.Attribute (.Name "self" p3) "message" p4] (.Name "message" p5) p6] scope dV kV doc pm an cdv ct))
    (hsc : scope = { kind := .function, names := [("self", .local), ("message", .local)], isGenerator := false, isCoroutine := false })
    (hdV : dV = .none) (hkV : kV = .none) (hlim : s.heap.NoLimit) (hcd : s.heap.CodeRec cdv qual)
    (hC : s.heap.get? C = some (excClassObj nm q C N bs bm true sn sub ab col dd k0 k1 k2 k3 k5 newId)) (hs : Looks (model prog w) s.heap (typeLookup (.ref C) "__setattr__") (some (.builtin "object.__setattr__"))) (hna : Looks (model prog w) s.heap (typeLookup (.ref C) "message") none)
    (hx : s.heap.get? x = some o) (hc : o.cls = .ref C) (hdn : o.dict = none) (hnc : ∀ c, o.data ≠ .cls c)
    (hq : ∀ h' tk', (∀ b o', b ≠ x → s.heap.get? b = some o' → h'.get? b = some o') → (∃ o', h'.get? x = some o' ∧ o'.cls = o.cls ∧ o'.data = o.data) → Q .none { s with heap := h', toks := tk' }) :
    wpAny (model prog w) A (call (.ref fI) [.ref x, v]) Q E s := by
  subst hsc hdV hkV
  refine wpAny_call (codeAny_call_def (binds := [("self", .ref x), ("message", v)]) hroom hfI hd hlim hcd rfl (BindsTo.of_eq rfl) (by show ∀ y ∈ ([("self", .local), ("message", .local)] : List (Str × NameKind)), y.2 ≠ .cell; decide) (locs rfl) (fun h₁ hns hk₁ => ?_) rfl rfl rfl)
  have F : Fr s.heap s.heap.objs.size h₁ (fun y => List.lookup y [(("self" : Str), Value.ref x), (("message" : Str), v)].reverse) := ⟨hns, hk₁, Nat.le_refl _⟩
  refine wpAny_execs_cons (plainObj_wpAny_Assign_Attribute ?_ rfl)
  refine ld (name := qual) F rfl ?_
  refine ld (name := qual) F rfl ?_
  refine exc_setAttr hO hpass (hk₁ _ _ hC) (hs.keeps hk₁) (hna.keeps hk₁) (hk₁ _ _ hx) hc hdn hnc fun h' tk' k' o' => ?_
  exact wpAny_execs_nil (hq h' tk' (fun b ob hb e => k' b ob hb (hk₁ _ _ e)) o')
end
end Mine

namespace Mine
section
variable {M : Model} {A : Around} {E : Value → Shared → Prop} {env : Env}
variable {nm q : Str} {C N x : Addr} {bs bm bmB : List Value} {sn : List Str} {sub : List Value} {ab : Bool} {col : Option Bool} {dd : Option Addr} {k0 k1 k2 k3 k5 : Option Value} {newId : String}

theorem exc_raiseStmt {s : Shared} {y : Sem Value} {Q : Flow → Shared → Prop} (hbase : bm.contains (.type "BaseException") = true) (hh : A.handled = none)
    (h : wpAny M A y (fun v s₁ => ∃ e t od osl, v = .ref e ∧ s₁.heap.get? C = some (excClassObj nm q C N bs bm true sn sub ab col dd k0 k1 k2 k3 k5 newId) ∧
      s₁.heap.get? e = some { cls := .ref C, dict := od, data := .fields #[.ref t, .none, .none, .none, .bool false, .none], slots := osl } ∧ E (.ref e) s₁) E s) :
    wpAny M A (raiseStmt env (some y) none) Q E s := by
  have hcB : (Value.ref C :: bm).contains (.type "BaseException") = true := by rw [List.contains_cons, hbase, Bool.or_true]
  unfold raiseStmt
  refine wpAny_bind (wpAny_mono h (fun v s₁ h₁ => ?_) fun _ _ x => x)
  obtain ⟨e, t, od, osl, rfl, hC, he, hE⟩ := h₁
  obtain ⟨hp, g, d, tk, os⟩ := s₁
  repeat (first | with_reducible refine wpAny_loadPart_at he ?_ | with_reducible refine wpAny_loadPart_at hC ?_ | (with_reducible refine wpAny_isSubtype_exc hC ?_; rw [hcB]) | wp_step)
  exact wpAny_raiseNew_none hh hE

theorem exc_Raise {s : Shared} {y : Str} {np cpos pos : Pos} {args : List Expr} {Q : Flow → Shared → Prop} (hbase : bm.contains (.type "BaseException") = true) (hh : A.handled = none)
    (hplain : (backTo cpos (starEach args env)).any (·.1) = false)
    (h : wpAny M A (eval (.Name y np) env) (fun f s₁ => f = .ref C ∧ wpAny M A (evalArgs (.ref C) true (backTo cpos (starEach args env)) [])
      (fun a s₂ => s₂.heap.get? C = some (excClassObj nm q C N bs bm true sn sub ab col dd k0 k1 k2 k3 k5 newId) ∧ wpAny M A (call (.ref C) a.pos a.kw) (fun v s₃ =>
        ∃ e t od osl, v = .ref e ∧ s₃.heap.get? C = some (excClassObj nm q C N bs bm true sn sub ab col dd k0 k1 k2 k3 k5 newId) ∧
          s₃.heap.get? e = some { cls := .ref C, dict := od, data := .fields #[.ref t, .none, .none, .none, .bool false, .none], slots := osl } ∧ E (.ref e) s₃) E s₂) E s₁) E s) :
    wpAny M A (exec (.Raise (some (.Call (.Name y np) args [] cpos)) none pos) env) Q E s := by
  rw [arm_exec_Raise]
  refine wpAny_bind (wpAny_standAt (exc_raiseStmt (C := C) (nm := nm) (q := q) (N := N) (bs := bs) (bm := bm) (sn := sn) (sub := sub) (ab := ab) (col := col) (dd := dd) (k0 := k0) (k1 := k1) (k2 := k2) (k3 := k3) (k5 := k5) (newId := newId) hbase hh (wpAny_bind (wpAny_mono (wpAny_Call_ofName (wpAny_mono h (fun f s₁ h₁ => ?_) fun _ _ x => x)) (fun v s₃ h₃ => wpAny_bind (wpAny_standAt (wpAny_pure h₃))) fun _ _ x => x))))
  obtain ⟨rfl, h₁⟩ := h₁
  unfold callWith
  refine wpAny_bind (wpAny_holding (wpAny_mono h₁ (fun a s₂ h₂ => wpAny_bind (wpAny_standAt ?_)) fun _ _ x => x))
  obtain ⟨hC, h₂⟩ := h₂
  obtain ⟨hp, g, d, tk, os⟩ := s₂
  simp only [hplain]
  refine wpAny_bind (wpAny_keeperOf_exc hC ?_)
  exact wpAny_bind (wpAny_mono h₂ (fun v s₃ h₃ => wpAny_bind (wpAny_holding (wpAny_point (wpAny_pure h₃)))) fun _ _ x => x)
end
end Mine
end
section
open PySem PySem.W PyProof.Rows
set_option maxRecDepth 100000
namespace Mine
/-- a new exception of any class, built in or own, its own dict or none -/
structure NewExcV (h h' : Heap) (e : Addr) (cls : Value) : Prop where
  keeps : ∀ b o, h.get? b = some o → h'.get? b = some o
  new : h.get? e = none
  there : ∃ ob tp, h'.get? e = some ob ∧ ob.cls = cls ∧ ob.data = .fields #[tp, .none, .none, .none, .bool false, .none]

section
variable {prog : Program} {w : World} {A : Around} {E : Value → Shared → Prop} {s : Shared}
variable {nm q : Str} {C N : Addr} {bs bm bmB : List Value} {sn : List Str} {sub : List Value} {ab : Bool} {col : Option Bool} {dd : Option Addr} {k0 k1 k2 k3 k5 : Option Value} {B newId initId : String}
variable {K : Frag} {h₀ : Heap} {L a : Addr} {m mg mb : Str → Option Value} {cn : Str} {cs : Scope} {ccd : Value} {p : Program} {loose : List Str}

theorem raise_K {fI : Addr} {oI : Obj} {y z : Str} {kk : Nat} {np cpos pos zp p1 p2 p3 p4 p5 p6 : Pos} {dV kV doc pm cdv ct : Value} {an : Option Addr} {name qual : Str} {scope : Scope} {Q : Flow → Shared → Prop}
    (F : Fr h₀ L s.heap m) (X : K.In h₀) (T : TopRead p loose mg mb h₀) (hh : A.handled = none) (hroom : A.depth + 1 < recursionLimit) (ex : nsIn K mainGlobals y = some (some (.ref C)))
    (hl : K.lookup C = some (excClassObj nm q C N bs bm true sn sub ab col dd k0 k1 k2 k3 k5 newId))
    (hi : findIn K (.ref C) "__init__" = some (some (.ref fI))) (hs : findIn K (.ref C) "__setattr__" = some (some (.builtin "object.__setattr__"))) (hna : findIn K (.ref C) "message" = some none)
    (FB : ExcBaseFacts B newId initId bmB) (hB : bm.contains (.type B) = true) (hA : bm.contains (.type "AttributeError") = false) (hN : bm.contains (.type "NameError") = false) (hO : bm.contains (.type "object") = true) (hbase : bm.contains (.type "BaseException") = true)
    (hpass : ∀ x, refuseLoop (.ref x) "__setattr__" bm = pure ())
    (hfl : K.lookup fI = some oI) (hfc : oI.cls = .type "function")
    (hd : oI.data = .func (fnOf name qual { posonlyargs := [], args := [{ arg := "self", annotation := none, pos := p1 }, { arg := "message", annotation := none, pos := p2 }], vararg := none, kwonlyargs := [], kw_defaults := [], kwarg := none, defaults := [] }
      [.Assign [.Attribute (.Name "self" p3) "message" p4] (.Name "message" p5) p6] scope dV kV doc pm an cdv ct))
    (hsc : scope = { kind := .function, names := [("self", .local), ("message", .local)], isGenerator := false, isCoroutine := false }) (hdV : dV = .none) (hkV : kV = .none) (hcd : codeIn K cdv qual = true)
    (h : ∀ h' tk' e, NewExcV s.heap h' e (.ref C) → E (.ref e) { s with heap := h', toks := tk' })
    (hk : cs.kind = .function := by rfl) (hx : (envOf cn cs L a ccd).kindOf y = some .globalImplicit := by rfl) (hdb : (y == ("__debug__" : Str)) = false := by decide) :
    wpAny (model prog w) A (exec (.Raise (some (.Call (.Name y np) [.Constant (.str z) kk zp] [] cpos)) none pos) (envOf cn cs L a ccd)) Q E s := by
  have X' : K.In s.heap := X.keeps F.keep
  have hC := X' _ _ hl
  refine exc_Raise (C := C) (nm := nm) (q := q) (N := N) (bs := bs) (bm := bm) (sn := sn) (sub := sub) (ab := ab) (col := col) (dd := dd) (k0 := k0) (k1 := k1) (k2 := k2) (k3 := k3) (k5 := k5) (newId := newId) hbase hh rfl (name_K F X T ex ⟨rfl, ?_⟩ hk hx hdb)
  refine Calls.evalArgs_plain (Calls.spliced_cons (wpAny_Constant_str (k := kk) (pos := zp) (wpAny_pure ⟨hC, ?_⟩)))
  obtain ⟨hp, g, d, tk, os⟩ := s
  refine exc_call FB hB hA hN hC (looks_findIn X' hi) (X' _ _ hfl) hfc (fun h' e hm => ?_) (by size_fits)
  obtain ⟨t, ht, htn, _⟩ := hm.there
  refine exc_init (s := ⟨h', g, d, _, os⟩) hO (hpass e) (by show A.depth + 1 < recursionLimit; exact hroom) (hm.keeps _ _ (X' _ _ hfl)) hd hsc hdV hkV ((T.nolimit.keeps F.keep).keeps hm.keeps) ((codeRec_of X' hcd).keeps hm.keeps) (hm.keeps _ _ hC)
    ((looks_findIn X' hs).keeps hm.keeps) ((looks_findIn X' hna).keeps hm.keeps) ht rfl rfl (fun c => by intro q; cases q) fun h₂ tk₂ k₂ o₂ => ?_
  obtain ⟨o', ho', hc', hd'⟩ := o₂
  have ne : ∀ b o, hp.get? b = some o → b ≠ e := fun b o q z => by
    rw [z, hm.new] at q
    cases q
  have kp : ∀ b o, hp.get? b = some o → h₂.get? b = some o := fun b o q => k₂ b o (ne b o q) (hm.keeps _ _ q)
  refine ⟨rfl, e, t, o'.dict, o'.slots, rfl, kp _ _ hC, ?_, h h₂ _ e ⟨kp, hm.new, o', .ref t, ho', hc', hd'⟩⟩
  obtain ⟨a1, a2, a3, a4⟩ := o'
  dsimp only at hc' hd'
  subst hc' hd'
  exact ho'
end

section
variable {M : Model} {A : Around} {E : Value → Shared → Prop} {s' : Shared} {base g g₂ h : Heap} {outer : List Env} {L a e : Addr} {m : Str → Option Value} {name : Str} {scope : Scope} {cd : Value} {Q : Unit → Shared → Prop} {news : List (Addr × Obj)}
theorem leave_newV {cls : Value} (K : Below A base outer g) (hx : NewExcV h s'.heap e cls) (F : Fr g L h m) (N : News g L h news)
    (hQ : ∀ h', RaisedSN base g outer e cls news h' → RaisedN base outer e cls news h' → g.UpToSlots h' → Q () { s' with heap := h' }) (hk : scope.kind = .function := by rfl) :
    wpAny M (A.deeper (envOf name scope L a cd)) (leaving (envOf name scope L a cd) (.ref e)) Q E s' := by
  have K' := K.push (name := name) (a := a) (cd := cd) F hk
  have hin : ∀ env ∈ (envOf name scope L a cd :: outer), ∀ b, env.frame = some b → b ∈ (envOf name scope L a cd :: outer).filterMap (·.frame) := fun env he b hb => List.mem_filterMap.mpr ⟨env, he, hb⟩
  have st : base.StaysIn (hideAll h ((envOf name scope L a cd :: outer).filterMap (·.frame))) := fun b o q => hideAll_get _ (K'.stays b o q) fun hm => by
    rw [(K'.frames.mem hm).1] at q; cases q
  have sg : ∀ b o, g.get? b = some o → b ∉ outer.filterMap (·.frame) → (hideAll h ((envOf name scope L a cd :: outer).filterMap (·.frame))).get? b = some o := fun b o q nm => hideAll_get _ (F.keep b o q) fun hm => by
    rcases kts_mem hm with z | z
    · rw [z, kts_self F] at q
      cases q
    · exact nm z
  have hl : ∀ q ∈ news, (hideAll h ((envOf name scope L a cd :: outer).filterMap (·.frame))).get? q.1 = some q.2 ∧ g.get? q.1 = none ∧ base.get? q.1 = none := fun q hq => by
    refine ⟨hideAll_get _ (N q hq).1 fun hm => ?_, (N q hq).2.2, fresh_of_stays K.stays (N q hq).2.2⟩
    obtain ⟨env, he, hf⟩ := List.mem_filterMap.mp hm
    rcases List.mem_cons.mp he with rfl | he
    · exact (N q hq).2.1 (Option.some.inj hf).symm
    · obtain ⟨o, ho, _⟩ := (K.frames.mem (List.mem_filterMap.mpr ⟨env, he, hf⟩)).2
      rw [(N q hq).2.2] at ho; cases ho
  obtain ⟨ob, tp, he, hcls, hd⟩ := hx.there
  have hen : (hideAll h ((envOf name scope L a cd :: outer).filterMap (·.frame))).get? e = none := by
    cases q : (hideAll h ((envOf name scope L a cd :: outer).filterMap (·.frame))).get? e with
    | none => rfl
    | some o => have := of_hideAll _ q; rw [hx.new] at this; cases this
  refine wpAny_leaving_firstW (a0 := tp) K'.stack ((funFrames_hide K'.frames hin).of_keeps fun b o hb _ => ⟨o, hx.keeps b o hb, rfl⟩) rfl he (fun b o hb => hx.keeps b o (of_hideAll _ hb)) hen hd rfl rfl fun h' hL => ?_
  obtain ⟨k1, ⟨_, _, k2⟩, k3, k4⟩ := hL
  have R : RaisedSN base g outer e cls news h' := ⟨_, tp, st, sg, hl, k1, hen, k2, by rw [← hcls]; exact k3⟩
  exact hQ h' R R.toN (((Heap.UpToSlots.of_keeps F.keep).trans (Heap.UpToSlots.of_keeps hx.keeps)).trans k4)
end
end Mine
end
section
open PySem PySem.W PyProof.Rows PySem.Calls
set_option maxRecDepth 100000
namespace Mine
open Builtin

section
variable {prog : Program} {w : World} {A : Around} {E : Value → Shared → Prop} {s : Shared} {R : Result → Shared → Prop} {env : Env}

theorem wpC_nil {Q : Flow → Shared → Prop} (h : Q .next s) : wpC (model prog w) A (execs [] env) Q E s := wpC_of (wpAny_execs_nil h)
theorem wpC_cons {st rest} {Q : Flow → Shared → Prop}
    (h : wpC (model prog w) A (exec st env) (fun f s' => match f with | .next => wpC (model prog w) A (execs rest env) Q E s' | f => Q f s') E s) :
    wpC (model prog w) A (execs (st :: rest) env) Q E s := by
  rw [execs_cons]
  refine wpC_bind (wpC_mono h (fun f s' h' => ?_) fun _ _ h' => h')
  cases f with
  | next => exact h'
  | brk => exact wpC_pure h'
  | cont => exact wpC_pure h'
  | ret v => exact wpC_pure h'

theorem codeC_func {body env}
    (h : wpC (model prog w) (A.deeper env) (execs body env) (fun f s' => R (.ok (.ret (match f with | .ret v => v | _ => .none))) s') (fun _ _ => False) s) :
    codeC (model prog w) A (.func body env) R s := by
  refine codeC_tree rfl ?_
  show wpC _ (A.deeper env) (do point; match ← (execs body env).onRaise (leaving env) with | .ret v => ret v | _ => ret .none) _ _ s
  refine wpC_bind (wpC_of (wpAny_point (?_)))
  refine wpC_bind (wpC_onRaise (wpC_mono h (fun f s' h' => ?_) fun _ _ h' => h'.elim))
  cases f <;> exact wpC_pure h'

theorem codeC_call_function {a : Addr} {args : Args} {o : Obj} {fd : FuncData} {body : List Stmt} (hroom : A.depth < recursionLimit)
    (ho : s.heap.get? a = some o)
    (hd' : o.data = .func fd) (hco : fd.scope.isCoroutine = false) (hgen : fd.scope.isGenerator = false) (hbody : fd.body = .stmts body) (hcd : s.heap.CodeRec fd.code fd.qualname)
    (h : wpAny (model prog w) A.in1 (bindArgs fd args) (fun binds s₁ =>
      wpAny (model prog w) A.in1 (newFunctionEnv fd.scope fd.globals fd.closure binds (fd.qualname ++ ".<locals>.") (some a) fd.code none fd.builtins)
        (fun env s₂ => s₂.heap.NoLimit ∧ codeC (model prog w) A (.func body env) R s₂) (fun e s' => R (.error e) s') s₁) (fun e s' => R (.error e) s') s) :
    codeC (model prog w) A (.call (.ref a) args) R s := by
  refine codeC_tree rfl ?_
  show wpC _ A.in1 (callAny (.ref a) args) _ _ s
  simp only [callAny]
  refine wpC_of (wpAny_bind (wpAny_load ho ?_))
  obtain ⟨c, oc, vs, tq, hc, hoc, hdc, hq⟩ := hcd
  simp only [hd', callFunction, hco, hgen, hbody, hc]
  rw [hc] at h
  refine wpAny_bind (m := field (.ref c) 1) (wpAny_field hoc hdc hq (wpAny_bind (wpAny_pure ?_)))
  exact wpAny_bind (wpAny_mono h (fun binds s₁ h₁ => wpAny_bind (wpAny_mono h₁ (fun env s₂ h₂ => wpAny_bind (wpAny_enterFrame h₂.1 hroom
    (wpAny_pure (And.intro rfl h₂.2)))) fun _ _ h' => h')) fun _ _ h' => h')

theorem call_cellsC {name : Str} {params : Arguments} {body : List Stmt} {scope : Scope}
    {pm cd doc : Value} {a : Addr} {o : Obj} {args : List Value} {binds : List (Str × Value)}
    (hroom : A.depth < recursionLimit) (ho : s.heap.get? a = some o) (hdata : o.data = .func (docDef name params body scope pm cd doc)) (hlim : s.heap.NoLimit) (hcd : s.heap.CodeRec cd name)
    (hbind : bindArgs (docDef name params body scope pm cd doc) ⟨args, []⟩ = pure binds)
    (hkind : ∀ x ∈ binds, scope.names.lookup x.1 = some .local ∨ (scope.names.lookup x.1 = some .cell ∧ ((cellsFrom (s.heap.objs.size + 1) scope.names []).lookup x.1).isSome = true))
    (hnd : ((cellsFrom 0 scope.names []).map (·.1)).Nodup)
    (h : ∀ h₁ tk cells, Fr s.heap s.heap.objs.size h₁ (bindL (envOfC name scope s.heap.objs.size a cd).kindOf binds fun _ => none) → News s.heap s.heap.objs.size h₁ cells →
      CellsAre (bindC (envOfC name scope s.heap.objs.size a cd).kindOf binds fun _ => none) (cellsFrom (s.heap.objs.size + 1) scope.names []) cells →
      wpC (model prog w) (A.deeper (envOfC name scope s.heap.objs.size a cd)) (execs body (envOfC name scope s.heap.objs.size a cd))
        (fun f s' => R (.ok (.ret (match f with | .ret v => v | _ => .none))) s') (fun _ _ => False)
        { s with heap := h₁, toks := tk })
    (hco : scope.isCoroutine = false := by rfl) (hgen : scope.isGenerator = false := by rfl) (hk : scope.kind = .function := by rfl) :
    codeC (model prog w) A (.call (.ref a) ⟨args, []⟩) R s := by
  refine codeC_call_function (fd := docDef name params body scope pm cd doc) hroom ho hdata hco hgen rfl hcd ?_
  rw [hbind]
  refine wpAny_pure ?_
  show wpAny _ _ (newFunctionEnv _ _ [] _ _ _ _ _ _) _ _ _
  refine wpAny_newFunctionEnv_cells hk hkind fun env he s' X => ?_
  subst he
  refine ⟨hlim.keeps X.toInCall.keep, codeC_func ?_⟩
  obtain ⟨h₁, tk, rfl, _⟩ := X.done
  have C : Cl s.heap.objs.size (cellsFrom (s.heap.objs.size + 1) scope.names []) h₁ (bindC (envOfC name scope s.heap.objs.size a cd).kindOf binds fun _ => none) := ⟨X.cell, X.apart, X.above⟩
  obtain ⟨cells, N, Y⟩ := Cl.news (h₀ := s.heap) (Nat.le_refl _) fun n c hm => ⟨C.cell n c (lookup_of_mem_nodup (cellsFrom_names scope.names 0 (s.heap.objs.size + 1) [] [] rfl ▸ hnd) hm), C.above n c hm⟩
  exact h h₁ tk cells ⟨X.toInCall.ns, X.toInCall.keep, X.toInCall.fresh⟩ N Y

theorem enter_callC {f : Value} {pos : List Value} {kw : List (Str × Value)} {c : ClaimW} {cl : Str → Option Addr} {mean : ExcName → Option Value} {args : List WData} {s₁ : Shared}
    (h : codeC (model prog w) A (.call f ⟨pos, kw⟩) (GoodWG c cl mean args s₁) s) : wpC (model prog w) A (PySem.call f pos kw) (fun v s' => GoodWG c cl mean args s₁ (.ok (.ret v)) s') (fun e s' => GoodWG c cl mean args s₁ (.error e) s') s :=
  wpC_call (codeC_mono h fun res s' g => by rcases g.1 with ⟨v, _, _, rfl, _⟩ | ⟨e, _, _, rfl, _⟩ <;> exact g)

theorem codeC_forLoop {target it body} (I : Nat → Shared → Prop)
    (turn : ∀ n s, I n s → wpAny (model prog w) A (pyNext it) (fun r s₁ => match r with
      | none => R (.ok .next) s₁
      | some v => wpAny (model prog w) A (assign target env v) (fun _ s₂ => wpC (model prog w) A (execs body env) (fun f s₃ => match f with
          | .next | .cont => ∃ m, m < n ∧ I m s₃
          | .brk => R (.ok .next) s₃
          | .ret v => R (.ok (.ret v)) s₃) (fun _ _ => False) s₂) (fun _ _ => False) s₁) (fun _ _ => False) s)
    (n : Nat) (h : I n s) (ht : ∀ v, letOwnedTupleGo target it v = pure () := by intro _; rfl) : codeC (model prog w) A (.forLoop target it body [] env) R s := by
  induction n using Nat.strongRecOn generalizing s with
  | ind n ih =>
    refine codeC_tree rfl ?_
    show wpC _ _ ((forTurn target it body [] env).onRaise (fun x => do noteFrame x env; theTreesLotGoes x)) _ _ s
    refine wpC_onRaise ?_
    simp only [forTurn]
    refine wpC_bind (wpC_at ?_)
    refine wpC_bind (wpC_onRaise (wpC_of (wpAny_mono (turn n s h) (fun r s₁ h₁ => ?_) fun _ _ h' => h'.elim)))
    cases r with
    | none => exact wpC_pure ⟨rfl, codeC_of (codeAny_block (wpAny_execs_nil h₁))⟩
    | some v =>
      refine wpC_bind ?_
      rw [ht v]
      refine wpC_pure (wpC_bind (wpC_of (wpAny_mono h₁ (fun _ s₂ h₂ => ?_) fun _ _ h' => h'.elim)))
      refine wpC_bind (wpC_mono h₂ (fun f s₃ h₃ => ?_) fun _ _ h' => h'.elim)
      cases f with
      | next => obtain ⟨m, hm, hI⟩ := h₃; exact wpC_pure ⟨rfl, ih m hm hI⟩
      | cont => obtain ⟨m, hm, hI⟩ := h₃; exact wpC_pure ⟨rfl, ih m hm hI⟩
      | brk => exact wpC_pure h₃
      | ret v => exact wpC_pure h₃

theorem wpC_For {target iter body pos} {Q : Flow → Shared → Prop}
    (h : wpAny (model prog w) A (eval iter env) (fun x s₁ => wpAny (model prog w) A (pyIter x) (fun it s₂ =>
      codeC (model prog w) A (.forLoop target it body [] env) (fun r s' => match r with | .ok f => Q f s' | .error _ => False) s₂) E s₁) E s)
    (hs : ∀ x, foldedSetIterable iter env x = pure x := by intro _; rfl) :
    wpC (model prog w) A (exec (.For target iter body [] pos) env) Q E s := by
  rw [exec_For]
  refine wpC_bind (wpC_at (wpC_bind (wpC_of (wpAny_mono h (fun x s₁ h₁ => wpC_bind ?_) fun _ _ h' => h'))))
  rw [hs x]
  refine wpC_pure (wpC_bind (wpC_at (wpC_bind (wpC_holding (wpC_of (wpAny_mono h₁ (fun it s₂ h₂ => ?_) fun _ _ h' => h'))))))
  unfold runOwn
  refine wpC_onRaise (wpC_run (codeC_mono h₂ fun r s' hr => ?_))
  cases r with
  | ok f => exact hr
  | error e => exact hr.elim

/-- the turn's first statement -/
theorem wpC_pair {elts k tpos e1 np e2 cpos k2 vpos pos} {names : List Str} {Q : Flow → Shared → Prop}
    (h : wpAny (model prog w) A (eval e1 env) (fun v1 s₁ => wpAny (model prog w) A (eval (.Name "bytearray" np) env) (fun f s₂ => f = .type "bytearray" ∧
      wpAny (model prog w) A (eval e2 env) (fun v2 s₃ => ∃ b t, v2 = .bytes b t ∧ b.size ≤ 16777216 ∧
        ∀ h' a, (∀ x o, s₃.heap.get? x = some o → h'.get? x = some o) → s₃.heap.get? a = none → h'.get? a = some (baObj b) →
          wpAny (model prog w) A (newTuple [v1, .ref a]) (fun v s₄ => wpAny (model prog w) A (unpackItems v names.length none) (fun items s₅ =>
            wpAny (model prog w) A (assignInOrder (names.reverse.map fun n => bindName env n) items.reverse) (fun _ => Q .next) E s₅) E s₄) E { s₃ with heap := h' }) E s₂) E s₁) E s)
    (hst1 : starEach [e1, .Call (.Name "bytearray" np) [e2] [] cpos] env = [(false, eval e1 env), (false, eval (.Call (.Name "bytearray" np) [e2] [] cpos) env)] := by rfl)
    (hst2 : starEach [e2] env = [(false, eval e2 env)] := by rfl)
    (hs : swapsWithSole [.Tuple elts k tpos] (.Tuple [e1, .Call (.Name "bytearray" np) [e2] [] cpos] k2 vpos) pos.line env = pure false := by rfl)
    (hw : swappedStores [.Tuple elts k tpos] (.Tuple [e1, .Call (.Name "bytearray" np) [e2] [] cpos] k2 vpos) env = pure (some names) := by rfl) :
    wpC (model prog w) A (exec (.Assign [.Tuple elts k tpos] (.Tuple [e1, .Call (.Name "bytearray" np) [e2] [] cpos] k2 vpos) pos) env) Q E s := by
  rw [exec_Assign]
  refine wpC_bind (wpC_at ?_)
  rw [hs]
  refine wpC_bind (wpC_pure ?_)
  rw [if_neg (by decide)]
  refine wpC_bind ?_
  show wpC _ _ (do standAt vpos; newTuple (← spliced (backTo vpos (starEach [e1, .Call (.Name "bytearray" np) [e2] [] cpos] env)))) _ _ _
  rw [hst1]
  refine wpC_bind (wpC_at (wpC_bind ?_))
  show wpC _ _ (do let v ← eval e1 env; let here ← pure [v]; return here ++ (← holding here (do let v ← eval (.Call (.Name "bytearray" np) [e2] [] cpos) env; let here ← pure [v]; return here ++ (← holding here (pure []))))) _ _ _
  refine wpC_bind (wpC_of (wpAny_mono h (fun v1 s₁ h₁ => ?_) fun _ _ x => x))
  refine wpC_bind (wpC_pure ?_)
  refine wpC_bind (wpC_holding (wpC_bind ?_))
  show wpC _ _ (do callWith cpos (← eval (.Name "bytearray" np) env) [] (backTo cpos (starEach [e2] env)) (backToKw cpos [])) _ _ _
  refine wpC_bind (wpC_of (wpAny_mono h₁ (fun f s₂ h₂ => ?_) fun _ _ x => x))
  obtain ⟨rfl, h₂⟩ := h₂
  rw [hst2]
  unfold callWith
  refine wpC_bind (wpC_holding (wpC_of (Calls.evalArgs_plain (spliced_cons (wpAny_mono h₂ (fun v2 s₃ h₃ => spliced_nil ?_) fun _ _ x => x)))))
  obtain ⟨b, t, rfl, hz, h₃⟩ := h₃
  refine wpC_bind (wpC_at ?_)
  refine wpC_bind (wpC_pure ?_)
  refine wpC_bind (callC_bytearray hz fun h' hk hg => ?_)
  refine wpC_bind (wpC_holding (wpC_of (wpAny_point ?_)))
  refine wpC_pure (wpC_bind (wpC_pure (wpC_bind (wpC_holding (wpC_pure (wpC_pure (wpC_pure ?_)))))))
  refine wpC_of (wpAny_mono (h₃ h' _ hk (Heap.get?_none_of_le (Nat.le_refl _)) hg) (fun v s₄ h₄ => ?_) fun _ _ x => x)
  rw [hw]
  refine wpC_bind (wpC_pure (wpC_of ?_))
  show wpAny _ A (do rule "assign.swapped-stores"; let items ← unpackItems v names.length none; assignInOrder (names.reverse.map fun n => bindName env n) items.reverse; pure .next) Q E s₄
  exact wpAny_bind (wpAny_rule (wpAny_bind (wpAny_mono h₄ (fun items s₂ h₂ => wpAny_bind (wpAny_mono h₂ (fun _ _ x => wpAny_pure x) fun _ _ x => x)) fun _ _ x => x)))
/-- the ground of the loop: the frame's map holds the row, and the state has gone no further than the heap and the tokens -/
def RowAt (h₀ : Heap) (L : Addr) (h : Heap) : Prop := ∃ m row t, Fr h₀ L h m ∧ m (PySem.Str.ofString "row") = some (.bytes row t) ∧ row.size = 60
theorem RowAt.frame {h₀ h : Heap} {L : Addr} (X : RowAt h₀ L h) : ∃ (m : Str → Option Value) (row : Array UInt8) (t : Tok), Fr h₀ L h (fun y => if y = PySem.Str.ofString "row" then some (.bytes row t) else m y) ∧ row.size = 60 := by
  obtain ⟨m, row, t, F, e, z⟩ := X
  refine ⟨m, row, t, ?_, z⟩
  have : (fun y => if y = PySem.Str.ofString "row" then some (Value.bytes row t) else m y) = m := by
    funext y
    split
    · rename_i h; rw [h, e]
    · rfl
  rw [this]; exact F
theorem split4 {s1 s2 s3 s4 : Stmt} {rest : List Stmt} {h₀ : Heap} {L : Addr} {Q : Flow → Shared → Prop} (hs : ∀ h tk, RowAt h₀ L h → wpC (model prog w) A (execs rest env) Q E { s with heap := h, toks := tk })
    (h : wpC (model prog w) A (execs [s1, s2, s3, s4] env) (fun f s' => f = .next ∧ ∃ h tk, s' = { s with heap := h, toks := tk } ∧ RowAt h₀ L h) E s) :
    wpC (model prog w) A (execs (s1 :: s2 :: s3 :: s4 :: rest) env) Q E s := by
  have e : execs (s1 :: s2 :: s3 :: s4 :: rest) env = (do match ← execs [s1, s2, s3, s4] env with | .next => execs rest env | f => pure f) := by
    simp only [execs_cons, execs_nil, bind_assoc]
    congr 1; funext f; cases f <;> try rfl
    simp only [bind_assoc]
    congr 1; funext f; cases f <;> try rfl
    simp only [bind_assoc]
    congr 1; funext f; cases f <;> try rfl
    simp only [bind_assoc]
    congr 1; funext f; cases f <;> try rfl
  rw [e]
  refine wpC_bind (wpC_mono h (fun f s' h' => ?_) fun _ _ x => x)
  obtain ⟨rfl, h, tk, rfl, X⟩ := h'
  exact hs h tk X
end
end Mine
end
section
open PySem PySem.W PyProof.Rows PySem.Calls
set_option maxRecDepth 100000
namespace Mine
open Builtin

def riObj (x left : Int) : Obj := { cls := .type "range_iterator", dict := none, data := .fields #[rawInt x, rawInt left, rawInt 1], slots := #[] }

theorem keepBut {h₀ h h' : Heap} {L I : Addr} {m : Str → Option Value} (F : Fr h₀ L h m) (hI : I ≠ L) (hI0 : h₀.get? I = none) (hs : Heap.ExtBut I h h') : Fr h₀ L h' m :=
  ⟨F.ns.at fun o e => hs L o (fun q => hI q.symm) e, fun b o e => hs b o (fun q => by subst q; rw [hI0] at e; cases e) (F.keep b o e), F.above⟩
theorem Heap.SameBut.ext {a : Addr} {h h' : Heap} (x : Heap.SameBut a h h') : Heap.ExtBut a h h' := fun b _ hb e => (x.2 b hb).trans e

section
variable {prog : Program} {w : World} {A : Around} {E : Value → Shared → Prop} {s : Shared} {R : Result → Shared → Prop} {env : Env}

theorem rows_loop {hs : Heap} {g : Array GenState} {dr : Drawn} {tks : Nat} {os : OsState} {h₀ : Heap} {L r : Addr} {t u v : Tok} {body : List Stmt} {px : Pos} (hh : A.handled = none) (hL : env.locals = L) (hr : IsRange hs r 0 61 1 t u v) (X : RowAt h₀ L hs)
    (hl : env.kindOf (PySem.Str.ofString "many") = some .local)
    (turn : ∀ (i : Nat) (I : Addr) (h : Heap) (tk tv : Nat) (m : Str → Option Value) (row : Array UInt8) (t : Tok), i < 61 →
      Fr h₀ L h (fun y => if y = PySem.Str.ofString "many" then some (.int i tv) else if y = PySem.Str.ofString "row" then some (.bytes row t) else m y) → row.size = 60 →
      News h₀ L h [(I, riObj (i + 1) (60 - i))] →
      wpC (model prog w) A (execs body env) (fun f s' => f = .next ∧ ∃ h' tk', s' = (⟨h', g, dr, tk', os⟩ : Shared) ∧ RowAt h₀ L h' ∧ News h₀ L h' [(I, riObj (i + 1) (60 - i))]) (fun _ _ => False) (⟨h, g, dr, tk, os⟩ : Shared))
    (done : ∀ h tk, RowAt h₀ L h → R (.ok .next) (⟨h, g, dr, tk, os⟩ : Shared))
    (hp : (env.scope.kind == .class || (env.scope.kind == .module && env.locals != env.globals)) = false := by rfl) :
    wpAny (model prog w) A (pyIter (.ref r)) (fun it s₂ => codeC (model prog w) A (.forLoop (.Name (PySem.Str.ofString "many") px) it body [] env) R s₂) E (⟨hs, g, dr, tks, os⟩ : Shared) := by
  subst hL
  refine wpAny_pyIter_range hr (by decide) ?_
  have hsz : Builtin.Range.rangeSize 0 61 1 = 61 := by decide
  rw [hsz]
  have hI0 : hs.objs.size ≠ env.locals ∧ h₀.get? hs.objs.size = none := by
    obtain ⟨m, row, t, F, _, _⟩ := X
    exact ⟨Nat.ne_of_gt F.ns.lt, Heap.get?_none_of_le (Nat.le_trans F.above (Nat.le_of_lt F.ns.lt))⟩
  refine codeC_forLoop (s := (⟨hs.push _, g, dr, tks, os⟩ : Shared)) (I := fun n s' => ∃ (i : Nat) (h : Heap) (tk : Nat), i + n = 61 ∧ s' = (⟨h, g, dr, tk, os⟩ : Shared) ∧ RowAt h₀ env.locals h ∧ News h₀ env.locals h [(hs.objs.size, riObj i (61 - i))])
    (fun n s' hI => ?_) 61 ⟨0, _, _, rfl, rfl, ?_, ?_⟩
  · obtain ⟨i, h, tk, hn, rfl, X, N⟩ := hI
    have hit : IsRangeIter h hs.objs.size i (61 - i) 1 := (N _ (List.mem_singleton.mpr rfl)).1
    by_cases hi : i < 61
    · refine wpAny_pyNext_range_item (s := (⟨h, g, dr, tk, os⟩ : Shared)) hit (by omega) fun h' hit' hsb => ?_
      obtain ⟨m, row, t, F, hz⟩ := X.frame
      have F' := keepBut F hI0.1 hI0.2 (Heap.SameBut.ext hsb)
      refine wpAny_assign_Name (wpAny_storeName_local hl F'.ns (fun h₂ hn₂ hs₂ => ?_) hp)
      have F2 := F'.set hn₂ hs₂
      have N2 : News h₀ env.locals h₂ [(hs.objs.size, riObj (i + 1) (60 - i))] := by
        intro p hp
        obtain rfl := List.mem_singleton.mp hp
        refine ⟨?_, hI0⟩
        show h₂.get? hs.objs.size = _
        rw [hs₂.2 _ hI0.1]
        have e : (61 - (i : Int) - 1) = 60 - i := by omega
        rw [e] at hit'
        exact hit'
      refine wpC_mono (turn i hs.objs.size h₂ _ _ m row t hi F2 hz N2) (fun f s₃ h₃ => ?_) fun _ _ x => x
      obtain ⟨rfl, h₄, tk₄, rfl, X₄, N₄⟩ := h₃
      refine ⟨n - 1, by omega, i + 1, h₄, tk₄, by omega, rfl, X₄, ?_⟩
      have e : (61 - ((i + 1 : Nat) : Int)) = 60 - i := by omega
      rw [e]
      exact N₄
    · refine wpAny_pyNext_range_end (s := (⟨h, g, dr, tk, os⟩ : Shared)) hh hit (by omega) fun h' hsb => ?_
      obtain ⟨m, row, t, F, e, hz⟩ := X
      exact done h' tk ⟨m, row, t, keepBut F hI0.1 hI0.2 hsb, e, hz⟩
  · obtain ⟨m, row, t, F, e, hz⟩ := X
    exact ⟨m, row, t, F.extBut ((Heap.ExtBut.refl hs.objs.size hs).push _) (Nat.le_refl _), e, hz⟩
  · intro p hp
    obtain rfl := List.mem_singleton.mp hp
    exact ⟨Heap.get?_push_size _ rfl, hI0⟩
end
end Mine
end
section
open PySem PySem.W PyProof.Rows PySem.Calls
set_option maxRecDepth 100000
namespace Mine
open Builtin

theorem boot_ba : bootBuiltins "bytearray" = some (.type "bytearray") := by decide +kernel

/-- the row's first i octets -/
def pre (row : Array UInt8) (i : Nat) : Array UInt8 := KBy.picked row none (some (i : Int))
theorem pre_size {row : Array UInt8} {i : Nat} (h : i ≤ row.size) : (pre row i).size = i := by
  unfold pre
  rw [KBc.picked_eq, List.size_toArray, List.length_take, List.length_drop, Array.length_toList]
  show min (clipAt row.size i - 0) (row.size - 0) = i
  rw [clipAt_nat]
  omega

theorem grow {h₀ h h' : Heap} {L a : Addr} {m : Str → Option Value} {news : List (Addr × Obj)} {o : Obj} (F : Fr h₀ L h m) (N : News h₀ L h news) (hk : ∀ x o, h.get? x = some o → h'.get? x = some o) (hn : h.get? a = none) (hg : h'.get? a = some o) :
    Fr h₀ L h' m ∧ News h₀ L h' ((a, o) :: news) ∧ a ≠ L ∧ h₀.get? a = none := by
  have haL : a ≠ L := fun e => by
    subst e
    obtain ⟨o', _, _, ho, _⟩ := F.ns
    rw [hn] at ho; cases ho
  have ha0 : h₀.get? a = none := by
    cases q : h₀.get? a with
    | none => rfl
    | some o' => have := F.keep a o' q; rw [hn] at this; cases this
  refine ⟨⟨F.ns.at fun o e => hk L o e, fun b o e => hk b o (F.keep b o e), F.above⟩, fun p hp => ?_, haL, ha0⟩
  rcases List.mem_cons.mp hp with rfl | hp
  · exact ⟨hg, haL, ha0⟩
  · exact ⟨hk _ _ (N p hp).1, (N p hp).2⟩

section
variable {prog : Program} {w : World} {A : Around} {E : Value → Shared → Prop} {s : Shared} {value slice : PySem.Expr} {b : Array UInt8} {t : Tok} {h₀ : Heap} {L : Addr} {m : PySem.Str → Option Value} {news : List (Addr × Obj)} {Q : Value → Shared → Prop} {i : Nat} {tv : Tok}
theorem slice_row (hF : Fr h₀ L s.heap m) (hN : News h₀ L s.heap news) (hz : b.size = 60)
    (h : ∀ h' t' k, Fr h₀ L h' m → News h₀ L h' news → Q (.bytes (pre b i) t') { s with heap := h', toks := k })
    (hs : subscripted slice false (.bytes b t) (.ref s.heap.objs.size) = operate [.ref s.heap.objs.size, .bytes b t] (getItem (.bytes b t) (.ref s.heap.objs.size)) := by with_unfolding_all rfl)
    (ht : ∀ r, letTemporaryGo value (.bytes b t) r = pure () := by intro _; with_unfolding_all rfl) :
    wpAny (model prog w) A (subscriptTail value slice (.bytes b t) (.ref s.heap.objs.size)) Q E { s with heap := s.heap.push { cls := .type "slice", data := .fields #[.none, .int i tv, .none] } } :=
  KBc.slice_K hF hN rfl .none (.int _ _) (by rw [KBw.ints_length, hz]; decide) (fun h' t' k F' N' _ => h h' t' k F' N') hs ht
end
end Mine
end
section
open PySem PySem.W PyProof.Rows PySem.Calls
set_option maxRecDepth 100000
namespace Mine

theorem row60 (f : Int → Int) : (byteArr (List.map f (rangeKs 0 ((60 : Int) - 0).toNat))).size = 60 := by
  rw [byteArr_size, List.length_map]; rfl

theorem rowAt_of {h₀ h : Heap} {L : Addr} {m : Str → Option Value} {row : Array UInt8} {t : Tok} (F : Fr h₀ L h m) (e : m (PySem.Str.ofString "row") = some (.bytes row t)) (z : row.size = 60) : RowAt h₀ L h := ⟨m, row, t, F, e, z⟩

theorem whl_yes {n : Nat} {T F : Prop} (h : n % 4 ≠ 0) (t : T) : WhlIf (((n % 4 : Nat) : Int) != 0) T F := by
  refine WhlIf.yes ?_ t
  rw [bne_iff_ne]; omega
theorem whl_no {n : Nat} {T F : Prop} (h : n % 4 = 0) (f : F) : WhlIf (((n % 4 : Nat) : Int) != 0) T F := by
  refine WhlIf.no ?_ f
  rw [h]; rfl

/-- filled up to whole words -/
def pad (b : Array UInt8) : Array UInt8 := b ++ Array.replicate ((-(b.size : Int)).fmod 4).toNat 0
theorem pad_count (n : Nat) : ((-(n : Int)).fmod 4).toNat = (4 - n % 4) % 4 := by
  rw [Int.fmod_eq_emod_of_nonneg _ (by decide)]
  omega
theorem pad_size (b : Array UInt8) : (pad b).size = b.size + (4 - b.size % 4) % 4 := by
  unfold pad
  rw [Array.size_append, Array.size_replicate, pad_count]
theorem pad_0 {b : Array UInt8} (h : b.size % 4 = 0) : pad b = b := by
  unfold pad; rw [pad_count, h]; simp
theorem pad_1 {b : Array UInt8} (h : b.size % 4 = 1) : pad b = ((b.push 0).push 0).push 0 := by
  unfold pad; rw [pad_count, h]; apply Array.ext'; simp [List.replicate]
theorem pad_2 {b : Array UInt8} (h : b.size % 4 = 2) : pad b = (b.push 0).push 0 := by
  unfold pad; rw [pad_count, h]; apply Array.ext'; simp [List.replicate]
theorem pad_3 {b : Array UInt8} (h : b.size % 4 = 3) : pad b = b.push 0 := by
  unfold pad; rw [pad_count, h]; apply Array.ext'; simp [List.replicate]

section
variable {prog : Program} {w : World} {A : Around} {E : Value → Shared → Prop} {s : Shared} {b c : Array UInt8} {t u : Tok} {Q : Value → Shared → Prop}
theorem add_pad (hz : b.size ≤ 60) (h : ∀ t' k, (pad b).size = b.size + (4 - b.size % 4) % 4 → Q (.bytes (pad b) t') { s with toks := k }) :
    wpAny (model prog w) A (binaryOp .Add (.bytes b t) (.bytes (Array.replicate ((-(b.size : Int)).fmod 4).toNat 0) u)) Q E s :=
  KBy.add_bytes (by rw [Array.size_replicate, pad_count]; omega) fun t' k => h t' k (pad_size b)
theorem add_nul (hz : b.size ≤ 60) (h : ∀ t' k, (b.push 0).size = b.size + 1 → Q (.bytes (b.push 0) t') { s with toks := k }) :
    wpAny (model prog w) A (binaryOp .Add (.bytes b t) (.bytes #[0] u)) Q E s :=
  KBy.add_bytes (by show b.size + 1 ≤ _; omega) fun t' k => (by
    have e : b ++ #[0] = b.push 0 := by simp
    rw [e]
    exact h t' k (by simp))
theorem ne_same (e : b = c) (h : Q (.bool false) s) : wpAny (model prog w) A (compareOp .NotEq (.bytes b t) (.bytes c u)) Q E s := by
  refine ne_bytes ?_
  subst e
  have : (b.toList != b.toList) = false := by simp
  rw [this]; exact h
theorem len_by (hz : b.size ≤ 64) (h : Q (.int b.size (s.toks + 1)) { s with toks := s.toks + 1 + 1 }) : wpAny (model prog w) A (call (.builtin "len") [.bytes b t]) Q E s := len_bytes (by omega) h
theorem mod_four {n : Nat} {k : Tok} (h : ∀ t', Q (.int ((n % 4 : Nat) : Int) t') { s with toks := s.toks + 1 }) : wpAny (model prog w) A (binaryOp .Mod (.int (n : Int) t) (.int 4 k)) Q E s := by
  refine mod_int (by decide) ?_
  have e : (n : Int).fmod 4 = ((n % 4 : Nat) : Int) := by
    rw [Int.fmod_eq_emod_of_nonneg _ (by decide)]; omega
  rw [e]
  exact h _
end
end Mine
end
section
open PySem PySem.W PyProof.Rows PySem.Calls
set_option maxRecDepth 100000
namespace Mine
section
variable {prog : Program} {w : World} {A₀ A : Around} {s : Shared} {base h₀ : Heap} {L : Addr} {m : Str → Option Value} {env : Env} {news : List (Addr × Obj)} {K : Frag} {p : Program} {loose : List Str} {mean : ExcName → Option Value} {mg mb : Str → Option Value}
    {R : Result → Shared → Prop} {name qual : Str} {params : Arguments} {body : List Stmt} {scope : Scope} {dV kV doc pm cdv ct oc : Value} {an od : Option Addr} {osl : Array (Option Value)} {f : Addr} {args : Args} {binds : List (Str × Value)}

/-- a call out of a lone frame of any kind into a def that catches -/
theorem code_try0 (B : Below A₀ base [] h₀) (F : Fr h₀ L s.heap m) (X₀ : K.In h₀) (N : News h₀ L s.heap news) (T : Top p loose mean mg mb h₀) (hA : A.frames = some [env]) (hf : env.frame = some L) (hke : env.scope.kind = .function)
    (ho : K.lookup f = some ⟨oc, od, .func (fnOf name qual params body scope dV kV doc pm an cdv ct), osl⟩) (hcd : codeIn K cdv qual = true) (hroom : A.depth < recursionLimit)
    (hbind : BindsTo s (fnOf name qual params body scope dV kV doc pm an cdv ct) args binds) (hloc : ∀ y ∈ binds, scope.names.lookup y.1 = some .local)
    (h : ∀ g L' h₁, Fr h₀ L g m → Fr g L' h₁ (fun y => binds.reverse.lookup y) → News g L' h₁ news → Below A base [env] g → K.In g → Top p loose mean mg mb g → KtsDicts ([env].filterMap (·.frame)) g →
      wpAny (model prog w) (A.deeper (envOf qual scope L' f cdv)) (execs body (envOf qual scope L' f cdv))
        (fun fl s' => LeaveS0 ([env].filterMap (·.frame)) h₀ L m g R (match fl with | .ret v => v | _ => .none) s')
        (fun e s' => wpAny (model prog w) (A.deeper (envOf qual scope L' f cdv)) (leaving (envOf qual scope L' f cdv) e) (fun _ s'' => R (.error e) s'') (fun e' s'' => R (.error e') s'') s')
        { s with heap := h₁, toks := s.toks + binds.length })
    (hco : scope.isCoroutine = false) (hgen : scope.isGenerator = false) (hk : scope.kind = .function)
    (hcell : ∀ x ∈ scope.names, x.2 ≠ .cell) : codeAny (model prog w) A (.call (.ref f) args) R s := by
  have X := X₀.keeps F.keep
  have fs : [env].filterMap (·.frame) = [L] := by simp [hf]
  refine codeAny_call_def (fd := fnOf name qual params body scope dV kV doc pm an cdv ct) (body := body) (binds := binds) hroom (X _ _ ho) rfl (T.nolimit.keeps F.keep) (codeRec_of X hcd) rfl hbind hcell hloc (fun h₁ hns hk₁ => ?_) hco hgen hk
  obtain ⟨FG, BG, st, _⟩ := groundX (R := fun _ _ => True) B F N hA hf hke
  obtain ⟨oL, es, ep, hLg, hLd, hLk, hLf⟩ := FG.ns
  rw [fs] at h
  refine wpAny_mono (h _ s.heap.objs.size h₁ ⟨⟨oL, es, ep, hLg, hLd, hLk, hLf⟩, st, F.above⟩ ⟨hns, fun b o e => hk₁ b o (of_hideAll _ e), Nat.le_of_eq (hideAll_size _ _)⟩
    (fun p hp => ⟨hk₁ _ _ (N p hp).1, Nat.ne_of_lt (Heap.lt_size (N p hp).1), hideAll_none _ (List.mem_map_of_mem hp)⟩) BG (X₀.keeps st) (T.keeps st) (fun b hb => by
      obtain rfl := List.mem_singleton.mp hb
      exact ⟨oL, es, ep, hLg, hLd⟩)) (fun fl s' hl => ?_) fun _ _ y => y
  obtain ⟨g', L', m', news', T', F', N', k⟩ := hl
  obtain ⟨sl, hs⟩ := T'.frame _ _ hLg (List.mem_singleton.mpr rfl)
  have nL₀ : h₀.get? L = none := kts_self F
  refine k ⟨⟨_, es, ep, F'.keep _ _ hs, hLd, hLk, hLf⟩, fun b o e => F'.keep b o (T'.other b o (st b o e) fun q => ?_), F.above⟩ fun p hp => ⟨(N' p hp).1, fun q => ?_, ?_⟩
  · obtain rfl := List.mem_singleton.mp q
    rw [nL₀] at e; cases e
  · have := (N' p hp).2.2
    rw [q, hs] at this; cases this
  · cases q : h₀.get? p.1 with
    | none => rfl
    | some o =>
      have e := T'.other _ _ (st _ _ q) fun z => by
        rw [List.mem_singleton.mp z, nL₀] at q; cases q
      have := (N' p hp).2.2
      rw [e] at this; cases this
end
end Mine
end
section
open PySem PySem.W PyProof.Rows PySem.Calls
set_option maxRecDepth 100000
namespace Mine

/-- ask whether the stack holds a code that may hold a bytearray's memory -/
def guarded {α : Type} (x : α) (t : Sem α) : Sem α := .stack fun st => if st.all fun q => freeCode q.1 then t else .pure x

theorem guarded_dirty {α : Type} {M : Model} {A : Around} {x : α} {t : Sem α} {Q : α → Shared → Prop} {E : Value → Shared → Prop} {s : Shared}
    (h : wpAny M A (guarded x t) Q E s) : wpC M A t Q E s ∧ ∀ Γ : Ctx, ∀ p : Pos, Γ.In A → ¬ FreeC Γ → Q x s := by
  have key : ∀ Γ p, Γ.In A → Sem.wp M Γ (if ((Γ.code, p) :: Γ.below).all fun q => freeCode q.1 then t else .pure x) (fun a _ s' => Q a s') (fun e _ s' => E e s') p s := fun Γ p hΓ => h Γ p hΓ
  refine ⟨fun Γ p hΓ hF => ?_, fun Γ p hΓ hF => ?_⟩
  · have k := key Γ p hΓ
    rw [if_pos] at k
    · exact k
    · rw [List.all_eq_true]
      intro q hq
      rcases List.mem_cons.mp hq with rfl | hq
      · exact hF.1
      · exact hF.2 q hq
  · have k := key Γ p hΓ
    rw [if_neg] at k
    · exact k
    · intro hc
      rw [List.all_eq_true] at hc
      exact hF ⟨hc (Γ.code, p) (List.mem_cons_self ..), fun q hq => hc q (List.mem_cons_of_mem _ hq)⟩

theorem guarded_of {α : Type} {M : Model} {A : Around} {x : α} {t : Sem α} {Q : α → Shared → Prop} {E : Value → Shared → Prop} {s : Shared}
    (h : wpC M A t Q E s) (hd : ∀ Γ : Ctx, ∀ p : Pos, Γ.In A → ¬ FreeC Γ → Q x s) : wpAny M A (guarded x t) Q E s := fun Γ p hΓ => by
  show Sem.wp M Γ (if ((Γ.code, p) :: Γ.below).all fun q => freeCode q.1 then t else .pure x) (fun a _ s' => Q a s') (fun e _ s' => E e s') p s
  split
  · next hc =>
    rw [List.all_eq_true] at hc
    exact h Γ p hΓ ⟨hc (Γ.code, p) (List.mem_cons_self ..), fun q hq => hc q (List.mem_cons_of_mem _ hq)⟩
  · next hc =>
    refine hd Γ p hΓ fun hF => hc ?_
    rw [List.all_eq_true]
    intro q hq
    rcases List.mem_cons.mp hq with rfl | hq
    · exact hF.1
    · exact hF.2 q hq

theorem guarded_step {p : Program} {w : World} {s : Shared} (x : Fin) (t : Sem Fin) (hz : s.asleep) :
    sstep (denote table) p w (.single s ⟨guarded x t, .builtin "claim.caller" {}, default, []⟩) = .go (.single s ⟨t, .builtin "claim.caller" {}, default, []⟩) := by
  rcases sstep_single (den := denote table) (prog := p) w s ⟨guarded x t, .builtin "claim.caller" {}, default, []⟩ rfl hz with e | e
  · rw [e]; rfl
  · cases e

theorem guarded_sched {p : Program} {w : World} {s s' : Shared} {o : Outcome} {n : Nat} (x : Fin) (t : Sem Fin) (hz : s.asleep)
    (h : schedN (denote table) p w n (.single s ⟨guarded x t, .builtin "claim.caller" {}, default, []⟩) = .halted o s') :
    ∃ m, schedN (denote table) p w m (.single s ⟨t, .builtin "claim.caller" {}, default, []⟩) = .halted o s' := by
  cases n with
  | zero => cases h
  | succ m =>
    refine ⟨m, ?_⟩
    unfold schedN at h
    rw [guarded_step x t hz] at h
    exact h

theorem unguard {c : ClaimW} {tree : List Value → Sem Fin} {x : Fin} {defs keeps : List Str} {writes : Bool}
    (h : c.HoldsOpenBy (fun vs => ⟨guarded x (tree vs), .builtin "claim.caller" {}, default, []⟩) defs keeps writes) :
    c.HoldsOpenBy (fun vs => ⟨tree vs, .builtin "claim.caller" {}, default, []⟩) defs keeps writes := by
  obtain ⟨h1, h2, h3⟩ := h
  refine ⟨h1, h2, fun w => ⟨(h3 w).1, fun s hs => ?_⟩⟩
  obtain ⟨s₀, hf, hg, s₁, hT, hd, hr, hr2, hc⟩ := (h3 w).2 s hs
  have z : s₀.asleep := Shared.asleep_of_life (fence_lifeW hf) (AfterImport.life (show AfterImport _ w s from hs))
  have z1 : s₁.asleep := Shared.asleep_of_life hT.2.1 z
  refine ⟨s₀, hf, hg, s₁, hT, hd, hr, hr2, fun args a1 a2 ord a3 => ?_⟩
  obtain ⟨vs, s₂, hl, n, o, s', hn, rest⟩ := hc args a1 a2 ord a3
  obtain ⟨m, hm⟩ := guarded_sched x (tree vs) (Shared.asleep_of_life (layAllW_rest _ _ _ hl).2.2.2 z1) hn
  exact ⟨vs, s₂, hl, m, o, s', hm, rest⟩

/-- a law's walk that may count on a free stack -/
abbrev WalkC (q : Program) (loose : List Str) (XP : (Str → Option Value) → Heap → Prop) (YP : World → Heap → Prop) (r : RowW) (d : DefRec) (kwd : List (Str × Expr)) : Prop :=
  ∀ (w : World) (s₀ s₁ : Shared) (mg mb : Str → Option Value), Ground q loose r.records XP w s₀ mg mb s₁.heap → YP w s₁.heap → ∀ (a : Addr) (o : Obj) (pm cd doc dV kV : Value), s₁.heap.get? a = some o →
    o.data = .func { docDef d.name d.params d.body d.scope pm cd doc with defaults := dV, kwdefaults := kV } → s₁.heap.CodeRec cd d.name → Dflts mg s₁.heap d.params kwd dV kV → mg d.name = some (.ref a) → s₁.gens = #[] →
    ∀ (args : List WData) (vals : List Value) (as : List Addr), r.claim.pre args = true → WData.layableAll args = true → ReadsAllW r.records (classAt s₀.heap) s₁.heap vals args as → WellAll w.params s₁.heap vals args → (∀ a ∈ as, (a == sysModules) = false) →
      GoodWG r.claim (classAt s₀.heap) (ExcName.means s₀.heap) args s₁ (.ok (.ret (.bool true))) s₁ ∧
      wpC (model r.prog w) callerA (PySem.call (.ref a) vals) (fun v s' => GoodWG r.claim (classAt s₀.heap) (ExcName.means s₀.heap) args s₁ (.ok (.ret v)) s')
        (fun e s' => GoodWG r.claim (classAt s₀.heap) (ExcName.means s₀.heap) args s₁ (.error e) s') s₁

/-- the law's rest, behind its first four statements -/
abbrev TurnsC (q : Program) (loose : List Str) (XP : (Str → Option Value) → Heap → Prop) (YP : World → Heap → Prop) (r : RowW) (d : DefRec) (kwd : List (Str × Expr)) : Prop :=
  ∀ (w : World) (s₀ s₁ : Shared) (mg mb : Str → Option Value), Ground q loose r.records XP w s₀ mg mb s₁.heap → YP w s₁.heap → ∀ (a : Addr) (o : Obj) (pm cd doc dV kV : Value), s₁.heap.get? a = some o →
    o.data = .func { docDef d.name d.params d.body d.scope pm cd doc with defaults := dV, kwdefaults := kV } → s₁.heap.CodeRec cd d.name → Dflts mg s₁.heap d.params kwd dV kV → mg d.name = some (.ref a) → s₁.gens = #[] →
    ∀ (args : List WData) (vals : List Value) (as : List Addr), r.claim.pre args = true → WData.layableAll args = true → ReadsAllW r.records (classAt s₀.heap) s₁.heap vals args as → WellAll w.params s₁.heap vals args → (∀ a ∈ as, (a == sysModules) = false) →
      ∀ h tk, RowAt s₁.heap s₁.heap.objs.size h → wpC (model r.prog w) (callerA.deeper (envOfC d.name d.scope s₁.heap.objs.size a cd)) (execs (d.body.drop 4) (envOfC d.name d.scope s₁.heap.objs.size a cd))
        (fun f s' => GoodWG r.claim (classAt s₀.heap) (ExcName.means s₀.heap) args s₁ (.ok (.ret (match f with | .ret v => v | _ => .none))) s') (fun _ _ => False) { s₁ with heap := h, toks := tk }
abbrev Cut (q : Program) (loose : List Str) (XP : (Str → Option Value) → Heap → Prop) (YP : World → Heap → Prop) (r : RowW) (d : DefRec) (kwd : List (Str × Expr)) : Prop := TurnsC q loose XP YP r d kwd → WalkC q loose XP YP r d kwd

end Mine
namespace Mine.PySem.W
theorem holds_open {r : OpenRow} {q : Program} {loose : List Str} {Xt : Shared → Bool} {XP : (Str → Option Value) → Heap → Prop} {α : Type} {Yf : Shared → α} {Ya : World → α} {YP : World → Heap → Prop} {d : DefRec} {kwd : List (Str × Expr)} {N : Nat}
    (left : LeftO r.prog q loose Xt Yf Ya N) (hY : ∀ w s, Yf s = Ya w → YP w s.heap) (hYk : ∀ w h h', YP w h → (∀ b o, h.get? b = some o → h'.get? b = some o) → YP w h')
    (hX : ∀ s, Xt s = true → XP (s.heap.nsMap mainGlobals) s.heap) (hXk : ∀ mg h h', XP mg h → (∀ b o, h.get? b = some o → h'.get? b = some o) → XP mg h')
    (hdef : defOf q r.name = some (d, kwd)) (hp : r.prog.theDef r.name = some (d.params, d.body, d.scope)) (hk : kwWritten? d.params.kwonlyargs d.params.kw_defaults = some kwd) (hRf : ∀ s, Xt s = true → RecFacts r.records s.heap) (hwr : (!r.writes || r.records.isEmpty) = true)
    (k1 : r.wellSaid = true) (ok : (chainsOk q && opensWell r.prog && (frees r.toRowW && r.within.isEmpty)) = true) (hb : r.prog.bare) (hw : r.toRowW.promised)
    (call : WalkC q loose XP YP r.toRowW d kwd) : r.Holds := by
  refine ⟨k1, hw, unguard (x := .done (.ret (.bool true))) (tree := fun vs => do match ← nsGet mainNs r.name with
      | some f => do ret (← PySem.call f vs)
      | none => unsupported "claim.caller:no-such-global")
    (open_anyG (r := r.toRowW) (run := fun f vs => guarded (.bool true) (PySem.call f vs)) left hY hYk hX hXk hRf hwr ok hb hw
    (fun vs w s mg f Q E hg hf h => ?_)
    (fun w s hg G n hn => ?_) fun w s₀ s₁ mg mb G Y args vs as hpre hlay L low => ?_)⟩
  · obtain ⟨k, kd⟩ := guarded_dirty h
    refine guarded_of (wpC_bind (wpC_of (wpAny_nsGet hg ?_))) kd
    rw [hf]
    exact wpC_bind (wpC_mono k (fun _ _ x => wpC_pure x) fun _ _ x => x)
  · obtain rfl : n = r.name := by split at hn <;> simp_all
    exact pinned_of_view hg G hdef hp hk
  · obtain ⟨a, o, pm, cd, doc, dV, kV, h1, h2, h3, h4, h5⟩ := G.fn hdef
    obtain ⟨c1, c2⟩ := call w s₀ s₁ mg mb G Y a o pm cd doc dV kV h2 h3 h4 h5 (defOf_name hdef ▸ h1) L.gens args vs as hpre hlay L.reads L.well (L.low low)
    exact ⟨.ref a, h1, guarded_of c2 fun _ _ _ _ => c1⟩

end Mine.PySem.W
namespace Mine
set_option maxRecDepth 100000 in
set_option maxHeartbeats 8000000 in
open_top hd for PySem.Challenge.rw_xw0321_01
end Mine
end
section
open PySem PySem.W PyProof.Rows PySem.Calls
set_option maxRecDepth 100000
namespace Mine
section
variable {prog : Program} {w : World} {P : Params} {A : Around} {E : Value → Shared → Prop} {s : Shared} {h₀ : Heap} {L a : Addr} {m mg mb : Str → Option Value} {cn : Str} {cs : Scope} {ccd : Value} {p : Program} {loose : List Str}
theorem raise_size {z : Str} {kk : Nat} {np cpos pos zp : Pos} {Q : Flow → Shared → Prop}
    (F : Fr h₀ L s.heap m) (X : (hd.heap_39 P).In h₀) (T : TopRead p loose mg mb h₀) (hh : A.handled = none) (hroom : A.depth + 1 < recursionLimit)
    (h : ∀ h' tk' e, NewExcV s.heap h' e (.ref 44) → E (.ref e) { s with heap := h', toks := tk' })
    (hk : cs.kind = .function := by rfl) (hx : (envOf cn cs L a ccd).kindOf (PySem.Str.ofString "SizeError") = some .globalImplicit := by rfl) :
    wpAny (model prog w) A (exec (.Raise (some (.Call (.Name (PySem.Str.ofString "SizeError") np) [.Constant (.str z) kk zp] [] cpos)) none pos) (envOf cn cs L a ccd)) Q E s :=
  raise_K (C := 44) (N := 43) (fI := 28) (bm := [.ref 31, .type "Exception", .type "BaseException", .type "object"]) F X T hh hroom (by kernel_rfl) (by rfl) (by kernel_rfl) (by kernel_rfl) (by kernel_rfl)
    PySem.F.excBase_Exception (by decide +kernel) (by decide +kernel) (by decide +kernel) (by decide +kernel) (by decide +kernel)
    (fun x => by rw [refuseLoop_ref]; exact Ft.pass_exc _) (by rfl) (by rfl) (by rfl) (by rfl) (by rfl) (by rfl) (by rfl) h hk hx (by decide)
end
end Mine
end
section
open PySem PySem.W PyProof.Rows
namespace Mine
local macro_rules | `(tactic| walk_at "call type:bytes") => `(tactic| (k_here; (with_reducible show wpAny _ _ (call (Value.type "bytes") [Value.bytes _ _]) _ _ _); refine call_bytes_bytes ?_))
local macro_rules | `(tactic| walk_at "call type:bytes") => `(tactic| (k_here; (with_reducible show wpAny _ _ (call (Value.type "bytes") [Value.int _ _]) _ _ _); refine call_bytes_int (by kba_idx) (by kba_idx) ?_; intro _ _))
local macro_rules | `(tactic| walk_at "subscriptTail Name Slice bytes ref") => `(tactic| (k_here; (with_reducible show wpAny _ _ (subscriptTail _ (PySem.Expr.Slice none (some _) none _) (Value.bytes _ _) (Value.ref _)) _ _ _); (refine' slice_row ?F ?N ?z ?_ ?s ?t; (case F => k_asm); (case N => k_asm); (case z => assumption); (case s => with_unfolding_all rfl); (case t => (intro _; with_unfolding_all rfl))); intro h' t' k' F' N'))
local macro_rules | `(tactic| walk_at "eval Name") => `(tactic| ((with_reducible show wpAny _ _ (eval (PySem.Expr.Name (PySem.Str.ofString "bytearray") _) _) _ _ _); (with_reducible refine inCells ?_); with_unfolding_all refine glC_builtin (by assumption) (by assumption) boot_ba ?_))
local macro_rules | `(tactic| walk_at "binaryOp Add bytes bytes") => `(tactic| (k_here; first | ((with_reducible refine add_pad (by omega) ?_); intro _ _ _) | ((with_reducible refine add_nul (by omega) ?_); intro _ _ _)))
local macro_rules | `(tactic| walk_at "binaryOp Mod int int") => `(tactic| (k_here; (with_reducible refine mod_four ?_); intro _))
local macro_rules | `(tactic| walk_at "call builtin:len") => `(tactic| (k_here; (with_reducible refine len_by (by omega) ?_)))
local macro_rules | `(tactic| walk_at "call builtin:len") => `(tactic| (k_here; (with_reducible show wpAny _ _ (call (Value.builtin "len") [Value.ref _]) _ _ _); (with_reducible rename News _ _ _ _ => Nq); refine' len_ba (News.get Nq ?m) ?z ?_; (case m => k_mem); (case z => omega)))
local macro_rules | `(tactic| walk_at "call type:bytes") => `(tactic| (k_here; (with_reducible show wpAny _ _ (call (Value.type "bytes") [Value.ref _]) _ _ _); (with_reducible rename News _ _ _ _ => Nq); refine' call_bytes_ba (News.get Nq ?m) ?z ?_; (case m => k_mem); (case z => omega); intro _ _))
local macro_rules | `(tactic| walk_at "compareOp NotEq bytes bytes") => `(tactic| (k_here; first | (with_reducible refine ne_same rfl ?_) | (with_reducible refine ne_same (pad_0 (by omega)) ?_) | (with_reducible refine ne_same (pad_1 (by omega)) ?_) | (with_reducible refine ne_same (pad_2 (by omega)) ?_) | (with_reducible refine ne_same (pad_3 (by omega)) ?_)))
local macro_rules | `(tactic| walk_at "call ref") => `(tactic| (k_here; kts_any; (refine wpAny_call ?_); k_dflt (refine' code_try0 ?k1 ?k2 ?k3 ?k4 ?k5 ?kA ?kf ?ke ?k6 ?k7 ?k8 ?k9 ?kB ?_ ?c2 ?c3 ?c4 ?c5; (case kA => exact rfl); (case kf => exact rfl); (case ke => exact rfl); (case k2 => k_asm); (case k1 => k_asm); (case k3 => k_asm); (case k4 => k_asm); (case k5 => k_asm); (case k6 => k_is); (case k7 => k_is); (case k8 => k_room); (case k9 => first | exact binds_K (by k_in) rfl (by k_is) rfl rfl rfl | exact BindsTo.of_eq rfl); (case kB => exact locs rfl); (case c2 => exact rfl); (case c3 => exact rfl); (case c4 => exact rfl); (case c5 => decide); k_whole); intro g' L' h' FG' F' N' B' X' T' D'; (try dsimp only); (try k_lift B'); (try k_fold)))
local macro_rules | `(tactic| walk_at "exec Raise some none") => `(tactic| (k_here; (with_reducible rename Fr _ _ _ _ => kF); k_dflt (refine' raise_size kF ?X ?T ?hh ?room ?_; (case X => k_asm); (case T => k_asm); (case hh => rfl); (case room => k_room); k_whole); intro h' tk' e' hx'))
local macro_rules | `(tactic| walk_at "leaving ref") => `(tactic| (k_here; (with_reducible rename KtsDicts _ _ => kdX); refine' leave_newV ?k1 ?k0 ?k2 ?k3 ?_; (case k0 => assumption); (case k2 => assumption); (case k1 => assumption); (case k3 => k_asm); k_whole; intro h' S' R' U'; (try dsimp only at S' R' U' ⊢)))
local macro_rules | `(tactic| walk_at "WhlIf") => `(tactic| first | (with_reducible refine whl_no (by omega) ?_) | (with_reducible refine whl_yes (by omega) ?_))
set_option maxRecDepth 100000 in
set_option maxHeartbeats 8000000 in
def half := fun (p : Cut _ _ _ _ _ _ _) => hd (p (by
  k_fill
  intro w s₀ s₁ mg mb G Y fa o pm cd doc dV kV ho hd hcd hD hmg hg args vals as hpre hlay hrd hwl hlo h tk X9
  have KX := kIn_of Y
  have X := (Ground.X G).1
  have V := (Ground.X G).2
  try w_nolog (first | (have GL := glob_more (Ground.glob G (by first | k_qdec | decide +kernel) (by first | k_qdec | decide +kernel)) V) | (have GL := glob_more (Ground.glob G (by decide +kernel)) V))
  refine Ground.open G ?_
  intro T B D TE TW
  try (refine guard_noD D (by decide +kernel) ?_; clear D)
  obtain ⟨_, _, M⟩ := bmod_of_top T
  have TA := at_of_top T
  try (obtain ⟨_, _, he, B0⟩ := based_of_top T rfl hmg ho hd; have he' : cd = _ := he; subst he'; clear he)
  clear hmg
  wrow_args hpre hlay hrd hwl hlo
  w_top on
  refine wpC_mono ?_ (fun _ _ g => GoodW.toG g) (fun _ _ x => x)
  have K0 := below_caller (Top.heap T)
  have he := Dflts.none hD rfl; subst he; have he := Dflts.noKw hD; subst he
  clear hd TA
  k_drop
  dsimp only [List.drop]
  all_goals try k_fold
  obtain ⟨m, row, t, F, hz⟩ := X9.frame
  clear X9
  have N := (News.nil : News _ _ _ []).at F
  refine wpC_cons (wpC_For ?_)
  k_steps
  rename IsRange _ _ _ _ _ _ _ _ => hr
  rename Fr _ _ _ _ => F2
  refine rows_loop (L := s₁.heap.objs.size) (g := s₁.gens) (dr := s₁.drawn) (os := s₁.os) rfl rfl hr ⟨_, row, t, F2, rfl, hz⟩ rfl ?turn ?done
  case done =>
    clear hr F2 hz
    intro h tk X
    obtain ⟨m, row, t, F, hz⟩ := X.frame
    have N := (News.nil : News _ _ _ []).at F
    show wpC _ _ _ _ _ _
    refine wpC_of ?_
    k_steps
  clear hr F2 hz
  repeat (rename Fr _ _ _ _ => q; clear q)
  repeat (rename News _ _ _ _ => q; clear q)
  clear row t m
  intro i I h tk tv m row t hi F hz N
  refine wpC_cons (wpC_pair (names := [PySem.Str.ofString "octets", PySem.Str.ofString "changing"]) ?_)
  k_steps
  · rw [pre_size (by omega)]; omega
  rename_i h' a hk hn hg
  rename Fr _ _ _ _ => Fx
  rename News _ _ _ _ => Nx
  obtain ⟨Fy, Ny, ha1, ha2⟩ := grow Fx Nx hk hn hg
  clear hk hn hg Fx Nx
  k_steps
  show wpC _ _ _ _ _ _
  refine wpC_of ?_
  have hb := pre_size (row := row) (i := i) (by omega)
  generalize pre row i = b at *
  dsimp only
  have h4 : (40 < i) ∨ (i ≤ 40 ∧ i % 4 = 0) ∨ (i ≤ 40 ∧ i % 4 = 1) ∨ (i ≤ 40 ∧ i % 4 = 2) ∨ (i ≤ 40 ∧ i % 4 = 3) := by omega
  rcases h4 with h4 | ⟨h4, h5⟩ | ⟨h4, h5⟩ | ⟨h4, h5⟩ | ⟨h4, h5⟩
  · k_steps
    · exact ⟨_, row, t, by assumption, rfl, hz⟩
    · (rename News _ _ _ _ => Nz); exact fun p hp => Nz p (List.mem_cons_of_mem _ (List.mem_cons_of_mem _ hp))
  · k_steps
    · exact ⟨_, row, t, by assumption, rfl, hz⟩
    · (rename News _ _ _ _ => Nz); exact fun p hp => Nz p (List.mem_cons_of_mem _ (List.mem_cons_of_mem _ hp))
  · k_steps
    · exact ⟨_, row, t, by assumption, rfl, hz⟩
    · (rename News _ _ _ _ => Nz); exact fun p hp => Nz p (List.mem_cons_of_mem _ (List.mem_cons_of_mem _ hp))
  · k_steps
    · exact ⟨_, row, t, by assumption, rfl, hz⟩
    · (rename News _ _ _ _ => Nz); exact fun p hp => Nz p (List.mem_cons_of_mem _ (List.mem_cons_of_mem _ hp))
  · k_steps
    · exact ⟨_, row, t, by assumption, rfl, hz⟩
    · (rename News _ _ _ _ => Nz); exact fun p hp => Nz p (List.mem_cons_of_mem _ (List.mem_cons_of_mem _ hp))))

set_option maxRecDepth 100000 in
set_option maxHeartbeats 8000000 in
theorem whole : PySem.Challenge.rw_xw0321_01.Holds := half (by
  intro turns
  k_fill
  intro w s₀ s₁ mg mb G Y fa o pm cd doc dV kV ho hd hcd hD hmg hg args vals as hpre hlay hrd hwl hlo
  have rest := turns w s₀ s₁ mg mb G Y fa o pm cd doc dV kV ho hd hcd hD hmg hg args vals as hpre hlay hrd hwl hlo
  clear turns
  have KX := kIn_of Y
  have X := (Ground.X G).1
  have V := (Ground.X G).2
  try w_nolog (first | (have GL := glob_more (Ground.glob G (by first | k_qdec | decide +kernel) (by first | k_qdec | decide +kernel)) V) | (have GL := glob_more (Ground.glob G (by decide +kernel)) V))
  refine Ground.open G ?_
  intro T B D TE TW
  try (refine guard_noD D (by decide +kernel) ?_; clear D)
  obtain ⟨_, _, M⟩ := bmod_of_top T
  have TA := at_of_top T
  try (obtain ⟨_, _, he, B0⟩ := based_of_top T rfl hmg ho hd; have he' : cd = _ := he; subst he'; clear he)
  clear hmg
  wrow_args hpre hlay hrd hwl hlo
  refine ⟨?good, enter_callC ?_⟩
  case good =>
    refine GoodW.toG ⟨.inl ⟨.bool true, .bool true, [], rfl, raisesW_false ?_, .bool true, ?_, unshared_nil⟩, fun _ _ e => e, rfl, hg⟩
    · wrow_none_raised
    · first | wrow_post | kc_post
  w_top on
  have K0 := below_caller (Top.heap T)
  have he := Dflts.none hD rfl; subst he; have he := Dflts.noKw hD; subst he
  refine call_cellsC (by decide) ho (fd_plain hd) (Top.nolimit T) hcd rfl (kinds_of (by kinds_ok)) (by decide) fun h₁ tk₁ cells F N0 X0 => ?_
  cells_open X0
  clear hd TA
  k_drop
  refine split4 (h₀ := Top.heap T) (L := s₁.heap.objs.size) rest ?_
  clear rest
  all_goals try k_fold
  refine wpC_of ?_
  k_steps
  all_goals ((rename Fr _ _ _ _ => Fz); exact rowAt_of Fz rfl (row60 _)))
end Mine
end
open PySem PySem.W PyProof.Rows
set_option maxRecDepth 100000 in
set_option maxHeartbeats 8000000 in
theorem PySem.Challenge.cw_xw0321_01_holds : PySem.Challenge.rw_xw0321_01.Holds := by
  exact Mine.whole

import PyProof.Rows.All
import Wide.All
import OpenK.AllK
import Wide.FinOn
import Lean
import PySem.Challenge.RW_xm0716_01
set_option Elab.async false
set_option maxRecDepth 100000
set_option maxHeartbeats 8000000
set_option compiler.extract_closed false
section
open PySem PySem.W PySem.Calls PyProof.Rows
namespace Mine
open PySem.Builtin PySem.Builtin.Bytes
/-- no decoder that holds its first argument -/
def Clean : Code → Prop
  | .builtin i _ => decodersThatHold.contains i = false
  | _ => True
def CleanC (Γ : Ctx) : Prop := Clean Γ.code ∧ ∀ x ∈ Γ.below, Clean x.1
/-- wpAny over the stacks without such decoders -/
def WS {α : Type} (M : Model) (A : Around) (t : Sem α) (Q : α → Shared → Prop) (E : Value → Shared → Prop) (s : Shared) : Prop :=
  ∀ Γ p, Γ.In A → CleanC Γ → Sem.wp M Γ t (fun a _ s' => Q a s') (fun e _ s' => E e s') p s
def CS (M : Model) (A : Around) (c : Code) (R : Result → Shared → Prop) (s : Shared) : Prop :=
  ∀ Γ p, Γ.code = c → Γ.Below A → (∀ x ∈ Γ.below, Clean x.1) → wpCode M Γ R p s
section
variable {α β : Type} {M : Model} {A : Around} {E : Value → Shared → Prop} {s : Shared}
theorem ws {t : Sem α} {Q : α → Shared → Prop} (h : wpAny M A t Q E s) : WS M A t Q E s := fun Γ p hΓ _ => h Γ p hΓ
theorem cs {c : Code} {R : Result → Shared → Prop} (h : codeAny M A c R s) : CS M A c R s := fun Γ p hc hΓ _ => h Γ p hc hΓ
theorem ws_pure {a : α} {Q : α → Shared → Prop} (h : Q a s) : WS M A (pure a) Q E s := fun _ _ _ _ => h
theorem ws_mono {t : Sem α} {Q Q' : α → Shared → Prop} {E' : Value → Shared → Prop} (h : WS M A t Q E s)
    (hQ : ∀ a s, Q a s → Q' a s) (hE : ∀ e s, E e s → E' e s) : WS M A t Q' E' s :=
  fun Γ p hΓ hc => Sem.wp_mono M Γ t (fun a _ s => hQ a s) (fun e _ s => hE e s) p s (h Γ p hΓ hc)
theorem ws_bind {m : Sem α} {f : α → Sem β} {Q : β → Shared → Prop} (h : WS M A m (fun a s' => WS M A (f a) Q E s') E s) :
    WS M A (m >>= f) Q E s := fun Γ p hΓ hc => by
  rw [Sem.wp_bind']
  exact Sem.wp_mono M Γ m (fun a p' s' h' => h' Γ p' hΓ hc) (fun _ _ _ h' => h') p s (h Γ p hΓ hc)
/-- the first part may be walked by the library's rules -/
theorem ws_bindA {m : Sem α} {f : α → Sem β} {Q : β → Shared → Prop} (h : wpAny M A m (fun a s' => WS M A (f a) Q E s') E s) :
    WS M A (m >>= f) Q E s := ws_bind (ws h)
theorem ws_tryCatch {m : Sem α} {k : Value → Sem α} {Q : α → Shared → Prop} (h : WS M A m Q (fun e s' => WS M A (k e) Q E s') s) :
    WS M A (tryCatch m k) Q E s := fun Γ p hΓ hc => by
  rw [Sem.wp_tryCatch']
  exact Sem.wp_mono M Γ m (fun _ _ _ h' => h') (fun e p' s' h' => h' Γ p' hΓ hc) p s (h Γ p hΓ hc)
theorem ws_onRaise {m : Sem α} {k : Value → Sem Unit} {Q : α → Shared → Prop}
    (h : WS M A m Q (fun e s' => wpAny M A (k e) (fun _ s'' => E e s'') E s') s) : WS M A (m.onRaise k) Q E s := fun Γ p hΓ hc => by
  rw [Sem.wp_onRaise]
  exact Sem.wp_mono M Γ m (fun _ _ _ h' => h') (fun e p' s' h' => h' Γ p' hΓ) p s (h Γ p hΓ hc)
theorem ws_attempt {m : Sem α} {Q : Except Value α → Shared → Prop} (h : WS M A m (fun a => Q (.ok a)) (fun e => Q (.error e)) s) :
    WS M A m.attempt Q E s := fun Γ p hΓ hc => by rw [Sem.wp_attempt]; exact h Γ p hΓ hc
theorem ws_holding {vs : List Value} {m : Sem α} {Q : α → Shared → Prop} (h : WS M A m Q E s) : WS M A (holding vs m) Q E s :=
  fun Γ p hΓ hc => by rw [Sem.wp_holding]; exact h Γ p hΓ hc
theorem ws_keep {vs : List Value} {m : Sem α} {Q : α → Shared → Prop} (h : WS M A m Q E s) : WS M A (m.keep vs) Q E s :=
  fun Γ p hΓ hc => by rw [Sem.wp_keep]; exact h Γ p hΓ hc
theorem ws_standAt {pos : Pos} {Q : Unit → Shared → Prop} (h : Q () s) : WS M A (standAt pos) Q E s := fun _ _ _ _ => h
theorem ws_of_eq {m : Sem α} {a : α} {Q : α → Shared → Prop} (e : m = pure a) (h : Q a s) : WS M A m Q E s := by rw [e]; exact ws_pure h
theorem ws_ite_tt {c : Prop} [Decidable c] {a b : Sem α} {Q : α → Shared → Prop} (hc : c) (h : WS M A a Q E s) : WS M A (if c then a else b) Q E s := by rw [if_pos hc]; exact h
theorem ws_ite_ff {c : Prop} [Decidable c] {a b : Sem α} {Q : α → Shared → Prop} (hc : ¬ c) (h : WS M A b Q E s) : WS M A (if c then a else b) Q E s := by rw [if_neg hc]; exact h
theorem cs_mono {c : Code} {R R' : Result → Shared → Prop} (h : CS M A c R s) (hR : ∀ r s, R r s → R' r s) : CS M A c R' s :=
  fun Γ p hc hΓ hl => wpCode_mono hR (h Γ p hc hΓ hl)
theorem clean_enter {Γ : Ctx} (h : CleanC Γ) (c : Code) (hd : Option Value) (p : Pos) : ∀ x ∈ (Γ.enter c hd p).below, Clean x.1 := by
  intro x hx
  rcases List.mem_cons.mp hx with rfl | hx
  · exact h.1
  · exact h.2 x hx
theorem ws_run {c : Code} {h : Option Value} {Q : Flow → Shared → Prop}
    (hc : CS M (A.mark h) c (fun r s' => match r with | .ok f => Q f s' | .error e => E e s') s) (hnb : h ≠ some byPass := by intro x; cases x) :
    WS M A (run c h) Q E s :=
  fun Γ p hΓ hcl => by rw [Sem.wp_run]; exact hc _ p rfl (hΓ.enter c h p hnb) (clean_enter hcl c h p)
theorem ws_runValue {c : Code} {Q : Value → Shared → Prop}
    (hc : CS M A c (fun r s' => match r with | .ok (.ret v) => Q v s' | .ok _ => False | .error e => E e s') s) :
    WS M A (runValue c) Q E s := fun Γ p hΓ hcl => by
  rw [Sem.wp_runValue]; exact hc _ p rfl (hΓ.enter c none p (by intro x; cases x)) (clean_enter hcl c none p)
theorem ws_call {f : Value} {pos : List Value} {kw : List (Str × Value)} {Q : Value → Shared → Prop}
    (hc : CS M A (.call f ⟨pos, kw⟩) (fun r s' => match r with | .ok (.ret v) => Q v s' | .ok _ => False | .error e => E e s') s) :
    WS M A (call f pos kw) Q E s := ws_runValue hc
theorem cs_of_tree {c : Code} {R : Result → Shared → Prop} (hcl : Clean c)
    (h : WS M (A.under c) (M.den c) (fun fin s' => match fin with | .done f => R (.ok f) s' | .again c' => c'.quiet = true ∧ CS M A c' R s')
      (fun e s' => R (.error e) s') s) : CS M A c R s := fun Γ p hc hΓ hl => by
  rw [wpCode_iff_wp, hc]
  refine Sem.wp_mono M Γ _ (fun fin p' s' h' => ?_) (fun _ _ _ h' => h') p s (h Γ p (hc ▸ hΓ.in) ⟨hc ▸ hcl, hl⟩)
  cases fin with
  | done f => exact h'
  | again c' => exact ⟨h'.1, h'.2 (Γ.goto c') p' rfl (hΓ.goto c') hl⟩
theorem cs_loop' {c : Code} {R : Result → Shared → Prop} (hcl : Clean c) (hq : c.quiet = true) (I : Nat → Shared → Prop)
    (turn : ∀ n s, I n s → WS M (A.under c) (M.den c)
      (fun fin s' => match fin with
        | .done f => R (.ok f) s'
        | .again c' => (c' = c ∧ ∃ m, m < n ∧ I m s') ∨ (c'.quiet = true ∧ CS M A c' R s')) (fun e s' => R (.error e) s') s)
    (n : Nat) (h : I n s) : CS M A c R s := by
  induction n using Nat.strongRecOn generalizing s with
  | ind n ih =>
    refine cs_of_tree hcl (ws_mono (turn n s h) (fun fin s' hf => ?_) fun _ _ h' => h')
    cases fin with
    | done f => exact hf
    | again c' =>
      rcases hf with ⟨rfl, m, hm, hI⟩ | hf
      · exact ⟨hq, ih m hm hI⟩
      · exact hf
/-- a stack's look that only a decoder (or a guard) would answer -/
theorem ws_stackAny_false {f : Code × Pos → Bool} {Q : Bool → Shared → Prop} (hg : A.guards = some []) (hf : ∀ c p, c.isGuard = false → Clean c → f (c, p) = false)
    (h : Q false s) : WS M A (do return (← stack).any f) Q E s := fun Γ p hΓ hcl => by
  show Q (((Γ.code, p) :: Γ.below).any f) s
  have hno : guardsOf ((Γ.code, p) :: Γ.below) = [] := by rw [guardsOf_cons]; exact hΓ.2.2.2.1 _ hg
  have all : ∀ l : List (Code × Pos), guardsOf l = [] → (∀ x ∈ l, Clean x.1) → l.any f = false := by
    intro l
    induction l with
    | nil => intro _ _; rfl
    | cons x l ih =>
      obtain ⟨c, q⟩ := x
      intro h1 h2
      rw [guardsOf_cons] at h1
      obtain ⟨h3, h4⟩ := List.append_eq_nil_iff.mp h1
      rw [List.any_cons, hf c q ?_ (h2 _ (.head _)), ih h4 fun x hx => h2 x (.tail _ hx)]
      · rfl
      · cases hc : c.isGuard with
        | false => rfl
        | true => simp [Code.guards, hc] at h3
  rw [all _ hno fun x hx => ?_]
  · exact h
  · rcases List.mem_cons.mp hx with rfl | hx
    · exact hcl.1
    · exact hcl.2 x hx
end
end Mine
end
section
open PySem PySem.W PySem.Calls PyProof.Rows
namespace Mine
open PySem.Builtin PySem.Builtin.Bytes
/-! facts of the type bytearray -/
theorem ba_mro : mroOf (.type "bytearray") = pure [.type "bytearray", .type "object"] := by rw [mroOf_type]; kernel_rfl
theorem ba_lookup_new : typeLookup (.type "bytearray") "__new__" = pure (some (.builtin "bytearray.__new__")) := by rw [typeLookup_type, builtinLookup_eq_fast]; kernel_rfl
theorem ba_slot_init : Slot "bytearray" "__init__" "bytearray.__init__" :=
  .of (owner := "bytearray") (n := "__init__") (by rw [typeLookup_type, builtinLookup_eq_fast]; kernel_rfl) (by decide +kernel) (by decide +kernel) (by decide +kernel)
    (by first | exact .inl (by decide +kernel) | exact .inr (by decide +kernel)) (by rw [isSubtype_type]; kernel_rfl)
theorem ba_called : TypeCalled "bytearray" "bytearray.__new__" "bytearray.__init__" :=
  ⟨by decide +kernel, by decide +kernel, ⟨_, _, ba_mro⟩, madeBy_type ba_mro ba_lookup_new (by decide +kernel), by decide +kernel, by rw [isSubtype_type]; kernel_rfl, ba_slot_init⟩
theorem ba_typeCall : checkTypeCall "bytearray" ⟨[], []⟩ = pure () := by kernel_rfl
theorem ba_newCall : checkBuiltinCall "bytearray.__new__" ⟨[.type "bytearray"], []⟩ = pure () := by kernel_rfl
theorem ba_entry_new : entryFor table "bytearray.__new__" = some Builtin.«list.__new__» := entryFor_alias (id' := "list.__new__") (by kernel_rfl) rfl (by decide +kernel) (by kernel_rfl)
theorem ba_plain_new : plainId "bytearray.__new__" = true := by decide +kernel
theorem ba_entry_init : entryFor table "bytearray.__init__" = some Builtin.«bytearray.__init__» := by first | exact entryFor_of_fast (by kernel_rfl) | exact entryFor_of_tree (by kernel_rfl)
theorem ba_args_init (a : Value) : argsOk "bytearray.__init__" ⟨[a], []⟩ := by unfold argsOk; kernel_rfl
set_option maxRecDepth 1000000 in
theorem ba_owner_new : ("bytearray.__new__".splitOn ".__new__").headD "" = "bytearray" := by simp +decide [String.splitOn, String.splitOnAux]
theorem ba_sub : isSubtype (.type "bytearray") (.type "bytearray") = pure true := by rw [isSubtype_type]; kernel_rfl
theorem ba_no_rel : typeLookup (.type "bytearray") "__release_buffer__" = pure (some (.builtin "bytearray.__release_buffer__")) := by rw [typeLookup_type, builtinLookup_eq_fast]; kernel_rfl
theorem ba_bind0 : Builtin.Bytes.bindOptional "bytearray.__init__" "bytearray" ["source", "encoding", "errors"] [] [] = pure [none, none, none] := by kernel_rfl
end Mine
end
section
open PySem PySem.W PySem.Calls PyProof.Rows
namespace Mine
open PySem.Builtin PySem.Builtin.Bytes
abbrev baOf (b : Array UInt8) : Obj := { cls := .type "bytearray", data := .bytearray b }
section
variable {prog : Program} {w : World} {A : Around} {E : Value → Shared → Prop} {s : Shared}
theorem cs_builtin {i : String} {args : Args} {b : Builtin} {R : Result → Shared → Prop} (hcl : decodersThatHold.contains i = false) (hb : entryFor table i = some b)
    (h : WS (model prog w) (A.under (.builtin i args)) (b args) (fun fin s' => match fin with | .done f => R (.ok f) s' | .again c' => c'.quiet = true ∧ CS (model prog w) A c' R s')
      (fun e s' => R (.error e) s') s) : CS (model prog w) A (.builtin i args) R s := by
  refine cs_of_tree hcl ?_
  have hden : (model prog w).den (.builtin i args) = b args := by
    show (match entryFor table i with | some b => b args | none => unsupported ((withoutEnding? i "#data").getD i)) = _
    rw [hb]
  rw [hden]; exact h
theorem notGuard {i : String} {args : Args} {x : String} (hx : guardIds.contains x = true) (hc : (Code.builtin i args).isGuard = false) : ¬ i = x := fun e => by
  subst e
  exact Bool.noConfusion (hx.symm.trans hc)
theorem exported_no {i : String} {args : Args} {a : Value} {p : Pos} (hc : (Code.builtin i args).isGuard = false) (hcl : decodersThatHold.contains i = false) :
    exported.match_1 (fun _ => Bool) (Code.builtin i args, p) (fun v _ _ _ => Bytes.sameRef v a) (fun v _ _ _ => Bytes.sameRef v a) (fun _ v _ _ _ => Bytes.sameRef v a) (fun v _ _ _ => Bytes.sameRef v a) (fun _ _ held _ _ => held.any (Bytes.sameRef a)) (fun id v _ _ _ => Bytes.sameRef v a && decodersThatHold.contains id) (fun _ => false) = false := by
  obtain ⟨pos, kw⟩ := args
  delta exported.match_1
  refine (dif_neg (notGuard (x := "bytearray.__contains__") (by decide +kernel) hc)).trans ?_
  refine (dif_neg (notGuard (x := "bytearray.__mod__") (by decide +kernel) hc)).trans ?_
  refine (dif_neg (notGuard (x := "bytearray.__rmod__") (by decide +kernel) hc)).trans ?_
  refine (dif_neg (notGuard (x := "_struct.pack_into.held") (by decide +kernel) hc)).trans ?_
  refine (dif_neg (notGuard (x := "bytearray.find.held") (by decide +kernel) hc)).trans ?_
  cases pos with
  | nil => rfl
  | cons v r =>
    show (Bytes.sameRef v a && decodersThatHold.contains i) = false
    rw [hcl, Bool.and_false]
/-- the look at the stack for an export -/
theorem ws_exported {a : Addr} {Q : Bool → Shared → Prop} (hg : A.guards = some []) (h : Q false s) : WS (model prog w) A (exported (.ref a)) Q E s := by
  unfold exported
  refine ws_stackAny_false hg (fun c p hc hcl => ?_) h
  cases c <;> first | rfl | skip
  rename_i i args
  exact exported_no hc hcl
theorem ws_checkResize {a : Addr} {b : Array UInt8} {Q : Unit → Shared → Prop} (hg : A.guards = some []) (ho : s.heap.get? a = some (baOf b)) (h : Q () s) : WS (model prog w) A (checkResize (.ref a)) Q E s := by
  unfold checkResize
  refine ws_bind ?_
  unfold orM
  refine ws_bind (ws_exported hg ?_)
  refine ws ?_
  show wpAny _ _ (exportsOf (.ref a) >>= fun n => pure (decide (n > 0))) _ _ _
  refine wpAny_bind ?_
  show wpAny _ _ (load a >>= _) _ _ _
  refine wpAny_bind (wpAny_load ho (wpAny_pure (wpAny_pure ?_)))
  exact ws_pure h
theorem any_write {a : Addr} {b : Array UInt8} {f : Array UInt8 → Array UInt8} {Q : Unit → Shared → Prop} (ho : s.heap.get? a = some (baOf b)) (hz : (f b).size ≤ sizeLine)
    (h : ∀ h', h'.get? a = some (baOf (f b)) → Heap.SameBut a s.heap h' → Q () { s with heap := h' }) : wpAny (model prog w) A (write (.ref a) f) Q E s := by
  show wpAny _ _ (updateBytearray a f) _ _ _
  unfold updateBytearray
  refine wpAny_bind (wpAny_load ho ?_)
  show wpAny _ _ (update a (Obj.mapBytearray f) >>= fun _ => lookBehind a) _ _ _
  refine wpAny_bind (wpAny_update ho ?_)
  have h2 : (s.heap.update a (Obj.mapBytearray f)).get? a = some (baOf (f b)) := Heap.get?_update_self (Obj.mapBytearray f) ho rfl
  refine wpAny_lookBehind h2 ?_ (h _ h2 (Heap.SameBut.update ..))
  show (if (f b).size > sizeLine then some "bytearray:memory" else none) = none
  rw [if_neg (Nat.not_lt.mpr hz)]
end
end Mine
end
section
open PySem PySem.W PySem.Calls PyProof.Rows
namespace Mine
open PySem.Builtin PySem.Builtin.Bytes
theorem ba_slot_append : Slot "bytearray" "append" "bytearray.append" :=
  .of (owner := "bytearray") (n := "append") (by rw [typeLookup_type, builtinLookup_eq_fast]; kernel_rfl) (by decide +kernel) (by decide +kernel) (by decide +kernel)
    (by first | exact .inl (by decide +kernel) | exact .inr (by decide +kernel)) (by rw [isSubtype_type]; kernel_rfl)
theorem ba_type_append : typeOf (.builtin "bytearray.append") = pure (.type "method_descriptor") := by show builtinType _ = _; rw [builtinType_eq_fast]; kernel_rfl
theorem ba_entry_append : entryFor table "bytearray.append" = some Builtin.«bytearray.append» := by first | exact entryFor_of_fast (by kernel_rfl) | exact entryFor_of_tree (by kernel_rfl)
theorem ba_args_append (a b : Value) : argsOk "bytearray.append" ⟨[a, b], []⟩ := by unfold argsOk; kernel_rfl
theorem ba_slot_extend : Slot "bytearray" "extend" "bytearray.extend" :=
  .of (owner := "bytearray") (n := "extend") (by rw [typeLookup_type, builtinLookup_eq_fast]; kernel_rfl) (by decide +kernel) (by decide +kernel) (by decide +kernel)
    (by first | exact .inl (by decide +kernel) | exact .inr (by decide +kernel)) (by rw [isSubtype_type]; kernel_rfl)
theorem ba_type_extend : typeOf (.builtin "bytearray.extend") = pure (.type "method_descriptor") := by show builtinType _ = _; rw [builtinType_eq_fast]; kernel_rfl
theorem ba_entry_extend : entryFor table "bytearray.extend" = some Builtin.«bytearray.extend» := by first | exact entryFor_of_fast (by kernel_rfl) | exact entryFor_of_tree (by kernel_rfl)
theorem ba_args_extend (a b : Value) : argsOk "bytearray.extend" ⟨[a, b], []⟩ := by unfold argsOk; kernel_rfl
section
variable {prog : Program} {w : World} {A : Around} {E : Value → Shared → Prop} {s : Shared}
theorem ws_call_entry {T : String} {name : Str}
    {i : String} {b : Builtin} {self : Value} {rest : List Value} {Q : Value → Shared → Prop} (h : Slot T name i) (hT : s.TypeIs self T)
    (hb : entryFor table i = some b)
    (hc : WS (model prog w) A.in1 (b ⟨self :: rest, []⟩) (fun fin s' => match fin with
        | .done (.ret v) => Q v s' | .done _ => False
        | .again c' => c'.quiet = true ∧ CS (model prog w) A c' (fun r s' => match r with | .ok (.ret v) => Q v s' | .ok _ => False | .error e => E e s') s') E s)
    (ha : argsOk i ⟨self :: rest, []⟩) (hcl : decodersThatHold.contains i = false := by decide +kernel) :
    WS (model prog w) A (call (.builtin i) (self :: rest)) Q E s := by
  refine ws_call (cs_of_tree trivial ?_)
  show WS _ A.in1 (do checkBuiltinCall i ⟨self :: rest, []⟩; again (.builtin i ⟨self :: rest, []⟩)) _ _ s
  refine ws_bindA (h.check _ _ _ _ _ _ _ _ hT ha ?_)
  refine ws_pure ⟨plainId_quiet h.plain _, cs_builtin hcl hb ?_⟩
  rw [Around.under_plainId h.plain _]
  refine ws_mono hc (fun fin s' h' => ?_) fun _ _ h' => h'
  cases fin with
  | done f => cases f <;> exact h'
  | again c => exact h'
theorem ba_append {a : Addr} {b : Array UInt8} {n : Int} {t : Tok} {Q : Value → Shared → Prop} (hg : A.guards = some []) (ho : s.heap.get? a = some (baOf b)) (h0 : 0 ≤ n) (h1 : n < 256) (hz : b.size < sizeLine)
    (h : ∀ h', h'.get? a = some (baOf (b.push n.toNat.toUInt8)) → Heap.SameBut a s.heap h' → Q .none { s with heap := h' }) :
    WS (model prog w) A (call (.builtin "bytearray.append") [.ref a, .int n t]) Q E s := by
  refine ws_call_entry ba_slot_append ⟨_, ho, rfl⟩ ba_entry_append ?_ (ba_args_append _ _)
  unfold Builtin.«bytearray.append»
  refine ws_bindA (wpAny_of_eq (a := (Value.ref a, Value.int n t)) rfl ?_)
  refine ws_bindA ?_
  unfold byteValue
  refine wpAny_bind (wpAny_of_eq (rfl : asIndex (.int n t) = pure n) ?_)
  refine bm_if_false (by simp only [Bool.or_eq_false_iff, decide_eq_false_iff_not]; omega) ?_
  refine wpAny_pure ?_
  refine ws_bind (ws_checkResize hg ho ?_)
  refine ws ?_
  refine wpAny_bind (any_write ho ?_ fun h' h2 hs => wpAny_pure (h h' h2 hs))
  rw [Array.size_push]; exact hz
end
end Mine
end
section
open PySem PySem.W PySem.Calls PyProof.Rows
namespace Mine
open PySem.Builtin PySem.Builtin.Bytes
section
variable {prog : Program} {w : World} {A : Around} {E : Value → Shared → Prop} {s : Shared}
theorem ba_code_new {Q₁ : Value → Shared → Prop}
    (h : Q₁ (.ref s.heap.objs.size) { s with heap := s.heap.push (baOf #[]) }) :
    codeAny (model prog w) A (.call (.builtin "bytearray.__new__") ⟨[.type "bytearray"], []⟩) (wants Q₁ E) s := by
  refine codeAny_of_tree ?_
  show wpAny _ A.in1 (do checkBuiltinCall "bytearray.__new__" ⟨[.type "bytearray"], []⟩; again (.builtin "bytearray.__new__" ⟨[.type "bytearray"], []⟩)) _ _ s
  refine wpAny_bind (wpAny_of_eq ba_newCall (wpAny_pure ⟨plainId_quiet ba_plain_new _, codeAny_builtin_stack ba_entry_new rfl fun p st => ?_⟩))
  rw [Around.under_plainId ba_plain_new _]
  have hsub := ba_sub
  have hown := ba_owner_new
  obtain ⟨hp, g, d, tk, os⟩ := s
  simp only [hown]
  wp_walk
  exact h
theorem ws_callSpecial_slot {self : Value} {T : String} {name : Str} {i : String} {args : List Value} {kw : List (Str × Value)}
    {Q : Option Value → Shared → Prop} (hT : s.TypeIs self T) (h : Slot T name i)
    (hc : WS (model prog w) A (call (.builtin i) (self :: args) kw) (fun v => Q (some v)) E s) : WS (model prog w) A (callSpecial? self name args kw) Q E s := by
  simp only [callSpecial?]
  refine ws_bindA (wpAny_specialOf hT h.lookup ?_)
  simp only [h.bind]
  exact ws_holding (ws_bindA (wpAny_pure (ws_bind (ws_mono hc (fun v s' h' => ws_pure h') fun _ _ h' => h'))))
theorem ba_rel_split : ("bytearray.__release_buffer__".dropRight ("__release_buffer__".length + 1)) = "bytearray" := by decide +kernel
theorem ba_ownRelease {a : Addr} {b : Array UInt8} {Q : Bool → Shared → Prop} (ho : s.heap.get? a = some (baOf b)) (h : Q false s) : wpAny (model prog w) A (ownRelease (.ref a)) Q E s := by
  have hT : s.TypeIs (.ref a) "bytearray" := ⟨_, ho, rfl⟩
  unfold ownRelease
  refine wpAny_bind ?_
  unfold slotIsOwn
  refine wpAny_bind (wpAny_specialOf hT ba_no_rel ?_)
  dsimp only
  rw [if_neg (by decide +kernel)]
  rw [ba_rel_split]
  exact wpAny_isInstance hT ba_sub (wpAny_pure h)
theorem ba_init0 {a : Addr} {Q : Value → Shared → Prop} (hg : A.guards = some []) (ho : s.heap.get? a = some (baOf #[]))
    (h : ∀ h', h'.get? a = some (baOf #[]) → Heap.SameBut a s.heap h' → Q .none { s with heap := h' }) :
    WS (model prog w) A (call (.builtin "bytearray.__init__") [.ref a]) Q E s := by
  refine ws_call_entry ba_slot_init ⟨_, ho, rfl⟩ ba_entry_init ?_ (ba_args_init _)
  unfold Builtin.«bytearray.__init__»
  dsimp only
  refine ws_bindA (ba_ownRelease ho ?_)
  refine ws_ite_ff (by decide) ?_
  refine ws_bindA (wpAny_of_eq ba_bind0 ?_)
  refine ws_bindA (wpAny_of_eq (a := ()) rfl ?_)
  refine ws_bindA (wpAny_of_eq (a := ()) rfl ?_)
  refine ws_bind ?_
  unfold orM
  refine ws_bind (ws_exported hg ?_)
  refine ws ?_
  show wpAny _ _ (exportsOf (.ref a) >>= fun n => pure (decide (n > 0))) _ _ _
  refine wpAny_bind ?_
  show wpAny _ _ (load a >>= _) _ _ _
  refine wpAny_bind (wpAny_load ho (wpAny_pure (wpAny_pure ?_)))
  refine ws_ite_ff (by decide) ?_
  refine ws ?_
  refine wpAny_bind (any_write ho (Nat.zero_le _) fun h' h2 hs => ?_)
  exact wpAny_bind (wpAny_of_eq (a := ()) rfl (wpAny_pure (h h' h2 hs)))
theorem ba_new0 {Q : Value → Shared → Prop} (hg : A.guards = some [])
    (h : ∀ h', h'.get? s.heap.objs.size = some (baOf #[]) → (∀ b o, s.heap.get? b = some o → h'.get? b = some o) → Q (.ref s.heap.objs.size) { s with heap := h' }) :
    WS (model prog w) A (call (.type "bytearray") []) Q E s := by
  refine ws_call (cs_of_tree trivial ?_)
  show WS _ _ (callAny (.type "bytearray") _) _ _ _
  refine ws_pure ⟨Code.quiet_builtin _ (by decide +kernel), cs_builtin (by decide +kernel) F.entry_type_call ?_⟩
  rw [Around.under_plain (weight_type_call_type "bytearray" [] []) rfl]
  unfold Builtin.«type.__call__»
  dsimp only
  refine ws_ite_ff (by rw [ba_called.notType]; decide) ?_
  refine ws_ite_ff (by have := ba_called.canCreate; intro e; exact absurd (e.symm.trans this) (by decide)) ?_
  refine ws_bindA (wpAny_of_eq ba_typeCall ?_)
  refine ws_bindA (wpAny_of_eq ba_mro ?_)
  refine ws_ite_ff (by decide) ?_
  refine ws_bindA (wpAny_of_eq ba_called.made ?_)
  refine ws_bindA (wpAny_pure ?_)
  have hN : (s.heap.push (baOf #[])).get? s.heap.objs.size = some (baOf #[]) := Heap.get?_push_size _ rfl
  refine ws_bindA (wpAny_holding (wpAny_call (codeAny_mono (ba_code_new (Q₁ := fun v s' => v = .ref s.heap.objs.size ∧ s' = { s with heap := s.heap.push (baOf #[]) }) (E := fun _ _ => False) ⟨rfl, rfl⟩) fun r s' hr => ?_)))
  cases r with
  | error e => exact hr.elim
  | ok fl =>
    cases fl with
    | ret obj =>
      obtain ⟨rfl, rfl⟩ := hr
      refine ws_bindA (wpAny_isInstance ⟨_, hN, rfl⟩ ba_sub ?_)
      refine ws_ite_ff (by decide) ?_
      refine ws_bind (ws_holding (ws_callSpecial_slot ⟨_, hN, rfl⟩ ba_slot_init ?_))
      refine ba_init0 hg hN fun h' h2 hs => ?_
      refine ws_ite_ff (by decide) ?_
      refine ws_pure ?_
      exact h h' h2 fun b o e => (hs.2 b (Nat.ne_of_lt (Heap.lt_size e))).trans (Heap.get?_push_of_some _ e)
    | _ => exact hr.elim
end
end Mine
end
section
open PySem PySem.W PySem.Calls PyProof.Rows
namespace Mine
open PySem.Builtin PySem.Builtin.Bytes
theorem ex_plain_loop : plainId "bytearray.extend.loop" = true := by decide +kernel
theorem ex_plain_end : plainId "bytearray.extend.end" = true := by decide +kernel
theorem ex_entry_loop : entryFor table "bytearray.extend.loop" = some Builtin.«bytearray.extend.loop» := by first | exact entryFor_of_fast (by kernel_rfl) | exact entryFor_of_tree (by kernel_rfl)
theorem ex_entry_end : entryFor table "bytearray.extend.end" = some Builtin.«bytearray.extend.end» := by first | exact entryFor_of_fast (by kernel_rfl) | exact entryFor_of_tree (by kernel_rfl)
theorem tup_no_buffer : typeLookup (.type "tuple") "__buffer__" = pure none := by rw [typeLookup_type, builtinLookup_eq_fast]; kernel_rfl
theorem tup_len : typeLookup (.type "tuple") "__len__" = pure (some (.builtin "tuple.__len__")) := by rw [typeLookup_type, builtinLookup_eq_fast]; kernel_rfl
theorem tup_split : splitId "tuple.__len__" = some ("tuple", "__len__") := by decide +kernel
theorem tup_sub : isSubtype (.type "tuple") (.type "tuple") = pure true := by rw [isSubtype_type]; kernel_rfl
theorem take_eq {i : String} {b : Array UInt8} {t : Tok} : takeBufferQuiet? i (.bytes b t) 0 = pure (some (b, none)) := by
  unfold takeBufferQuiet? takeBuffer?
  rw [KBy.special_eq KBy.look_buffer, KBy.own_buffer]
  have e : buffer? i (.bytes b t) ((0 : Int) == fullReadOnly) = pure (some b) := KBy.buffer_eq
  simp only [pure_bind, e, Bool.not_true, Bool.false_eq_true, if_false]
  rfl
section
variable {prog : Program} {w : World} {A : Around} {E : Value → Shared → Prop} {s : Shared}
theorem ba_addAtEnd {a : Addr} {b c : Array UInt8} {Q : Value → Shared → Prop} (hg : A.guards = some []) (ho : s.heap.get? a = some (baOf b)) (hz : (b ++ c).size ≤ sizeLine)
    (h : ∀ h', h'.get? a = some (baOf (b ++ c)) → Heap.SameBut a s.heap h' → Q .none { s with heap := h' }) {R : Value → Shared → Prop} {A' : Around} :
    WS (model prog w) A (do
      if !c.isEmpty then checkResize (.ref a)
      write (.ref a) (· ++ c)
      ret .none) (fun fin s' => match fin with
        | .done (.ret v) => Q v s' | .done _ => False
        | .again c' => c'.quiet = true ∧ CS (model prog w) A' c' (fun r s' => match r with | .ok (.ret v) => Q v s' | .ok _ => False | .error e => R e s') s') E s := by
  have fin : wpAny (model prog w) A (do write (.ref a) (fun x => x ++ c); ret .none) (fun fin s' => match fin with
        | .done (.ret v) => Q v s' | .done _ => False
        | .again c' => c'.quiet = true ∧ CS (model prog w) A' c' (fun r s' => match r with | .ok (.ret v) => Q v s' | .ok _ => False | .error e => R e s') s') E s :=
    wpAny_bind (any_write ho hz fun h' h2 hs => wpAny_pure (h h' h2 hs))
  by_cases hc : (!c.isEmpty) = true
  · rw [if_pos hc]; exact ws_bind (ws_checkResize hg ho (ws fin))
  · rw [if_neg hc]; exact ws fin
theorem ba_extend_bytes {a : Addr} {b c : Array UInt8} {t : Tok} {Q : Value → Shared → Prop} (hg : A.guards = some []) (ho : s.heap.get? a = some (baOf b)) (hz : (b ++ c).size ≤ sizeLine)
    (h : ∀ h', h'.get? a = some (baOf (b ++ c)) → Heap.SameBut a s.heap h' → Q .none { s with heap := h' }) :
    WS (model prog w) A (call (.builtin "bytearray.extend") [.ref a, .bytes c t]) Q E s := by
  refine ws_call_entry ba_slot_extend ⟨_, ho, rfl⟩ ba_entry_extend ?_ (ba_args_extend _ _)
  unfold Builtin.«bytearray.extend»
  refine ws_bindA (wpAny_of_eq (a := (Value.ref a, Value.bytes c t)) rfl ?_)
  refine ws_bindA (wpAny_of_eq (KBy.special_eq KBy.look_buffer) ?_)
  refine ws_ite_tt (by decide) ?_
  refine ws_bindA (wpAny_rule ?_)
  refine ws_bindA ?_
  show wpAny _ _ (payload (.ref a)) _ _ _
  unfold payload payload?
  refine wpAny_bind (wpAny_bind (wpAny_load ho ?_))
  refine wpAny_pure (wpAny_pure ?_)
  refine ws_bindA (wpAny_of_eq take_eq ?_)
  dsimp only
  refine ws_ite_tt rfl ?_
  have e := ba_addAtEnd (prog := prog) (w := w) (A := A.in1) (A' := A) (E := E) (R := E) (s := s) hg ho hz h
  refine ws_mono e (fun fin s' x => ?_) fun _ _ x => x
  cases fin with
  | done f => cases f <;> exact x
  | again c => exact x
end
end Mine
end
section
open PySem PySem.W PySem.Calls PyProof.Rows
namespace Mine
open PySem.Builtin PySem.Builtin.Bytes
section
variable {prog : Program} {w : World} {A : Around} {E : Value → Shared → Prop} {s : Shared}
theorem ba_ext_end {a S : Addr} {t : Value} {b c : Array UInt8} {Q : Value → Shared → Prop} (hg : A.guards = some []) (ho : s.heap.get? a = some (baOf b)) (hS : s.heap.get? S = some (baOf c)) (hz : (b ++ c).size ≤ sizeLine)
    (h : ∀ h', h'.get? a = some (baOf (b ++ c)) → Heap.SameBut a s.heap h' → Q .none { s with heap := h' }) :
    CS (model prog w) A (.builtin "bytearray.extend.end" ⟨[.ref a, t, .ref S], []⟩) (fun r s' => match r with | .ok (.ret v) => Q v s' | .ok _ => False | .error e => E e s') s := by
  refine cs_builtin (by decide +kernel) ex_entry_end ?_
  rw [Around.under_plainId ex_plain_end _]
  unfold Builtin.«bytearray.extend.end»
  refine ws_bindA (wpAny_point ?_)
  refine ws_bindA ?_
  unfold payload payload?
  refine wpAny_bind (wpAny_bind (wpAny_load hS ?_))
  refine wpAny_pure (wpAny_pure ?_)
  have e := ba_addAtEnd (prog := prog) (w := w) (A := A.in1) (A' := A) (E := fun e s' => E e s') (R := E) (s := s) hg ho hz h
  refine ws_mono e (fun fin s' x => ?_) fun _ _ x => x
  cases fin with
  | done f => cases f <;> exact x
  | again c => exact x
theorem ba_ext_loop {a t I S : Addr} {vs : List Value} {ns : List Int} {b : Array UInt8} {Q : Value → Shared → Prop} (hg : A.guards = some []) (hh : A.handled = none) (hi : IntsAre vs ns) (hr : ∀ n ∈ ns, 0 ≤ n ∧ n < 256) (hz : b.size + ns.length ≤ sizeLine)
    (hIS : I ≠ S) (htI : t ≠ I) (htS : t ≠ S) (haI : a ≠ I) (haS : a ≠ S) :
    ∀ (k i : Nat) (s : Shared), ns.length - i = k → i ≤ ns.length → s.heap.IsTuple t vs.toArray → s.heap.IsTupleIter I t i → s.heap.get? S = some (baOf (byteArr (ns.take i))) → s.heap.get? a = some (baOf b) →
      (∀ h', h'.get? a = some (baOf (b ++ byteArr ns)) → (∀ x o, x ≠ a → x ≠ I → x ≠ S → s.heap.get? x = some o → h'.get? x = some o) → Q .none { s with heap := h' }) →
      CS (model prog w) A (.builtin "bytearray.extend.loop" ⟨[.ref a, .ref t, .ref I, .ref S], []⟩) (fun r s' => match r with | .ok (.ret v) => Q v s' | .ok _ => False | .error e => E e s') s := by
  have hlen : vs.length = ns.length := hi.length
  intro k
  induction k with
  | zero =>
    intro i s hk hle hl hit hS ha hR
    have hin : i = ns.length := by omega
    subst hin
    refine cs_builtin (by decide +kernel) ex_entry_loop ?_
    rw [Around.under_plainId ex_plain_loop _]
    refine ws ?_
    show wpAny _ A.in1 (pyNext (.ref I) >>= _) _ _ s
    refine wpAny_bind (wpAny_pyNext_tuple_end hh hit hl (by simp [hlen]) fun h' he => ?_)
    refine wpAny_pure ⟨plainId_quiet ex_plain_end _, ?_⟩
    have hS' : h'.get? S = some (baOf (byteArr ns)) := by have := he S _ (Ne.symm hIS) hS; rwa [List.take_length] at this
    have ha' : h'.get? a = some (baOf b) := he a _ haI ha
    exact ba_ext_end hg ha' hS' (by rw [Array.size_append, byteArr_size]; exact hz) fun h2 h3 h4 => hR h2 h3 fun x o hxa hxI hxS e => (h4.2 x hxa).trans (he x o hxI e)
  | succ k ih =>
    intro i s hk hle hl hit hS ha hR
    have hlt : i < ns.length := by omega
    obtain ⟨x, hx⟩ : ∃ x, vs[i]? = some x := ⟨vs[i]'(by omega), List.getElem?_eq_getElem (by omega)⟩
    obtain ⟨n, tk, rfl, hn⟩ := IntsAre.at hi i x hx
    obtain ⟨h0, h1⟩ := hr n (List.mem_of_getElem? hn)
    refine cs_builtin (by decide +kernel) ex_entry_loop ?_
    rw [Around.under_plainId ex_plain_loop _]
    refine ws ?_
    show wpAny _ A.in1 (pyNext (.ref I) >>= _) _ _ s
    refine wpAny_bind (wpAny_pyNext_tuple_item (x := .int n tk) hit hl (by simpa using hx) fun h' hit' hs => ?_)
    have hS' : h'.get? S = some (baOf (byteArr (ns.take i))) := (hs.2 S (Ne.symm hIS)).trans hS
    have ha' : h'.get? a = some (baOf b) := (hs.2 a haI).trans ha
    refine wpAny_bind (wpAny_tryCatch (wpAny_holding ?_))
    unfold byteValue
    refine wpAny_bind (wpAny_of_eq (rfl : asIndex (.int n tk) = pure n) ?_)
    refine bm_if_false (by simp only [Bool.or_eq_false_iff, decide_eq_false_iff_not]; omega) ?_
    refine wpAny_pure ?_
    refine wpAny_bind (wpAny_letGo ?_)
    refine wpAny_bind (any_write hS' (f := (·.push n.toNat.toUInt8)) ?_ fun h2 h3 h4 => ?_)
    · rw [Array.size_push, byteArr_size, List.length_take]; omega
    · rw [← byteArr_take hn] at h3
      refine wpAny_pure ⟨plainId_quiet ex_plain_loop _, ih (i + 1) _ (by omega) hlt ?_ ?_ h3 ?_ fun h5 h6 h7 => ?_⟩
      · exact (hl.extBut hs.extBut htI).extBut h4.extBut htS
      · exact hit'.extBut h4.extBut hIS
      · exact (h4.2 a haS).trans ha'
      · exact hR h5 h6 fun x o hxa hxI hxS e => h7 x o hxa hxI hxS ((h4.2 x hxS).trans ((hs.2 x hxI).trans e))
theorem ba_extend_tuple {a t : Addr} {vs : List Value} {ns : List Int} {b : Array UInt8} {Q : Value → Shared → Prop} (hg : A.guards = some []) (hh : A.handled = none) (ho : s.heap.get? a = some (baOf b)) (ht : s.heap.IsTuple t vs.toArray) (hta : t ≠ a)
    (hi : IntsAre vs ns) (hr : ∀ n ∈ ns, 0 ≤ n ∧ n < 256) (hz : b.size + ns.length ≤ sizeLine)
    (h : ∀ h', h'.get? a = some (baOf (b ++ byteArr ns)) → (∀ x o, x ≠ a → s.heap.get? x = some o → h'.get? x = some o) → Q .none { s with heap := h' }) :
    WS (model prog w) A (call (.builtin "bytearray.extend") [.ref a, .ref t]) Q E s := by
  refine ws_call_entry ba_slot_extend ⟨_, ho, rfl⟩ ba_entry_extend ?_ (ba_args_extend _ _)
  unfold Builtin.«bytearray.extend»
  refine ws_bindA (wpAny_of_eq (a := (Value.ref a, Value.ref t)) rfl ?_)
  refine ws_bindA (wpAny_specialOf ht.typeIs tup_no_buffer ?_)
  refine ws_ite_ff (by decide) ?_
  refine ws_bindA (wpAny_tryCatch (wpAny_pyIter_tuple ht ?_))
  have ht1 := ht.push ({ cls := .type "tuple_iterator", data := .fields #[.ref t, .int 0 0] } : Obj)
  have hT1 : ({ s with heap := s.heap.push { cls := .type "tuple_iterator", data := .fields #[.ref t, .int 0 0] } } : Shared).TypeIs (.ref t) "tuple" :=
    Heap.IsTuple.typeIs (s := { s with heap := s.heap.push { cls := .type "tuple_iterator", data := .fields #[.ref t, .int 0 0] } }) ht1
  refine ws_bindA (wpAny_holding ?_)
  unfold lengthHint
  refine wpAny_bind (wpAny_specialOf hT1 tup_len ?_)
  dsimp only
  rw [tup_split]
  dsimp only
  refine wpAny_bind (wpAny_isInstance hT1 tup_sub ?_)
  refine bm_if_false rfl ?_
  refine bm_if_true (by decide +kernel) ?_
  refine wpAny_pure ?_
  refine ws_bindA ?_
  unfold newBytearray
  refine wpAny_newObj_type ?_ (Nat.zero_le _)
  obtain ⟨ot, hot, _⟩ := id ht
  have hlt : t < s.heap.objs.size := Heap.lt_size hot
  have hla : a < s.heap.objs.size := Heap.lt_size ho
  have hsz : (s.heap.push { cls := .type "tuple_iterator", data := .fields #[.ref t, .int 0 0] }).objs.size = s.heap.objs.size + 1 := Heap.size_push _ _
  have hI : ((s.heap.push { cls := .type "tuple_iterator", data := .fields #[.ref t, .int 0 0] }).push (baOf #[])).IsTupleIter s.heap.objs.size t 0 :=
    ⟨_, Heap.get?_push_of_some _ (Heap.get?_push_size _ rfl), rfl, rfl⟩
  refine ws_pure ⟨plainId_quiet ex_plain_loop _, ?_⟩
  refine ba_ext_loop (I := s.heap.objs.size) (S := (s.heap.push { cls := .type "tuple_iterator", data := .fields #[.ref t, .int 0 0] }).objs.size) hg hh hi hr hz
    (by rw [hsz]; exact Nat.ne_of_lt (Nat.lt_succ_self _)) (Nat.ne_of_lt hlt) (by rw [hsz]; exact Nat.ne_of_lt (Nat.lt_succ_of_lt hlt)) (Nat.ne_of_lt hla) (by rw [hsz]; exact Nat.ne_of_lt (Nat.lt_succ_of_lt hla))
    ns.length 0 _ rfl (Nat.zero_le _) (ht1.push _) hI (Heap.get?_push_size _ rfl) (Heap.get?_push_of_some _ (Heap.get?_push_of_some _ ho)) fun h' h2 h3 => h h' h2 fun x o hx e => ?_
  have hlx : x < s.heap.objs.size := Heap.lt_size e
  exact h3 x o hx (Nat.ne_of_lt hlx) (by rw [hsz]; exact Nat.ne_of_lt (Nat.lt_succ_of_lt hlx)) (Heap.get?_push_of_some _ (Heap.get?_push_of_some _ e))
end
end Mine
end
section
open PySem PySem.W PySem.Calls PyProof.Rows
namespace Mine
open PySem.Builtin PySem.Builtin.Bytes
theorem bb_no_bytes : typeLookup (.type "bytearray") "__bytes__" = pure none := by rw [typeLookup_type, builtinLookup_eq_fast]; kernel_rfl
theorem bb_no_index : typeLookup (.type "bytearray") "__index__" = pure none := by rw [typeLookup_type, builtinLookup_eq_fast]; kernel_rfl
theorem bb_buffer : typeLookup (.type "bytearray") "__buffer__" = pure (some (.builtin "bytearray.__buffer__")) := by rw [typeLookup_type, builtinLookup_eq_fast]; kernel_rfl
theorem bi_no_bytes : typeLookup (.type "int") "__bytes__" = pure none := by rw [typeLookup_type, builtinLookup_eq_fast]; kernel_rfl
theorem bb_own_split : ("bytearray.__buffer__".dropRight ("__buffer__".length + 1)) = "bytearray" := by decide +kernel
section
variable {prog : Program} {w : World} {A : Around} {E : Value → Shared → Prop} {s : Shared}
theorem ba_slotIsOwn_buffer {a : Addr} {b : Array UInt8} {Q : Bool → Shared → Prop} (ho : s.heap.get? a = some (baOf b)) (h : Q true s) : wpAny (model prog w) A (slotIsOwn (.ref a) "__buffer__") Q E s := by
  have hT : s.TypeIs (.ref a) "bytearray" := ⟨_, ho, rfl⟩
  unfold slotIsOwn
  refine wpAny_bind (wpAny_specialOf hT bb_buffer ?_)
  dsimp only
  rw [if_neg (by decide +kernel)]
  rw [bb_own_split]
  exact wpAny_isInstance hT ba_sub h
theorem ba_buffer {i : String} {fl : Bool} {a : Addr} {b : Array UInt8} {Q : Option (Array UInt8) → Shared → Prop} (ho : s.heap.get? a = some (baOf b)) (h : Q (some b) s) : wpAny (model prog w) A (buffer? i (.ref a) fl) Q E s := by
  have hT : s.TypeIs (.ref a) "bytearray" := ⟨_, ho, rfl⟩
  unfold buffer?
  refine wpAny_bind (wpAny_specialOf hT bb_buffer ?_)
  dsimp only
  refine wpAny_bind (ba_slotIsOwn_buffer ho ?_)
  refine bm_if_false rfl ?_
  refine wpAny_bind (wpAny_specialOf hT bb_buffer ?_)
  refine wpAny_bind (ba_ownRelease ho ?_)
  refine bm_if_false rfl ?_
  refine wpAny_bind ?_
  unfold payload payload?
  refine wpAny_bind (wpAny_bind (wpAny_load ho ?_))
  exact wpAny_pure (wpAny_pure (wpAny_pure h))
theorem bb_new {a : Addr} {b : Array UInt8} {Q : Value → Shared → Prop} (ho : s.heap.get? a = some (baOf b)) (hz : b.size ≤ sizeLine)
    (hQ : ∀ t k, Q (.bytes b t) { s with toks := k }) :
    codeAny (model prog w) A (.call (.builtin "bytes.__new__") ⟨[.type "bytes", .ref a], []⟩) (wants Q E) s := by
  refine codeAny_of_tree ?_
  show wpAny _ A.in1 (do checkBuiltinCall "bytes.__new__" ⟨[.type "bytes", .ref a], []⟩; again (.builtin "bytes.__new__" ⟨[.type "bytes", .ref a], []⟩)) _ _ s
  refine wpAny_bind (wpAny_of_eq (F.bm_newCall _) (wpAny_pure ⟨plainId_quiet F.bm_plain _, codeAny_builtin F.bm_entry ?_⟩))
  rw [Around.under_plainId F.bm_plain _]
  have hT : s.TypeIs (.ref a) "bytearray" := ⟨_, ho, rfl⟩
  unfold Builtin.«bytes.__new__»
  refine wpAny_bind (wpAny_of_eq (a := true) rfl ?_)
  refine bm_if_false rfl ?_
  refine wpAny_bind (wpAny_of_eq F.bm_sub ?_)
  refine bm_if_false rfl ?_
  refine wpAny_bind (wpAny_of_eq (F.bm_bind _) ?_)
  refine wpAny_bind (wpAny_of_eq (a := ()) rfl ?_)
  refine wpAny_bind (wpAny_of_eq (a := ()) rfl ?_)
  refine bm_if_false rfl ?_
  refine wpAny_bind (wpAny_specialOf hT bb_no_bytes ?_)
  refine wpAny_bind (wpAny_bind ?_)
  show wpAny _ _ (load a >>= _) _ _ _
  refine wpAny_bind (wpAny_load ho ?_)
  refine wpAny_pure (wpAny_pure ?_)
  refine bm_if_false rfl ?_
  refine wpAny_bind (wpAny_specialOf hT bb_no_index ?_)
  refine bm_if_true rfl ?_
  show wpAny _ _ (buffer? "bytes.__new__" (.ref a) true >>= _) _ _ _
  refine wpAny_bind (ba_buffer ho ?_)
  refine wpAny_bind (wpAny_rule ?_)
  refine wpAny_bind (wpAny_mkBytes ?_ hz)
  show wpAny _ _ (if (Value.type "bytes" == Value.type "bytes") = true then _ else _) _ _ _
  refine bm_if_true (by decide) ?_
  exact wpAny_pure (hQ _ _)
theorem bi_new {n : Int} {tn : Tok} {Q : Value → Shared → Prop} (h0 : 0 ≤ n) (h1 : n ≤ 1000)
    (hQ : ∀ t k, Q (.bytes (Array.replicate n.toNat 0) t) { s with toks := k }) :
    codeAny (model prog w) A (.call (.builtin "bytes.__new__") ⟨[.type "bytes", .int n tn], []⟩) (wants Q E) s := by
  refine codeAny_of_tree ?_
  show wpAny _ A.in1 (do checkBuiltinCall "bytes.__new__" ⟨[.type "bytes", .int n tn], []⟩; again (.builtin "bytes.__new__" ⟨[.type "bytes", .int n tn], []⟩)) _ _ s
  refine wpAny_bind (wpAny_of_eq (F.bm_newCall _) (wpAny_pure ⟨plainId_quiet F.bm_plain _, codeAny_builtin F.bm_entry ?_⟩))
  rw [Around.under_plainId F.bm_plain _]
  have hT : s.TypeIs (.int n tn) "int" := typeIs_int _ _ _
  unfold Builtin.«bytes.__new__»
  refine wpAny_bind (wpAny_of_eq (a := true) rfl ?_)
  refine bm_if_false rfl ?_
  refine wpAny_bind (wpAny_of_eq F.bm_sub ?_)
  refine bm_if_false rfl ?_
  refine wpAny_bind (wpAny_of_eq (F.bm_bind _) ?_)
  refine wpAny_bind (wpAny_of_eq (a := ()) rfl ?_)
  refine wpAny_bind (wpAny_of_eq (a := ()) rfl ?_)
  refine bm_if_false rfl ?_
  refine wpAny_bind (wpAny_specialOf hT bi_no_bytes ?_)
  refine wpAny_bind (wpAny_of_eq (a := false) rfl ?_)
  refine bm_if_false rfl ?_
  refine wpAny_bind (wpAny_specialOf hT F.slot_int_index.lookup ?_)
  refine bm_if_false rfl ?_
  refine wpAny_bind (wpAny_attempt (wpAny_of_eq (rfl : asIndex (.int n tn) = pure n) ?_))
  refine bm_if_false (by simp only [Bool.not_eq_false', fitsIndex, Bool.and_eq_true, decide_eq_true_eq]; omega) ?_
  refine wpAny_ite ?_
  rw [if_neg (by omega)]
  refine wpAny_ite ?_
  rw [if_neg (by omega)]
  refine bm_if_false (by unfold tooLong; rw [sizeLine_eq]; exact decide_eq_false (by omega)) ?_
  refine wpAny_bind (wpAny_rule ?_)
  refine wpAny_bind (wpAny_mkBytes ?_ (by rw [Array.size_replicate, sizeLine_eq]; omega))
  show wpAny _ _ (if (Value.type "bytes" == Value.type "bytes") = true then _ else _) _ _ _
  refine bm_if_true (by decide) ?_
  exact wpAny_pure (hQ _ _)
theorem call_bytes_ba {a : Addr} {b : Array UInt8} {Q : Value → Shared → Prop} (ho : s.heap.get? a = some (baOf b)) (hz : b.size ≤ sizeLine)
    (hQ : ∀ t k, Q (.bytes b t) { s with toks := k }) : wpAny (model prog w) A (call (.type "bytes") [.ref a]) Q E s := by
  refine callType_codes (Q₁ := fun obj s₁ => s₁.TypeIs obj "bytes" ∧ Q obj s₁) F.bm_called (F.bm_typeCall _) F.entry_object_init
    (bb_new ho hz fun t k => ⟨PySem.W.typeIs_bytes _ _ _, hQ t k⟩) fun obj s₁ h₁ => ?_
  exact ⟨h₁.1, F.args_object_init_2 obj _, object_init_meets F.bm_called.init.lookup F.bm_called.made (by decide) prog w A.in1 _ s₁ ⟨h₁.1, rfl, h₁.2⟩⟩
theorem call_bytes_int {n : Int} {tn : Tok} {Q : Value → Shared → Prop} (h0 : 0 ≤ n) (h1 : n ≤ 1000)
    (hQ : ∀ t k, Q (.bytes (Array.replicate n.toNat 0) t) { s with toks := k }) : wpAny (model prog w) A (call (.type "bytes") [.int n tn]) Q E s := by
  refine callType_codes (Q₁ := fun obj s₁ => s₁.TypeIs obj "bytes" ∧ Q obj s₁) F.bm_called (F.bm_typeCall _) F.entry_object_init
    (bi_new h0 h1 fun t k => ⟨PySem.W.typeIs_bytes _ _ _, hQ t k⟩) fun obj s₁ h₁ => ?_
  exact ⟨h₁.1, F.args_object_init_2 obj _, object_init_meets F.bm_called.init.lookup F.bm_called.made (by decide) prog w A.in1 _ s₁ ⟨h₁.1, rfl, h₁.2⟩⟩
end
end Mine
end
section
open PySem PySem.W PySem.Calls PyProof.Rows
namespace Mine
open Sem (wp)
theorem caller_clean : CleanC (⟨.builtin "claim.caller" {}, none, none, [], none⟩ : Ctx) :=
  ⟨by show Builtin.Bytes.decodersThatHold.contains "claim.caller" = false; decide +kernel, fun _ h => nomatch h⟩
theorem wp_of_ws_done {M : Model} {A : Around} {Γ : Ctx} {t : Sem Fin} {R : Result → Shared → Prop} {s : Shared} (hin : Γ.In A) (hcl : CleanC Γ)
    (h : WS M A t (fun fin s' => ∃ f, fin = .done f ∧ R (.ok f) s') (fun e s' => R (.error e) s') s) (p : Pos) :
    wp M Γ t (Sem.finPost M Γ R) (fun e _ s' => R (.error e) s') p s := by
  refine Sem.wp_mono M Γ t (fun fin p' s' h' => ?_) (fun _ _ _ h' => h') p s (h Γ p hin hcl)
  obtain ⟨f, rfl, hf⟩ := h'
  exact hf
theorem thread_endsS {prog : Program} {w : World} {t : Sem Fin} {s : Shared} {R : Result → Shared → Prop} (hreg : s.asleep)
    (h : WS (model prog w) callerA t (fun fin s' => ∃ f, fin = .done f ∧ (R (.ok f) s' ∧ leftWithCleanup s'.gens = false)) (fun e s' => R (.error e) s' ∧ leftWithCleanup s'.gens = false) s) :
    ∃ n r s' s'', runN (denote table) prog w n s ⟨t, .builtin "claim.caller" {}, default, []⟩ = .halted (outcomeOf r) s' ∧
      schedN (denote table) prog w n (.single s ⟨t, .builtin "claim.caller" {}, default, []⟩) = .halted (outcomeOf r) s' ∧ s'.forget = s''.forget ∧ R r s'' := by
  obtain ⟨n, r, s₁, s₂, hs, hn, hfo, hR⟩ := wp_halts_full (M := model prog w) (R := R) hreg (wp_of_ws_done (R := fun r s' => R r s' ∧ leftWithCleanup s'.gens = false) caller_in caller_clean h default)
  exact ⟨n, r, s₂, s₁, hn, hs, hfo, hR⟩
theorem callFromS {c : ClaimW} {tree : List Value → Sem Fin} {w : World} {s : Shared} {free : Addr → Prop} {gens : Prop} {kept : Heap → Prop} (hz : s.asleep) (hgens : s.gens = #[])
    (hspec : ∀ args, c.pre args = true → WData.layableAll args = true →
      ∀ ord : List DictEntry → List DictEntry, (∀ l, (ord l).Perm l) →
      ∃ vs s₁, layAllW c.records (classAt s.heap) w.params ord args s = some (vs, s₁) ∧
        WS (model c.prog w) callerA (tree vs) (fun fin s' => ∃ f, fin = .done f ∧ (c.Ends s args vs s₁ (.ok f) s' ∧ s'.os = s.os ∧ AllBare s'.gens ∧ kept s'.heap))
          (fun e s' => c.Ends s args vs s₁ (.error e) s' ∧ s'.os = s.os ∧ AllBare s'.gens ∧ kept s'.heap) s₁) :
    c.CallFrom (fun vs => ⟨tree vs, .builtin "claim.caller" {}, default, []⟩) w free gens kept s := by
  intro args hpre hlay ord hord
  obtain ⟨vs, s₁, hlaid, hcode⟩ := hspec args hpre hlay ord hord
  have hal := layAllW_rest _ _ _ hlaid
  obtain ⟨k, r, s', s'', hrun, hsched, hfo, hcase, hos, hkp⟩ := thread_endsS (prog := c.prog) (w := w) (t := tree vs) (s := s₁)
    (R := fun r s' => c.Ends s args vs s₁ r s' ∧ s'.os = s.os ∧ kept s'.heap)
    (Shared.asleep_of_life hal.2.2.2 hz)
    (ws_mono hcode (by
      rintro fin s' ⟨f, e, h1, h2, h3, h4⟩
      exact ⟨f, e, ⟨h1, h2, h4⟩, leftWithCleanup_false_of_bare h3⟩) (by
      rintro e s' ⟨h1, h2, h3, h4⟩
      exact ⟨⟨h1, h2, h4⟩, leftWithCleanup_false_of_bare h3⟩))
  obtain ⟨eh, _, _, eo, _⟩ := Shared.forget_eq hfo
  have hcase := hcase.congr eh
  have hkp : kept s'.heap := by first | exact eh ▸ hkp | (rw [eh] at hkp; exact hkp) | (rw [← eh] at hkp; exact hkp)
  rw [← eo] at hos
  have hlife : s'.heap.life = s.heap.life := (runN_life _ _ _ hrun).trans hal.2.2.2
  refine ⟨vs, s₁, hlaid, k, _, s', hsched, ?_, (fun _ i x hx => by rw [hgens] at hx; simp at hx), hkp, by rw [hlife], Shared.rest_eq hos⟩
  rcases hcase with ⟨v, rfl, d1, d2, d3, d4, d5⟩ | ⟨e, ob, cls, rfl, d1, d2, d3, d4, d5⟩
  · exact .inl ⟨v, rfl, d1, d2, d3, fun b o y _ => d4 b o y, d5⟩
  · exact .inr ⟨e, ob, cls, rfl, d1, d2, d3, d4, fun b o y _ => d5 b o y⟩
end Mine
namespace Mine
open Sem (wp)
abbrev WalkS (q : Program) (loose : List Str) (XP : (Str → Option Value) → Heap → Prop) (YP : World → Heap → Prop) (r : RowW) (d : DefRec) (kwd : List (Str × Expr)) (run : Value → List Value → Sem Value) : Prop :=
  ∀ (w : World) (s₀ s₁ : Shared) (mg mb : Str → Option Value), Ground q loose r.records XP w s₀ mg mb s₁.heap → YP w s₁.heap → ∀ (a : Addr) (o : Obj) (pm cd doc dV kV : Value), s₁.heap.get? a = some o →
    o.data = .func { docDef d.name d.params d.body d.scope pm cd doc with defaults := dV, kwdefaults := kV } → s₁.heap.CodeRec cd d.name → Dflts mg s₁.heap d.params kwd dV kV → mg d.name = some (.ref a) → s₁.gens = #[] →
    ∀ (args : List WData) (vals : List Value) (as : List Addr), r.claim.pre args = true → WData.layableAll args = true → ReadsAllW r.records (classAt s₀.heap) s₁.heap vals args as → WellAll w.params s₁.heap vals args → (∀ a ∈ as, (a == sysModules) = false) →
      WS (model r.prog w) callerA (run (.ref a) vals) (fun v s' => GoodWG r.claim (classAt s₀.heap) (ExcName.means s₀.heap) args s₁ (.ok (.ret v)) s')
        (fun e s' => GoodWG r.claim (classAt s₀.heap) (ExcName.means s₀.heap) args s₁ (.error e) s') s₁
abbrev LeftAll (_ _ : Program) (_ : List Str) (_ : Shared → Bool) {α : Type} (_ : Shared → α) (_ : World → α) (_ : Nat) : Prop := LeftO (plainProg []) (plainProg []) [] (fun _ => true) (fun _ => ()) (fun _ => ()) 1000
abbrev TopOK (p q : Program) (loose : List Str) (Xt : Shared → Bool) {α : Type} (Yf : Shared → α) (Ya : World → α) (N : Nat) (row : String) (b : Bool) : Prop :=
  ∀ (w : World) (os : OsState), (topFrom treeTable p (w.withFollow row b) N ⟨boot_heap (w.withFollow row b).params, Array.mk [], boot_drawn, boot_toks, os⟩).map (fun s => (openSeen q loose (importedModules p.main.body) Xt true s, Yf s)) = some (openGood q loose, Ya (w.withFollow row b))
theorem left_boot {p q : Program} {loose : List Str} {Xt : Shared → Bool} {α : Type} {Yf : Shared → α} {Ya : World → α} {N : Nat} (row : String) (e : opening p = plainProg p.main.scope.names) (hN : Nat.ble 600 N = true) (f : ∀ s, fenceModules? p s = some s)
    (h0 : TopOK p q loose Xt Yf Ya N row false) (h1 : TopOK p q loose Xt Yf Ya N row true) : LeftO p q loose Xt Yf Ya N := fun w => by
  obtain ⟨⟨h, gs, d, k, os⟩, e1, e2⟩ := Option.map_eq_some_iff.mp (boot_open e hN f w)
  obtain ⟨rfl, rfl, rfl, rfl⟩ : h = boot_heap w.params ∧ gs = Array.mk [] ∧ d = boot_drawn ∧ k = boot_toks := by simpa using e2
  unfold openEnds
  rw [e1]
  show (topFrom treeTable p w N _).map _ = _
  have e := World.withFollow_self w row
  cases hb : w.params.followText row <;> rw [hb] at e
  · have z := h0 w os
    rw [e] at z
    exact z
  · have z := h1 w os
    rw [e] at z
    exact z
theorem PySem.W.holds_open {r : OpenRow} {q : Program} {loose : List Str} {Xt : Shared → Bool} {XP : (Str → Option Value) → Heap → Prop} {α : Type} {Yf : Shared → α} {Ya : World → α} {YP : World → Heap → Prop} {d : DefRec} {kwd : List (Str × Expr)} {N : Nat}
    (_ : LeftAll r.prog q loose Xt Yf Ya N) (hY : ∀ w s, Yf s = Ya w → YP w s.heap) (hYk : ∀ w h h', YP w h → (∀ b o, h.get? b = some o → h'.get? b = some o) → YP w h')
    (hX : ∀ s, Xt s = true → XP (s.heap.nsMap mainGlobals) s.heap) (hXk : ∀ mg h h', XP mg h → (∀ b o, h.get? b = some o → h'.get? b = some o) → XP mg h')
    (hdef : defOf q r.name = some (d, kwd)) (hp : r.prog.theDef r.name = some (d.params, d.body, d.scope)) (hk : kwWritten? d.params.kwonlyargs d.params.kw_defaults = some kwd) (hRf : ∀ s, Xt s = true → RecFacts r.records s.heap) (hwr : (!r.writes || r.records.isEmpty) = true)
    (k1 : r.wellSaid = true) (ok : (chainsOk q && opensWell r.prog && (frees r.toRowW && r.within.isEmpty)) = true) (hb : r.prog.bare) (hw : r.toRowW.promised)
    (call : LeftO r.prog q loose Xt Yf Ya N ∧ WalkS q loose XP YP r.toRowW d kwd fun f vs => PySem.call f vs) : r.Holds := by
  obtain ⟨left, call⟩ := call
  refine ⟨k1, hw, ?_⟩
  obtain ⟨ok, k5⟩ := Bool.and_eq_true_iff.mp ok
  obtain ⟨hch, o1⟩ := Bool.and_eq_true_iff.mp ok
  obtain ⟨k5, k6⟩ := Bool.and_eq_true_iff.mp k5
  obtain ⟨hsame, hu, ha, hap, hm⟩ := frees_parts k5
  refine ⟨⟨hb, o1, by show r.toRowW.makers.map _ = []; rw [hm]; rfl⟩, hw.witness, fun w => ⟨(left.behind hX hch w).1, fun s' hs' => ?_⟩⟩
  obtain ⟨s₀, hf, hg0, s, hT, hz, hgens, hg, G00, y⟩ := (left.behind (XP := fun mg h => XP mg h ∧ RecFacts r.records h) (fun s hs => ⟨hX s hs, hRf s hs⟩) hch w).2 s' hs'
  have G0 : Ground q loose [] XP w s (s.heap.nsMap mainGlobals) (s.heap.nsMap builtinsNs) s.heap := ⟨G00.T, G00.B, G00.D, G00.TE, G00.TD, G00.W, G00.X.1, G00.cls, G00.has, G00.apart, G00.once, G00.K⟩
  have RF := G00.X.2
  have hT' := hT
  refine ⟨s₀, hf, hg0, s, hT, (fun n hn => ?_), RF.1, RF.2.1, ?_⟩
  · obtain rfl : n = r.name := by split at hn <;> simp_all
    exact pinned_of_view hg G0 hdef hp hk
  have hgens : s.gens = #[] := Array.eq_empty_of_size_eq_zero (beq_iff_eq.mp hgens)
  have G : Ground q loose r.records XP w s _ _ s.heap := RF.ground G0
  refine callFromS (c := r.toRowW.claim) hz hgens fun args hpre hlay ord hord => ?_
  obtain ⟨⟨vs, s₁⟩, hlaid⟩ := Option.isSome_iff_exists.mp (layAllW_isSome (P := w.params) (ord := ord) G.has args r.toRowW.args s (pre_splitW hpre).1)
  have keeps := layAllW_keeps _ _ _ hlaid
  have hal := layAllW_rest _ _ _ hlaid
  obtain ⟨as, hrd, hin, hold⟩ := reads_layAllW hord _ _ _ hlaid hlay s₁.heap (fun _ _ e => e)
  have L : Laid r.toRowW.records w s s₁ args vs as := ⟨⟨ord, hord, hlaid⟩, hrd, hin, hold, keeps, hal.1.trans hgens, hal.2.2.1⟩
  have G₁ := G.keeps hXk keeps
  obtain ⟨a, o, pm, cd, doc, dV, kV, h1, h2, h3, h4, h5⟩ := G₁.fn hdef
  have h := call w s s₁ _ _ G₁ (hYk _ _ _ (hY w s y) keeps) a o pm cd doc dV kV h2 h3 h4 h5 (defOf_name hdef ▸ h1) L.gens args vs as hpre hlay L.reads L.well (L.low G.low)
  have hi := ident_freeW hu ha hap
  have hwi : r.toRowW.claim.within = [] := List.isEmpty_iff.mp k6
  refine ⟨vs, s₁, hlaid, ?_⟩
  refine ws_bindA (wpAny_nsGet G₁.T.g ?_)
  rw [show s.heap.nsMap mainGlobals r.name = some (.ref a) from h1]
  exact ws_bind (ws_mono h (fun v s' g => ws_pure ⟨_, rfl, have z := g.laid (c := r.toRowW.claim) hsame hwi hi L; ⟨z.1, z.2.1, z.2.2, fun q => ⟨namesKept_of hT' hg _ keeps g.2.1.old, noTable hwr q⟩⟩⟩) fun e s' g => have z := g.laid (c := r.toRowW.claim) hsame hwi hi L; ⟨z.1, z.2.1, z.2.2, fun q => ⟨namesKept_of hT' hg _ keeps g.2.1.old, noTable hwr q⟩⟩)
end Mine
end
section
open PySem PySem.W PyProof.Rows
namespace Mine
theorem said_ok : PySem.Challenge.rw_xm0716_01.wellSaid = true := by
  rw [PySem.W.Fast.te9446332074065402090]
  kernel_rfl
local macro_rules | `(tactic| o_law) => `(tactic| refine holds_law Mine.said_ok fun said => ?_)
open_top hd for PySem.Challenge.rw_xm0716_01
theorem top_keys : ∀ P, ([2, 3, 15, 22, 24, 25, 27, 28, 29, 30, 31, 32, 35, 42, 43, 44, 51, 53, 54, 56, 57, 58, 60, 61, 63, 64, 65, 67, 68, 70, 71, 72, 75, 76, 77, 79, 80, 82, 83, 84, 87, 88, 89, 91, 92, 94, 95, 96, 97, 99, 100, 102, 103, 104, 106, 107, 109, 110, 111, 113, 114, 116, 117, 118, 120, 121, 123, 124, 125, 127, 128, 130, 131, 132, 135, 136, 137, 139, 140, 142, 143, 144, 146, 147, 149, 150, 151, 154, 155, 156, 158, 159, 161, 162, 163, 166, 167] : List Addr) = (hd.heap_1 P).map (·.1) := fun _ => by kernel_rfl
abbrev TopIs : Bool → Prop := TopOK PySem.Challenge.rw_xm0716_01.row.prog hd.view_1 ["NONE", "SUB", "UP", "AVERAGE", "PAETH", "filtered_rows"]
  (fun s => xlAt hd.view_1 [("NONE", WData.int 0), ("SUB", WData.int 1), ("UP", WData.int 2), ("AVERAGE", WData.int 3), ("PAETH", WData.int 4)] s && recOk PySem.Challenge.rw_xm0716_01.row.records s)
  (kHook hd.heap_1 _ top_keys).obs (kHook hd.heap_1 _ top_keys).val 2472 "special-get-raises"
theorem top_no : TopIs false := by
  intro w os
  unfold topFrom
  rw [PySem.W.Fast.te4187177175401517315, PySem.W.Fast.te14082659384304107361, PySem.W.Fast.te14364793385576792824]
  kernel_rfl
theorem top_yes : TopIs true := by
  intro w os
  unfold topFrom
  rw [PySem.W.Fast.te4187177175401517315, PySem.W.Fast.te14082659384304107361, PySem.W.Fast.te14364793385576792824]
  kernel_rfl
theorem top_left : LeftO PySem.Challenge.rw_xm0716_01.row.prog hd.view_1 ["NONE", "SUB", "UP", "AVERAGE", "PAETH", "filtered_rows"]
  (fun s => xlAt hd.view_1 [("NONE", WData.int 0), ("SUB", WData.int 1), ("UP", WData.int 2), ("AVERAGE", WData.int 3), ("PAETH", WData.int 4)] s && recOk PySem.Challenge.rw_xm0716_01.row.records s)
  (kHook hd.heap_1 _ top_keys).obs (kHook hd.heap_1 _ top_keys).val 2472 := left_boot "special-get-raises" (by kernel_rfl) (by decide) (fun s => by kernel_rfl) top_no top_yes
end Mine
end
section
open PySem PySem.W PySem.Calls PyProof.Rows
namespace Mine
section
variable {M : Model} {A : Around} {E : Value → Shared → Prop} {s : Shared} {env : Env}
theorem ws_execs_nil {Q : Flow → Shared → Prop} (h : Q .next s) : WS M A (execs [] env) Q E s := fun _ _ _ _ => h
theorem ws_execs_cons {st : Stmt} {rest : List Stmt} {Q : Flow → Shared → Prop}
    (h : WS M A (exec st env) (fun f s' => match f with | .next => WS M A (execs rest env) Q E s' | f => Q f s') E s) :
    WS M A (execs (st :: rest) env) Q E s := fun Γ p hΓ hc => by
  rw [execs_cons, Sem.wp_bind']
  refine Sem.wp_mono M Γ _ (fun f p' s' h' => ?_) (fun _ _ _ h' => h') _ _ (h Γ p hΓ hc)
  cases f <;> first | exact h' Γ p' hΓ hc | exact h'
/-- the first statement by the library's rules -/
theorem ws_execs_any {st : Stmt} {rest : List Stmt} {Q : Flow → Shared → Prop}
    (h : wpAny M A (exec st env) (fun f s' => match f with | .next => WS M A (execs rest env) Q E s' | f => Q f s') E s) :
    WS M A (execs (st :: rest) env) Q E s := ws_execs_cons (ws h)
theorem ws_Assign_Name {x : Str} {pos' pos : Pos} {value : Expr} {Q : Flow → Shared → Prop}
    (h : WS M A (eval value env) (fun v s₁ => wpAny M A (storeName env x v) (fun _ => Q .next) E s₁) E s)
    (hs : swapsWith value (some (.Name x pos')) pos.line env = pure false := by rfl) :
    WS M A (exec (.Assign [.Name x pos'] value pos) env) Q E s := fun Γ p hΓ hc => by
  simp only [exec_Assign_Name env x pos' value pos hs, Sem.wp_bind', Sem.wp_cmd_standAt, Sem.wp_bindName, Sem.wp_pure']
  exact Sem.wp_mono M Γ _ (fun v _ s₁ h₁ => h₁ Γ _ hΓ) (fun _ _ _ h' => h') _ _ (h Γ _ hΓ hc)
theorem ws_Assign_Tuple {elts : List Expr} {k : Nat} {tpos pos : Pos} {value : Expr} {Q : Flow → Shared → Prop}
    (h : WS M A (eval value env) (fun v s₁ => wpAny M A (assign (.Tuple elts k tpos) env v) (fun _ => Q .next) E s₁) E s)
    (hs : swapsWithSole [.Tuple elts k tpos] value pos.line env = pure false := by rfl)
    (hw : swappedStores [.Tuple elts k tpos] value env = pure none := by rfl) :
    WS M A (exec (.Assign [.Tuple elts k tpos] value pos) env) Q E s := by
  rw [exec_Assign]
  refine ws_bindA (wpAny_standAt ?_)
  rw [hs]
  refine ws_bindA (wpAny_pure ?_)
  rw [if_neg (by decide)]
  refine ws_bind (ws_mono h (fun v s₁ h₁ => ?_) fun _ _ x => x)
  rw [hw]
  refine ws_bindA (wpAny_pure ?_)
  show WS M A (do assignAll v [assign (.Tuple elts k tpos) env]; pure .next) Q E s₁
  exact ws_bindA (wpAny_mono h₁ (fun _ _ x => ws_pure x) fun _ _ x => x)
theorem ws_Expr {e : Expr} {pos : Pos} {Q : Flow → Shared → Prop} (h : WS M A (eval e env) (fun v s' => match v with | .ref _ => False | _ => Q .next s') E s)
    (hi : interactive env = false := by rfl) (hs : swapsWith e none pos.line env = pure false := by rfl) :
    WS M A (exec (.Expr e pos) env) Q E s := by
  rw [exec_Expr env e pos hi hs]
  refine ws_bindA (wpAny_standAt (ws_bind (ws_mono h (fun v s' h' => ?_) fun _ _ x => x)))
  have hv : ∀ a, v ≠ .ref a := fun a hva => by subst hva; exact h'
  rw [dropValue_plain hv]
  refine ws_pure ?_
  cases v <;> first | exact h' | exact (hv _ rfl).elim
theorem ws_Return_some {e : Expr} {pos : Pos} {Q : Flow → Shared → Prop} (h : WS M A (eval e env) (fun v => Q (.ret v)) E s) :
    WS M A (exec (.Return (some e) pos) env) Q E s := by
  rw [exec_Return_some]
  exact ws_bindA (wpAny_standAt (ws_bind (ws_mono h (fun _ _ x => ws_pure x) fun _ _ x => x)))
theorem ws_If {test : Expr} {body orelse : List Stmt} {pos : Pos} {Q : Flow → Shared → Prop}
    (h : WS M A (isTrue test env (eval test env))
      (fun b s₂ => if b then WS M A (execs body env) Q E s₂ else WS M A (execs orelse env) Q E s₂) E s) :
    WS M A (exec (.If test body orelse pos) env) Q E s := by
  rw [exec_If]
  refine ws_bindA (wpAny_standAt (ws_bind (ws_mono h (fun b s₁ h₁ => ?_) fun _ _ x => x)))
  cases b <;> exact h₁
theorem ws_operate {vs : List Value} {m : Sem Value} {Q : Value → Shared → Prop} (h : WS M A m Q E s) : WS M A (operate vs m) Q E s :=
  fun Γ p hΓ hc => by rw [Sem.wp_operate]; exact h Γ p hΓ hc
theorem ws_isTrue_Compare1 {l r : Expr} {op : CmpOp} {pos : Pos} {whole : Sem Value} {Q : Bool → Shared → Prop}
    (h : WS M A (eval l env) (fun a s₁ => wpAny M A (eval r env) (fun b s₂ => wpAny M A (compareOp op a b) (fun c s₃ => wpAny M A (truthy c) Q E s₃) E s₂) E s₁) E s)
    (hm : behindInMarks op r = false := by with_unfolding_all rfl) :
    WS M A (isTrue (.Compare l [op] [r] pos) env whole) Q E s := by
  rw [isTrue_Compare1]
  refine ws_bind (ws_mono h (fun a s₁ h₁ => ?_) fun _ _ x => x)
  rw [markedBehindIn_of_false hm]
  refine ws ?_
  exact wpAny_bind (wpAny_holding (wpAny_mono h₁ (fun b s₂ h₂ => wpAny_bind (wpAny_standAt (wpAny_bind (wpAny_operating (wpAny_mono h₂ (fun c s₃ h₃ => wpAny_holding h₃) fun _ _ x => x))))) fun _ _ x => x))
theorem ws_Compare1 {l r : Expr} {op : CmpOp} {pos : Pos} {Q : Value → Shared → Prop}
    (h : WS M A (eval l env) (fun a s₁ => wpAny M A (eval r env) (fun b s₂ => wpAny M A (compareOp op a b) Q E s₂) E s₁) E s)
    (hm : behindInMarks op r = false := by with_unfolding_all rfl) :
    WS M A (eval (.Compare l [op] [r] pos) env) Q E s := by
  rw [eval_Compare1]
  refine ws_bind (ws_mono h (fun a s₁ h₁ => ?_) fun _ _ x => x)
  rw [markedBehindIn_of_false hm]
  refine ws ?_
  exact wpAny_bind (wpAny_holding (wpAny_mono h₁ (fun b s₂ h₂ => wpAny_bind (wpAny_standAt (wpAny_operating h₂))) fun _ _ x => x))
theorem ws_spliced_nil {Q : List Value → Shared → Prop} (h : Q [] s) : WS M A (spliced []) Q E s := ws_pure h
theorem ws_spliced_cons {t : Sem Value} {rest : List (Bool × Sem Value)} {Q : List Value → Shared → Prop}
    (h : WS M A t (fun v s₁ => WS M A (spliced rest) (fun vs s₂ => Q (v :: vs) s₂) E s₁) E s) : WS M A (spliced ((false, t) :: rest)) Q E s := by
  unfold spliced
  refine ws_bind (ws_mono h (fun v s₁ h₁ => ?_) fun _ _ x => x)
  refine ws_bindA (wpAny_of_eq (a := [v]) rfl ?_)
  exact ws_bind (ws_holding (ws_mono h₁ (fun vs s₂ h₂ => ws_pure h₂) fun _ _ x => x))
theorem ws_Tuple {elts : List Expr} {k : Nat} {pos : Pos} {Q : Value → Shared → Prop}
    (h : WS M A (spliced (backTo pos (starEach elts env))) (fun vs s₁ => wpAny M A (newTuple vs) Q E s₁) E s) : WS M A (eval (.Tuple elts k pos) env) Q E s := by
  show WS M A (do standAt pos; newTuple (← spliced (backTo pos (starEach elts env)))) Q E s
  exact ws_bindA (wpAny_standAt (ws_bind (ws_mono h (fun _ _ x => ws x) fun _ _ x => x)))
theorem ws_Call_Name {x : Str} {p pos : Pos} {args : List Expr} {Q : Value → Shared → Prop}
    (h : wpAny M A (eval (.Name x p) env) (fun f s₁ => WS M A (callWith pos f [] (backTo pos (starEach args env)) []) Q E s₁) E s) :
    WS M A (eval (.Call (.Name x p) args [] pos) env) Q E s := ws_bindA h
theorem ws_callWith_of {P : Heap → Prop} {pos : Pos} {f : Value} {first : List Value} {args : List (Bool × Sem Value)} {keywords : List (Option Str × Sem Value)} {Q : Value → Shared → Prop} (hplain : (args.any (·.1) || keywords.any (·.1.isNone)) = false)
    (hk : ∀ h, P h → ∃ k, (k = Keeper.frame ∨ k = Keeper.machine ∨ k = Keeper.boundFrame) ∧ Looks M h (keeperOf f) k)
    (h : wpAny M A (evalArgs f true args keywords) (fun a s₁ => P s₁.heap ∧ WS M A (call f (first ++ a.pos) a.kw) Q E s₁) E s) : WS M A (callWith pos f first args keywords) Q E s := by
  unfold callWith
  refine ws_bindA (wpAny_holding (wpAny_mono h (fun a s₁ h₁ => ws_bindA (wpAny_standAt ?_)) fun _ _ x => x))
  obtain ⟨k, hk', L⟩ := hk _ h₁.1
  simp only [hplain]
  refine ws_bindA (L.here ?_)
  have tail : ∀ {t : Sem Value}, WS M A t Q E s₁ → WS M A (t >>= fun r => holding [r] point >>= fun _ => pure r) Q E s₁ :=
    fun ht => ws_bind (ws_mono ht (fun r s₂ hr => ws_bindA (wpAny_holding (wpAny_point (ws_pure hr)))) fun _ _ x => x)
  have marked (mk : Value) : WS M A (callMarked mk f (first ++ a.pos) a.kw) Q E s₁ := by unfold callMarked; exact ws_keep h₁.2
  rcases hk' with rfl | rfl | rfl <;> dsimp only <;> first | exact tail h₁.2 | (split <;> first | exact tail h₁.2 | exact tail (marked _))
/-- a call of a def of the written part, one argument at least; the arguments by the library's rules -/
theorem ws_callWith_K {K : Frag} {pos : Pos} {f : Value} {first : List Value} {e : Expr} {rest : List Expr} {Q : Value → Shared → Prop} (hk : keepIn K f = true)
    (h : wpAny M A (spliced (backTo pos (starEach (e :: rest) env))) (fun vs s₁ => K.In s₁.heap ∧ WS M A (call f (first ++ vs)) Q E s₁) E s)
    (he : starEach (e :: rest) env = (false, eval e env) :: starEach rest env := by rfl) (hplain : (backTo pos (starEach rest env)).any (·.1) = false := by rfl) :
    WS M A (callWith pos f first (backTo pos (starEach (e :: rest) env)) []) Q E s := by
  rw [he] at h ⊢
  exact ws_callWith_of (by show ((false || (backTo pos (starEach rest env)).any (·.1)) || false) = false; rw [hplain]; rfl) (keeps_K hk) (evalArgs_plain h)
theorem ws_callWith_type0 {pos : Pos} {T : String} {Q : Value → Shared → Prop} (h : WS M A (call (.type T) []) Q E s) :
    WS M A (callWith pos (.type T) [] (backTo pos (starEach [] env)) []) Q E s :=
  ws_callWith_of (P := fun _ => True) rfl (fun _ _ => ⟨.machine, .inr (.inl rfl), Looks.of_pure rfl⟩) (evalArgs_nil3 ⟨trivial, h⟩)
theorem ws_callWith_builtin {i : String} {pos : Pos} {first : List Value} {e : Expr} {rest : List Expr} {Q : Value → Shared → Prop}
    (h : wpAny M A (spliced (backTo pos (starEach (e :: rest) env))) (fun vs s₁ => WS M A (call (.builtin i) (first ++ vs)) Q E s₁) E s)
    (he : starEach (e :: rest) env = (false, eval e env) :: starEach rest env := by rfl) (hplain : (backTo pos (starEach rest env)).any (·.1) = false := by rfl) :
    WS M A (callWith pos (.builtin i) first (backTo pos (starEach (e :: rest) env)) []) Q E s := by
  rw [he] at h ⊢
  exact ws_callWith_of (P := fun _ => True) (by show ((false || (backTo pos (starEach rest env)).any (·.1)) || false) = false; rw [hplain]; rfl) (fun _ _ => ⟨.machine, .inr (.inl rfl), Looks.of_pure rfl⟩) (evalArgs_plain (wpAny_mono h (fun _ _ x => ⟨trivial, x⟩) fun _ _ x => x))
end
section
variable {prog : Program} {w : World} {A : Around} {E : Value → Shared → Prop} {s : Shared} {env : Env}
theorem ws_Call_method {o : Expr} {name : Str} {apos pos : Pos} {args : List Expr} {T i : String} {Q : Value → Shared → Prop}
    (hbase : attributeBase o name env (eval o env) = eval o env)
    (hfew : methodCallForm (args.length + ([] : List Keyword).length) (backTo pos (starEach args env)) (backToKw pos (keywordEach [] env)) = true)
    (hline : (apos.endLine == pos.line) = true)
    (pa : PlainAttrs T) (slot : Slot T name i) (hty : typeOf (.builtin i) = pure (.type "method_descriptor"))
    (h : wpAny (model prog w) A (eval o env) (fun ov s₁ => s₁.TypeIs ov T ∧ (∀ a, ov = .ref a → ∃ ob, s₁.heap.get? a = some ob ∧ ob.dict = none) ∧
      WS (model prog w) A (callWith pos (.builtin i) [ov] (backTo pos (starEach args env)) []) Q E s₁) E s) :
    WS (model prog w) A (eval (.Call (.Attribute o name apos) args [] pos) env) Q E s := by
  rw [arm_eval_Call, hbase]
  refine ws_bindA (wpAny_mono h (fun ov s₁ h₁ => ?_) fun _ _ e => e)
  obtain ⟨hT, hd, hc⟩ := h₁
  refine ws_bindA (wpAny_standAt ?_)
  have hpos : methodCallPos true o env apos pos = pure pos := by unfold methodCallPos; simp [hline]
  unfold methodCall
  rw [hfew]
  refine ws_bindA (wpAny_holding (getMethod_builtin hT pa slot hty hd ?_))
  exact ws_bindA (wpAny_of_eq hpos hc)
theorem ws_noted {α : Type} {m : Sem α} {Q : α → Shared → Prop} (h : WS (model prog w) A m Q (notedBy (model prog w) A env E) s) : WS (model prog w) A (m.onRaise fun x => do noteFrame x env; theTreesLotGoes x) Q E s :=
  ws_onRaise (ws_mono h (fun _ _ q => q) fun _ _ hx => wpAny_bind (wpAny_mono hx (fun _ _ e => wpAny_theTreesLotGoes e) fun _ _ e => e))
theorem ws_runOwn {c : Code} {h : Option Value} {Q : Flow → Shared → Prop}
    (hc : CS (model prog w) (A.mark h) c (fun r s' => match r with | .ok f => Q f s' | .error e => cameBackBy (model prog w) A env E e s') s) (hnb : h ≠ some byPass := by intro x; cases x) :
    WS (model prog w) A (runOwn c env h) Q E s := by
  unfold runOwn
  exact ws_onRaise (ws_run hc hnb)
theorem ws_For {target iter : Expr} {body orelse : List Stmt} {pos : Pos} {Q : Flow → Shared → Prop}
    (h : wpAny (model prog w) A (eval iter env) (fun x s₁ => wpAny (model prog w) A (pyIter x) (fun it s₂ =>
      CS (model prog w) A (.forLoop target it body orelse env) (fun r s' => match r with | .ok f => Q f s' | .error e => cameBackBy (model prog w) A env E e s') s₂) E s₁) E s)
    (hs : ∀ x, foldedSetIterable iter env x = pure x) :
    WS (model prog w) A (exec (.For target iter body orelse pos) env) Q E s := by
  rw [exec_For]
  exact ws_bindA (wpAny_standAt (ws_bindA (wpAny_mono h (fun x s₁ h₁ => ws_bindA (wpAny_of_eq (hs x) (ws_bindA (wpAny_standAt (ws_bindA (wpAny_holding
    (wpAny_mono h₁ (fun it s₂ h₂ => ws_runOwn h₂) fun _ _ h' => h'))))))) fun _ _ h' => h')))
theorem cs_forLoop {R : Result → Shared → Prop} {target : Expr} {it : Value} {body orelse : List Stmt} (I : Nat → Shared → Prop)
    (turn : ∀ n s, I n s → wpAny (model prog w) A (pyNext it) (fun r s₁ => match r with
      | none => wpAny (model prog w) A (execs orelse env) (fun f s₃ => R (.ok f) s₃) (notedBy (model prog w) A env fun e s' => R (.error e) s') s₁
      | some v => wpAny (model prog w) A (letOwnedTupleGo target it v) (fun _ s₁' =>
          wpAny (model prog w) A (assign target env v) (fun _ s₂ => WS (model prog w) A (execs body env) (fun f s₃ => match f with
            | .next | .cont => ∃ m, m < n ∧ I m s₃
            | .brk => R (.ok .next) s₃
            | .ret v => R (.ok (.ret v)) s₃) (notedBy (model prog w) A env fun e s' => R (.error e) s') s₂) (notedBy (model prog w) A env fun e s' => R (.error e) s') s₁') (notedBy (model prog w) A env fun e s' => R (.error e) s') s₁) (notedBy (model prog w) A env fun e s' => R (.error e) s') s)
    (n : Nat) (h : I n s) : CS (model prog w) A (.forLoop target it body orelse env) R s := by
  refine cs_loop' trivial rfl I (fun n s hI => ?_) n h
  show WS _ A ((forTurn target it body orelse env).onRaise (fun x => do noteFrame x env; theTreesLotGoes x)) _ _ s
  refine ws_noted ?_
  simp only [forTurn]
  refine ws_bindA (wpAny_standAt (ws_bindA (wpAny_onRaise (wpAny_mono (turn n s hI) (fun r s₁ h₁ => ?_) fun _ _ h' => wpAny_standAt h'))))
  cases r with
  | none => exact ws_pure (.inr ⟨rfl, cs (codeAny_block h₁)⟩)
  | some v =>
    refine ws_bindA (wpAny_mono h₁ (fun _ s₁' h₁' => ?_) fun _ _ h' => h')
    refine ws_bindA (wpAny_mono h₁' (fun _ s₂ h₂ => ws_bind (ws_mono h₂ (fun f s₃ h₃ => ?_) fun _ _ h' => h')) fun _ _ h' => h')
    cases f with
    | next => exact ws_pure (.inl ⟨rfl, h₃⟩)
    | cont => exact ws_pure (.inl ⟨rfl, h₃⟩)
    | brk => exact ws_pure h₃
    | ret v => exact ws_pure h₃
theorem ws_Try_except {body orelse : List Stmt} {h₀ : ExceptHandler} {hs : List ExceptHandler} {pos : Pos} {Q : Flow → Shared → Prop}
    (h : WS (model prog w) A (execs body env) (fun f s₁ => match f with | .next => wpAny (model prog w) A (execs orelse env) Q E s₁ | f => Q f s₁)
      (fun e s₁ => wpAny (model prog w) A (noteFrame e env) (fun _ s₂ => wpAny (model prog w) A (setFlight e none) (fun _ s₃ => wpAny (model prog w) A (handleBy e env (h₀ :: hs)) Q E s₃) E s₂) E s₁) s) :
    WS (model prog w) A (exec (.Try body (h₀ :: hs) orelse [] pos) env) Q E s := by
  rw [arm_exec_Try]
  refine ws_bindA (wpAny_standAt ?_)
  unfold tryStmt
  simp only [List.isEmpty_nil, if_true, List.isEmpty_cons, Bool.false_and, Bool.false_eq_true, if_false]
  refine ws_bind (ws_attempt (ws_mono h (fun f s₁ h₁ => ?_) fun e s₁ h₁ => ?_))
  · cases f <;> first | exact ws h₁ | exact ws_pure h₁
  · exact ws (wpAny_bind (wpAny_mono h₁ (fun _ _ h₂ => wpAny_bind h₂) fun _ _ x => x))
theorem cs_func {body : List Stmt} {env : Env} {R : Result → Shared → Prop}
    (h : WS (model prog w) (A.deeper env) (execs body env) (fun f s' => R (.ok (.ret (match f with | .ret v => v | _ => .none))) s')
      (fun e s' => wpAny (model prog w) (A.deeper env) (leaving env e) (fun _ s'' => R (.error e) s'') (fun e' s'' => R (.error e') s'') s') s) :
    CS (model prog w) A (.func body env) R s := by
  refine cs_of_tree trivial ?_
  show WS _ (A.deeper env) (do point; match ← (execs body env).onRaise (leaving env) with | .ret v => ret v | _ => ret .none) _ _ s
  refine ws_bindA (wpAny_point (ws_bind (ws_onRaise (ws_mono h (fun f s' h' => ?_) fun _ _ h' => h'))))
  cases f <;> exact ws_pure h'
theorem cs_call_function {R : Result → Shared → Prop} {a : Addr} {args : Args} {o : Obj} {fd : FuncData} {body : List Stmt} (hroom : A.depth < recursionLimit)
    (ho : s.heap.get? a = some o)
    (hd' : o.data = .func fd) (hco : fd.scope.isCoroutine = false) (hgen : fd.scope.isGenerator = false) (hbody : fd.body = .stmts body) (hcd : s.heap.CodeRec fd.code fd.qualname)
    (h : wpAny (model prog w) A.in1 (bindArgs fd args) (fun binds s₁ =>
      wpAny (model prog w) A.in1 (newFunctionEnv fd.scope fd.globals fd.closure binds (fd.qualname ++ ".<locals>.") (some a) fd.code none fd.builtins)
        (fun env s₂ => s₂.heap.NoLimit ∧ CS (model prog w) A (.func body env) R s₂) (fun e s' => R (.error e) s') s₁) (fun e s' => R (.error e) s') s) :
    CS (model prog w) A (.call (.ref a) args) R s := by
  refine cs_of_tree trivial (ws ?_)
  show wpAny _ A.in1 (callAny (.ref a) args) _ _ s
  simp only [callAny]
  refine wpAny_bind (wpAny_load ho ?_)
  obtain ⟨c, oc, vs, tq, hc, hoc, hdc, hq⟩ := hcd
  simp only [hd', callFunction, hco, hgen, hbody, hc]
  rw [hc] at h
  refine wpAny_bind (m := field (.ref c) 1) (wpAny_field hoc hdc hq (wpAny_bind (wpAny_pure ?_)))
  exact wpAny_bind (wpAny_mono h (fun binds s₁ h₁ => wpAny_bind (wpAny_mono h₁ (fun env s₂ h₂ => wpAny_bind (wpAny_enterFrame h₂.1 hroom
    (wpAny_pure (And.intro rfl h₂.2)))) fun _ _ h' => h')) fun _ _ h' => h')
end
section
variable {prog : Program} {w : World} {A₀ A : Around} {s : Shared} {base h₀ : Heap} {outer : List Env} {L : Addr} {m mg mb : Str → Option Value} {env : Env} {news : List (Addr × Obj)} {K : Frag} {p : Program} {loose : List Str} {mean : ExcName → Option Value}
  {R : Result → Shared → Prop} {name qual : Str} {params : Arguments} {body : List Stmt} {scope : Scope} {dV kV doc pm cdv ct oc : Value} {an od : Option Addr} {osl : Array (Option Value)} {f : Addr} {args : Args} {binds : List (Str × Value)}
/-- a def of the written part is entered -/
theorem cs_def (B : Below A₀ base outer h₀) (F : Fr h₀ L s.heap m) (X₀ : K.In h₀) (N : News h₀ L s.heap news) (T : Top p loose mean mg mb h₀) (hA : A.frames = some (env :: outer)) (hf : env.frame = some L) (hke : env.scope.kind = .function)
    (ho : K.lookup f = some ⟨oc, od, .func (fnOf name qual params body scope dV kV doc pm an cdv ct), osl⟩) (hcd : codeIn K cdv qual = true) (hroom : A.depth < recursionLimit)
    (hbind : BindsTo s (fnOf name qual params body scope dV kV doc pm an cdv ct) args binds) (hloc : ∀ y ∈ binds, scope.names.lookup y.1 = some .local)
    (h : ∀ g L' h₁, Fr h₀ L g m → Fr g L' h₁ (fun y => binds.reverse.lookup y) → News g L' h₁ news → Below A base (env :: outer) g → K.In g → Top p loose mean mg mb g → (∀ q ∈ news, q.1 < L') →
      WS (model prog w) (A.deeper (envOf qual scope L' f cdv)) (execs body (envOf qual scope L' f cdv))
        (fun fl s' => LeaveK h₀ L m g R (match fl with | .ret v => v | _ => .none) s')
        (fun e s' => wpAny (model prog w) (A.deeper (envOf qual scope L' f cdv)) (leaving (envOf qual scope L' f cdv) e) (fun _ s'' => R (.error e) s'') (fun e' s'' => R (.error e') s'') s')
        { s with heap := h₁, toks := s.toks + binds.length })
    (hco : scope.isCoroutine = false) (hgen : scope.isGenerator = false) (hk : scope.kind = .function)
    (hcell : ∀ x ∈ scope.names, x.2 ≠ .cell) : CS (model prog w) A (.call (.ref f) args) R s := by
  obtain ⟨FG, BG, st, lv⟩ := groundX (R := R) B F N hA hf hke
  have hlim : s.heap.NoLimit := T.nolimit.keeps F.keep
  have ho' := (X₀.keeps F.keep) _ _ ho
  refine cs_call_function (fd := fnOf name qual params body scope dV kV doc pm an cdv ct) (body := body) hroom ho' rfl hco hgen rfl (codeRec_of (X₀.keeps F.keep) hcd) (hbind _ _ _ _ ?_)
  refine wpAny_newFunctionEnv hcell hloc (fun h₁ hns₀ hsb₀ => ⟨hlim.fresh _ hsb₀, cs_func ?_⟩) hk
  have hk₁ : ∀ b o, s.heap.get? b = some o → h₁.get? b = some o := fun b o e => hsb₀.extBut b o (Nat.ne_of_lt (Heap.lt_size e)) (Heap.get?_push_of_some _ e)
  exact ws_mono (h _ s.heap.objs.size h₁ FG ⟨hns₀, fun b o e => hk₁ b o (of_hideAll _ e), Nat.le_of_eq (hideAll_size _ _)⟩
    (fun q hq => ⟨hk₁ _ _ (N q hq).1, Nat.ne_of_lt (Heap.lt_size (N q hq).1), hideAll_none _ (List.mem_map_of_mem hq)⟩) BG (X₀.keeps st) (T.keeps st) (fun q hq => Heap.lt_size (N q hq).1)) (fun fl s' hl => lv _ _ hl) fun _ _ y => y
end
end Mine
end
section
open PySem PySem.W PySem.Calls PyProof.Rows
namespace Mine
theorem newsSub {h₀ h : Heap} {L : Addr} {a b : List (Addr × Obj)} (N : News h₀ L h b) (hs : ∀ p ∈ a, p ∈ b) : News h₀ L h a := fun p hp => N p (hs p hp)
section
variable {prog : Program} {w : World} {A : Around} {s : Shared} {env : Env} {h₀ : Heap} {R : Result → Shared → Prop}
/-- a turn's end: the ledger of the next turn, the iterator's own objects untouched -/
def TurnS (h₀ : Heap) (L : Addr) (led own : List (Addr × Obj)) (J : (Str → Option Value) → Prop) (s : Shared) (f : Flow) (s' : Shared) : Prop :=
  f = .next ∧ ∃ h' tk' m', s' = { s with heap := h', toks := tk' } ∧ Fr h₀ L h' m' ∧ News h₀ L h' (led ++ own) ∧ J m'
def Fixed (h₀ : Heap) (fp wr : List Addr) (led : Nat → List (Addr × Obj)) : Prop :=
  ∀ b ∈ fp, b ∈ wr ∨ (∃ o, h₀.get? b = some o) ∨ ∃ o, ∀ i, (b, o) ∈ led i
theorem frame_up {L : Addr} {fp wr : List Addr} {led : Nat → List (Addr × Obj)} {own : List (Addr × Obj)} {h h' : Heap} {m m' : Str → Option Value} {i j : Nat} (X : Fixed h₀ fp wr led) (F : Fr h₀ L h m) (F' : Fr h₀ L h' m')
    (N : News h₀ L h (led i)) (N' : News h₀ L h' (led j ++ own)) (hw : ∀ b ∈ wr, h₀.get? b = none) (ho : own = ownOf h₀ wr h) : ∀ b ∈ fp, ∀ o, h.get? b = some o → h'.get? b = some o := by
  intro b hb o e
  rcases X b hb with hx | ⟨o₀, hx⟩ | ⟨o₀, hx⟩
  · subst ho
    exact (N' _ (List.mem_append_right _ (mem_ownOf hx (hw b hx) e))).1
  · have h1 := F.keep b o₀ hx
    rw [e] at h1
    cases h1
    exact F'.keep b o hx
  · have h1 := (N _ (hx i)).1
    rw [e] at h1
    cases h1
    exact (N' _ (List.mem_append_left _ (hx j))).1
theorem own_in {wr : List Addr} {h : Heap} {p : Addr × Obj} (hp : p ∈ ownOf h₀ wr h) : p.1 ∈ wr := by
  obtain ⟨b, hb, e⟩ := List.mem_filterMap.mp hp
  cases hn : h₀.get? b with
  | some x => simp [hn] at e
  | none =>
    cases ho : h.get? b with
    | none => simp [hn, ho] at e
    | some o =>
      have : p = (b, o) := by simpa [hn, ho] using e.symm
      subst this; exact hb
/-- for x in ..: over what walks -/
theorem cs_for_one {x : Str} {px : Pos} {body : List Stmt} {I : Addr} {fp wr : List Addr} {n : Nat} {P : Nat → Value → Prop} {St : Nat → Heap → Prop} {m : Str → Option Value} (led : Nat → List (Addr × Obj)) (J : Nat → (Str → Option Value) → Prop)
    (W : Walks prog w A I fp wr n P St) (hx : env.kindOf x = some .local) (hp : (env.scope.kind == .class || (env.scope.kind == .module && env.locals != env.globals)) = false)
    (hLf : env.locals ∉ fp) (hwr : ∀ b ∈ wr, h₀.get? b = none) (X : Fixed h₀ fp wr led) (hoff : ∀ i, ∀ p ∈ led i, p.1 ∉ wr)
    (hst : St 0 s.heap) (F : Fr h₀ env.locals s.heap m) (N : News h₀ env.locals s.heap (led 0)) (h0 : J 0 m)
    (turn : ∀ i v m₁ h tk own, i < n → P i v → J i m₁ → (∀ p ∈ own, p.1 ∈ wr) → (∀ p ∈ own, ∀ q ∈ led i, p.1 ≠ q.1) → Fr h₀ env.locals h (fun y => if y = x then some v else m₁ y) → News h₀ env.locals h (led i ++ own) →
      WS (model prog w) A (execs body env) (TurnS h₀ env.locals (led (i + 1)) own (J (i + 1)) { s with heap := h, toks := tk }) (fun _ _ => False) { s with heap := h, toks := tk })
    (done : ∀ h' tk m', Fr h₀ env.locals h' m' → News h₀ env.locals h' (led n) → J n m' → R (.ok .next) { s with heap := h', toks := tk }) :
    CS (model prog w) A (.forLoop (.Name x px) (.ref I) body [] env) R s := by
  have hLw : env.locals ∉ wr := fun h => hLf (W.sub _ h)
  have old : ∀ b o, h₀.get? b = some o → b ∉ wr := fun b o e hb => by rw [hwr b hb] at e; cases e
  refine cs_forLoop
    (fun k s' => ∃ h' tk m' i, s' = { s with heap := h', toks := tk } ∧ St i h' ∧ Fr h₀ env.locals h' m' ∧ News h₀ env.locals h' (led i) ∧ J i m' ∧ i ≤ n ∧ k = n + 1 - i) ?_ (n + 1)
    ⟨s.heap, s.toks, m, 0, rfl, hst, F, N, h0, Nat.zero_le _, rfl⟩
  rintro k s' ⟨H, tk, m', i, rfl, hst', F', N', hJ, hi, rfl⟩
  have next : ∀ h₁ : Heap, (∀ b o, b ∉ wr → H.get? b = some o → h₁.get? b = some o) → Fr h₀ env.locals h₁ m' ∧ News h₀ env.locals h₁ (led i) := fun h₁ hk₁ =>
    ⟨⟨F'.ns.at' fun o e => hk₁ _ o hLw e, fun b o e => hk₁ b o (old b o e) (F'.keep b o e), F'.above⟩, fun p hp => ⟨hk₁ _ _ (hoff i p hp) (N' p hp).1, (N' p hp).2⟩⟩
  by_cases hlt : i < n
  · refine W.item i _ _ _ hlt hst' fun v h₁ tk₁ hP hst₁ hk₁ => ?_
    obtain ⟨F₁, N₁⟩ := next h₁ hk₁
    refine wpAny_of_eq (a := ()) rfl ?_
    refine wpAny_assign_Name (wpAny_storeName_local hx F₁.ns (fun h₂ hn₂ hs₂ => ?_) hp)
    have F₂ := F₁.set hn₂ hs₂
    have N₂ := N₁.set hs₂
    have hst₂ : St (i + 1) h₂ := W.frame _ _ _ hst₁ fun b hb o e => hs₂.extBut b o (fun q => hLf (q ▸ hb)) e
    refine ws_mono (turn i v m' h₂ _ (ownOf h₀ wr h₂) hlt hP hJ (fun p hp => own_in hp) (fun p hp q hq e => hoff i q hq (e ▸ own_in hp)) F₂ (N₂.append (news_ownOf hLw))) (fun f s₃ h₃ => ?_) fun _ _ e => e.elim
    obtain ⟨rfl, h₄, tk₄, m₄, rfl, F₄, N₄, hJ₄⟩ := h₃
    refine ⟨n + 1 - (i + 1), by omega, h₄, tk₄, m₄, i + 1, rfl, ?_, F₄, newsSub N₄ fun p hp => List.mem_append_left _ hp, hJ₄, hlt, rfl⟩
    exact W.frame _ _ _ hst₂ (frame_up X F₂ F₄ N₂ N₄ hwr rfl)
  · have hin : i = n := by omega
    subst hin
    refine W.done _ _ _ hst' fun h₁ tk₁ hk₁ => wpAny_execs_nil ?_
    obtain ⟨F₁, N₁⟩ := next h₁ hk₁
    exact done h₁ tk₁ m' F₁ N₁ hJ
/-- for x, y in ..: over what hands out pairs -/
theorem cs_for_pair {xi xc : Str} {pk pv pt : Pos} {x1 : Nat} {body : List Stmt} {I : Addr} {fp wr : List Addr} {n : Nat} {Pt : Nat → Array Value → Prop} {St : Nat → Heap → Prop} {Mid : Nat → Addr → Heap → Prop} {P2 : Nat → Value → Value → Prop} {m : Str → Option Value} (led : Nat → List (Addr × Obj)) (J : Nat → (Str → Option Value) → Prop)
    (hh : A.handled = none) (W : WalksT prog w A I fp wr n Pt St Mid) (h2 : ∀ i vals, Pt i vals → ∃ v0 v1, vals = #[v0, v1] ∧ P2 i v0 v1) (hxi : env.kindOf xi = some .local) (hxc : env.kindOf xc = some .local) (hp : (env.scope.kind == .class || (env.scope.kind == .module && env.locals != env.globals)) = false)
    (hLf : env.locals ∉ fp) (hwr : ∀ b ∈ wr, h₀.get? b = none) (X : Fixed h₀ fp wr led) (hoff : ∀ i, ∀ p ∈ led i, p.1 ∉ wr)
    (hst : St 0 s.heap) (F : Fr h₀ env.locals s.heap m) (N : News h₀ env.locals s.heap (led 0)) (h0 : J 0 m)
    (turn : ∀ i v0 v1 m₁ h tk own, i < n → P2 i v0 v1 → J i m₁ → (∀ p ∈ own, p.1 ∈ wr) → (∀ p ∈ own, ∀ q ∈ led i, p.1 ≠ q.1) → Fr h₀ env.locals h (fun y => if y = xc then some v1 else if y = xi then some v0 else m₁ y) → News h₀ env.locals h (led i ++ own) →
      WS (model prog w) A (execs body env) (TurnS h₀ env.locals (led (i + 1)) own (J (i + 1)) { s with heap := h, toks := tk }) (fun _ _ => False) { s with heap := h, toks := tk })
    (done : ∀ h' tk m', Fr h₀ env.locals h' m' → News h₀ env.locals h' (led n) → J n m' → R (.ok .next) { s with heap := h', toks := tk }) :
    CS (model prog w) A (.forLoop (.Tuple [.Name xi pk, .Name xc pv] x1 pt) (.ref I) body [] env) R s := by
  have hLw : env.locals ∉ wr := fun h => hLf (W.sub _ h)
  have old : ∀ b o, h₀.get? b = some o → b ∉ wr := fun b o e hb => by rw [hwr b hb] at e; cases e
  refine cs_forLoop
    (fun k s' => ∃ h' tk m' i, s' = { s with heap := h', toks := tk } ∧ St i h' ∧ Fr h₀ env.locals h' m' ∧ News h₀ env.locals h' (led i) ∧ J i m' ∧ i ≤ n ∧ k = n + 1 - i) ?_ (n + 1)
    ⟨s.heap, s.toks, m, 0, rfl, hst, F, N, h0, Nat.zero_le _, rfl⟩
  rintro k s' ⟨H, tk, m', i, rfl, hst', F', N', hJ, hi, rfl⟩
  have next : ∀ h₁ : Heap, (∀ b o, b ∉ wr → H.get? b = some o → h₁.get? b = some o) → Fr h₀ env.locals h₁ m' ∧ News h₀ env.locals h₁ (led i) := fun h₁ hk₁ =>
    ⟨⟨F'.ns.at' fun o e => hk₁ _ o hLw e, fun b o e => hk₁ b o (old b o e) (F'.keep b o e), F'.above⟩, fun p hp => ⟨hk₁ _ _ (hoff i p hp) (N' p hp).1, (N' p hp).2⟩⟩
  by_cases hlt : i < n
  · refine W.item i _ _ _ hlt hst' fun T vals h₁ tk₁ hPt _ hT hMid hk₁ => ?_
    obtain ⟨v0, v1, rfl, hP2⟩ := h2 i vals hPt
    refine W.go _ x1 pt i T _ _ _ hMid fun h₂ hst₂ hk₂ => ?_
    have ht₂ : h₂.IsTuple T #[v0, v1] := hT.at fun o e => hk₂ T o (W.apart i T h₁ hMid) e
    refine wpAny_assign_Tuple hh ht₂ rfl rfl fun h₃ hx₃ => ?_
    replace hx₃ : Heap.ExtBut h₂.objs.size h₂ h₃ := hx₃
    have up₃ : ∀ b o, h₂.get? b = some o → h₃.get? b = some o := fun b o x => hx₃ b o (Nat.ne_of_lt (Heap.lt_size x)) x
    obtain ⟨F₃, N₃⟩ := next h₃ fun b o hb x => up₃ b o (hk₂ b o hb (hk₁ b o hb x))
    show wpAny _ A (do holding [v1] (assign (.Name xi pk) env v0); do holding [] (assign (.Name xc pv) env v1); pure ()) _ _ _
    refine wpAny_bind (wpAny_holding (wpAny_assign_Name (wpAny_storeName_local hxi F₃.ns (fun h₄ hn₄ hs₄ => ?_) hp)))
    replace hs₄ : Heap.SameBut env.locals h₃ h₄ := hs₄
    have F₄ := F₃.set hn₄ hs₄
    refine wpAny_bind (wpAny_holding (wpAny_assign_Name (wpAny_storeName_local hxc F₄.ns (fun h₅ hn₅ hs₅ => wpAny_pure ?_) hp)))
    replace hs₅ : Heap.SameBut env.locals h₄ h₅ := hs₅
    have F₅ := F₄.set hn₅ hs₅
    have N₅ : News h₀ env.locals h₅ (led i) := (N₃.set hs₄).set hs₅
    have hst₅ : St (i + 1) h₅ := W.frame _ _ _ hst₂ fun b hb o e => hs₅.extBut b o (fun q => hLf (q ▸ hb)) (hs₄.extBut b o (fun q => hLf (q ▸ hb)) (up₃ b o e))
    refine ws_mono (turn i v0 v1 m' h₅ _ (ownOf h₀ wr h₅) hlt hP2 hJ (fun p hp => own_in hp) (fun p hp q hq e => hoff i q hq (e ▸ own_in hp)) F₅ (N₅.append (news_ownOf hLw))) (fun f s₃ h₆ => ?_) fun _ _ e => e.elim
    obtain ⟨rfl, h₆', tk₆, m₆, rfl, F₆, N₆, hJ₆⟩ := h₆
    refine ⟨n + 1 - (i + 1), by omega, h₆', tk₆, m₆, i + 1, rfl, ?_, F₆, newsSub N₆ fun p hp => List.mem_append_left _ hp, hJ₆, hlt, rfl⟩
    exact W.frame _ _ _ hst₅ (frame_up X F₅ F₆ N₅ N₆ hwr rfl)
  · have hin : i = n := by omega
    subst hin
    refine W.done _ _ _ hst' fun h₁ tk₁ hk₁ => wpAny_execs_nil ?_
    obtain ⟨F₁, N₁⟩ := next h₁ hk₁
    exact done h₁ tk₁ m' F₁ N₁ hJ
end
end Mine
end
section
open PySem PySem.W PySem.Calls PyProof.Rows
namespace Mine
open PySem.Builtin
section
variable {prog : Program} {w : World} {A : Around} {E : Value → Shared → Prop} {s : Shared} {b : Array UInt8} {t : Tok}
theorem nextOf_bytes_item {it : Addr} {i : Nat} {c : UInt8} {Q : Value → Shared → Prop} (hit : KBw.IsBytesIter s.heap it b t i) (hx : b[i]? = some c)
    (hQ : ∀ h', KBw.IsBytesIter h' it b t (i + 1) → Heap.SameBut it s.heap h' → Q (.int (c.toNat : Int) s.toks) { s with heap := h', toks := s.toks + 1 }) : wpAny (model prog w) A (SmallTypes.nextOf (.ref it)) Q E s := by
  obtain ⟨o, ho, hc, hd⟩ := id hit
  unfold SmallTypes.nextOf
  refine wpAny_bind (wpAny_callSpecial?_slot (name := PySem.Str.ofString "__next__") (KBw.iter_typeIs hit) KBw.slot_next
    (wpAny_call_entry KBw.slot_next (KBw.iter_typeIs hit) KBw.entry_next ?_ (KBw.args_next _)))
  show wpAny _ _ (field (.ref it) 0 >>= _) _ _ s
  refine wpAny_bind (wpAny_field ho hd (x := .bytes b t) rfl ?_)
  show wpAny _ _ (if (Value.bytes b t == Value.none) = true then _ else _) _ _ s
  rw [if_neg (show ¬ ((Value.bytes b t == Value.none) = true) from Bool.false_ne_true)]
  show wpAny _ _ (field (.ref it) 1 >>= _) _ _ s
  refine wpAny_bind (wpAny_field ho hd (x := .int i 0) rfl ?_)
  refine wpAny_bind (wpAny_of_eq (a := b) rfl ?_)
  simp only [Int.toNat_natCast, hx]
  refine wpAny_bind (wpAny_setField ho hd (by simp) (wpAny_bind (wpAny_mkInt (wpAny_pure ⟨_, rfl, wpAny_pure (hQ _ ?_ (Heap.SameBut.update ..))⟩))))
  exact ⟨_, Heap.get?_update_self _ ho (Obj.isFreed_of_fields (Obj.data_mapFields hd _)), (Obj.cls_mapFields ..).trans hc, by
    rw [Obj.data_mapFields hd]; simp [rawInt]⟩
theorem nextOf_bytes_end {it : Addr} {i : Nat} {Q : Value → Shared → Prop} (hh : A.handled = none) (hit : KBw.IsBytesIter s.heap it b t i) (hx : b[i]? = none)
    (hE : ∀ h' e, Heap.ExtBut it s.heap h' → (∃ o, h'.get? e = some o ∧ o.cls = .type "StopIteration") → E (.ref e) { s with heap := h' }) : wpAny (model prog w) A (SmallTypes.nextOf (.ref it)) Q E s := by
  obtain ⟨o, ho, hc, hd⟩ := id hit
  unfold SmallTypes.nextOf
  refine wpAny_bind (wpAny_callSpecial?_slot (name := PySem.Str.ofString "__next__") (KBw.iter_typeIs hit) KBw.slot_next
    (wpAny_call_entry KBw.slot_next (KBw.iter_typeIs hit) KBw.entry_next ?_ (KBw.args_next _)))
  show wpAny _ _ (field (.ref it) 0 >>= _) _ _ s
  refine wpAny_bind (wpAny_field ho hd (x := .bytes b t) rfl ?_)
  show wpAny _ _ (if (Value.bytes b t == Value.none) = true then _ else _) _ _ s
  rw [if_neg (show ¬ ((Value.bytes b t == Value.none) = true) from Bool.false_ne_true)]
  show wpAny _ _ (field (.ref it) 1 >>= _) _ _ s
  refine wpAny_bind (wpAny_field ho hd (x := .int i 0) rfl ?_)
  refine wpAny_bind (wpAny_of_eq (a := b) rfl ?_)
  simp only [Int.toNat_natCast, hx]
  refine wpAny_bind (wpAny_rule (wpAny_bind (wpAny_setField ho hd (by simp) ?_)))
  show wpAny _ _ (newExc (.type "StopIteration") [] >>= _) _ _ _
  refine wpAny_bind ?_
  simp only [newExc, newTuple]
  refine wpAny_bind (wpAny_newObj_type ?_ (by size_fits))
  refine wpAny_bind (m := firstArgMember _ _) (wpAny_of_eq (a := Value.none) (by first | rfl | (simp only [firstArgMember]; rfl)) ?_)
  refine wpAny_newObj_type ?_ (by size_fits)
  simp only [raiseNew]
  refine wpAny_bind (wpAny_handled ?_)
  first | rw [show A.in1.handled = none from hh] | rw [hh]
  refine wpAny_bind (wpAny_pure (wpAny_throw ?_))
  exact hE _ _ (((Heap.SameBut.update ..).extBut.push _).push _) ⟨_, Heap.get?_push_size _ rfl, rfl⟩
end
theorem drawsBytes {prog : Program} {w : World} {A : Around} (hh : A.handled = none) (it : Addr) (b : Array UInt8) (t : Tok) :
    Draws prog w A it [it] b.size (fun i v => ∃ c u, b[i]? = some c ∧ v = .int (c.toNat : Int) u) (fun i h => KBw.IsBytesIter h it b t i) where
  live := fun _ _ st => let ⟨o, ho, _⟩ := st; ⟨o, ho⟩
  frame := fun _ _ _ st hk => let ⟨o, ho, r⟩ := st; ⟨o, hk it (by simp) o ho, r⟩
  item := fun i s Q E hi st hQ => by
    refine nextOf_bytes_item st (c := b[i]) (by simp [hi]) fun h' hit' hs' => ?_
    exact hQ _ h' (s.toks + 1) ⟨_, _, by simp [hi], rfl⟩ hit' hs'
  done := fun s Q E st hE => nextOf_bytes_end hh st (by simp) hE
theorem meets_enumB (b : Array UInt8) (t : Tok) :
    Meets (Builtin.«enumerate.__new__» ⟨[.type "enumerate", .bytes b t], []⟩) (fun _ R s =>
      R (.ok (.ret (.ref (s.heap.push { cls := .type "bytes_iterator", data := .fields #[.bytes b t, .int 0 0] }).objs.size)))
        { s with heap := (s.heap.push { cls := .type "bytes_iterator", data := .fields #[.bytes b t, .int 0 0] }).push { cls := .type "enumerate", data := .fields #[.none, .bool false, .ref s.heap.objs.size, rawInt 0, .none, .none] } }) :=
  .of_wp fun prog w A R s h => by
    obtain ⟨hp, g, d, tk, os⟩ := s
    have hsub := sub_enumerate
    wp_walk using KBw.pyIter_bytes
    refine wpAny_stack_any fun st => wpAny_pure ?_
    split
    · rename_i c _ _ _ _ _
      cases (c == Value.type "enumerate")
      · wp_walk using KBw.pyIter_bytes
        exact ⟨_, rfl, h⟩
      · wp_walk using KBw.pyIter_bytes
        exact ⟨_, rfl, h⟩
    · wp_walk using KBw.pyIter_bytes
      exact ⟨_, rfl, h⟩
section
variable {prog : Program} {w : World} {A : Around} {E : Value → Shared → Prop} {s : Shared}
theorem call_enumB {b : Array UInt8} {t : Tok} {Q : Value → Shared → Prop}
    (h : ∀ h', IsEnum h' (s.heap.objs.size + 1) s.heap.objs.size 0 .none → KBw.IsBytesIter h' s.heap.objs.size b t 0 → h'.objs.size = s.heap.objs.size + 2 →
      (∀ b o, s.heap.get? b = some o → h'.get? b = some o) → Q (.ref (s.heap.objs.size + 1)) { s with heap := h' }) :
    wpAny (model prog w) A (call (.type "enumerate") [.bytes b t]) Q E s := by
  refine callType_new F.called_enumerate (by decide) (F.typeCall_enumerate_1 _) (F.newCall_enumerate_1 _) (fun obj => F.args_object_init_2 obj _) F.entry_enumerate_new
    (meets_enumB b t) ?_
  have hz : (s.heap.push { cls := .type "bytes_iterator", data := .fields #[.bytes b t, .int 0 0] }).objs.size = s.heap.objs.size + 1 := Heap.size_push ..
  show _ ∧ _
  rw [hz]
  have he : IsEnum ((s.heap.push { cls := .type "bytes_iterator", data := .fields #[.bytes b t, .int 0 0] }).push
      { cls := .type "enumerate", data := .fields #[.none, .bool false, .ref s.heap.objs.size, rawInt 0, .none, .none] }) (s.heap.objs.size + 1) s.heap.objs.size 0 .none := by
    have := Heap.get?_push_size (s.heap.push { cls := .type "bytes_iterator", data := .fields #[.bytes b t, .int 0 0] })
      (o := { cls := .type "enumerate", data := .fields #[.none, .bool false, .ref s.heap.objs.size, rawInt 0, .none, .none] }) rfl
    rw [hz] at this; exact this
  refine ⟨⟨_, he, rfl⟩, h _ he ⟨_, Heap.get?_push_of_some _ (Heap.get?_push_size _ rfl), rfl, rfl⟩ (by rw [Heap.size_push, hz]) fun b o y => Heap.get?_push_of_some _ (Heap.get?_push_of_some _ y)⟩
end
end Mine
end
section
open PySem PySem.W PySem.Calls PyProof.Rows
namespace Mine
theorem flush_XB : True := by
  w_top off
  trivial
local macro_rules | `(tactic| walk_at "no such node") => `(tactic| skip)
abbrev TopQ (mean : ExcName → Option Value) (mg mb : Str → Option Value) (h : Heap) : Prop :=
  Top hd.view_1 (looseW hd.view_1 [Str.ofString "NONE", Str.ofString "SUB", Str.ofString "UP", Str.ofString "AVERAGE", Str.ofString "PAETH", Str.ofString "filtered_rows"]) mean mg mb h
/-- what a caller of a def has, and what it wants back -/
abbrev Claims (w : World) (f : Addr) (dd uu : Nat) (vs : List Value) (news : List (Addr × Obj)) (Post : Value → List (Addr × Obj) → Prop) : Prop :=
  ∀ (dp un : Nat) (gd : Option (List Code)) (cn : Str) (cs : Scope) (a : Addr) (ccd : Value) (cl : List (Str × Addr)) (outer : List Env) (A₀ : Around) (base h₀ : Heap) (L : Addr) (m : Str → Option Value)
    (mean : ExcName → Option Value) (mg mb : Str → Option Value) (s : Shared) (Q E : Value → Shared → Prop),
    Below A₀ base outer h₀ → Fr h₀ L s.heap m → (hd.heap_1 w.params).In h₀ → News h₀ L s.heap news → TopQ mean mg mb h₀ → cs.kind = .function → dp + dd < recursionLimit → un + uu < cLine →
    (∀ r news' h' tk', Post r news' → Fr h₀ L h' m → News h₀ L h' news' → Q r { s with heap := h', toks := tk' }) →
    wpAny (model Challenge.rw_xm0716_01.row.prog w) (ktrTop dp un gd cn cs L a ccd cl outer) (call (.ref f) vs) Q E s
/-- the same over clean stacks -/
abbrev ClaimsS (w : World) (f : Addr) (dd uu : Nat) (vs : List Value) (news : List (Addr × Obj)) (Post : Value → List (Addr × Obj) → Prop) : Prop :=
  ∀ (dp un : Nat) (cn : Str) (cs : Scope) (a : Addr) (ccd : Value) (cl : List (Str × Addr)) (outer : List Env) (A₀ : Around) (base h₀ : Heap) (L : Addr) (m : Str → Option Value)
    (mean : ExcName → Option Value) (mg mb : Str → Option Value) (s : Shared) (Q E : Value → Shared → Prop),
    Below A₀ base outer h₀ → Fr h₀ L s.heap m → (hd.heap_1 w.params).In h₀ → News h₀ L s.heap news → TopQ mean mg mb h₀ → cs.kind = .function → dp + dd < recursionLimit → un + uu < cLine →
    (∀ r news' h' tk', Post r news' → Fr h₀ L h' m → News h₀ L h' news' → Q r { s with heap := h', toks := tk' }) →
    WS (model Challenge.rw_xm0716_01.row.prog w) (ktrTop dp un (some []) cn cs L a ccd cl outer) (call (.ref f) vs) Q E s
section
variable {w : World} {f : Addr} {dd uu : Nat} {vs : List Value} {news : List (Addr × Obj)} {Post : Value → List (Addr × Obj) → Prop}
  {dp un : Nat} {gd : Option (List Code)} {cn : Str} {cs : Scope} {a : Addr} {ccd : Value} {cl : List (Str × Addr)} {outer : List Env} {A₀ : Around} {base h₀ : Heap} {L : Addr} {m : Str → Option Value}
    {mean : ExcName → Option Value} {mg mb : Str → Option Value} {s : Shared} {Q E : Value → Shared → Prop}
theorem use_c (C : Claims w f dd uu vs news Post) (B : Below A₀ base outer h₀) (F : Fr h₀ L s.heap m) (X : (hd.heap_1 w.params).In h₀) (N : News h₀ L s.heap news) (T : TopQ mean mg mb h₀) (hk : cs.kind = .function) (h1 : dp + dd < recursionLimit) (h2 : un + uu < cLine)
    (ret : ∀ r news' h' tk', Post r news' → Fr h₀ L h' m → News h₀ L h' news' → Q r { s with heap := h', toks := tk' }) :
    wpAny (model Challenge.rw_xm0716_01.row.prog w) (ktrTop dp un gd cn cs L a ccd cl outer) (call (.ref f) vs) Q E s := C _ _ _ _ _ _ _ _ _ _ _ _ _ _ _ _ _ _ _ _ B F X N T hk h1 h2 ret
theorem use_s (C : ClaimsS w f dd uu vs news Post) (B : Below A₀ base outer h₀) (F : Fr h₀ L s.heap m) (X : (hd.heap_1 w.params).In h₀) (N : News h₀ L s.heap news) (T : TopQ mean mg mb h₀) (hk : cs.kind = .function) (h1 : dp + dd < recursionLimit) (h2 : un + uu < cLine)
    (ret : ∀ r news' h' tk', Post r news' → Fr h₀ L h' m → News h₀ L h' news' → Q r { s with heap := h', toks := tk' }) :
    WS (model Challenge.rw_xm0716_01.row.prog w) (ktrTop dp un (some []) cn cs L a ccd cl outer) (call (.ref f) vs) Q E s := C _ _ _ _ _ _ _ _ _ _ _ _ _ _ _ _ _ _ _ B F X N T hk h1 h2 ret
end
theorem News.sub_ {h₀ h : Heap} {L : Addr} {a b : List (Addr × Obj)} (N : News h₀ L h b) (hs : ∀ p ∈ a, p ∈ b) : News h₀ L h a := fun p hp => N p (hs p hp)
abbrev PostI (news : List (Addr × Obj)) (x : Int) (r : Value) (n : List (Addr × Obj)) : Prop := n = news ∧ ∃ t, r = .int x t
theorem retI {h₀ h' : Heap} {L : Addr} {m : Str → Option Value} {news : List (Addr × Obj)} {s : Shared} {Q : Value → Shared → Prop} {x y : Int} {t : Tok} {tk' : Nat}
    (hret : ∀ r news' h' tk', PostI news x r news' → Fr h₀ L h' m → News h₀ L h' news' → Q r { s with heap := h', toks := tk' })
    (e : y = x) (F : Fr h₀ L h' m) (N : News h₀ L h' news) : Q (.int y t) { s with heap := h', toks := tk' } := by
  subst e; exact hret _ _ _ _ ⟨rfl, _, rfl⟩ F N
theorem use_cI {w : World} {f : Addr} {dd uu : Nat} {vs : List Value} {news : List (Addr × Obj)} {x : Int}
  {dp un : Nat} {gd : Option (List Code)} {cn : Str} {cs : Scope} {a : Addr} {ccd : Value} {cl : List (Str × Addr)} {outer : List Env} {A₀ : Around} {base h₀ : Heap} {L : Addr} {m : Str → Option Value}
    {mean : ExcName → Option Value} {mg mb : Str → Option Value} {s : Shared} {Q E : Value → Shared → Prop}
   (C : Claims w f dd uu vs news (PostI news x)) (B : Below A₀ base outer h₀) (F : Fr h₀ L s.heap m) (X : (hd.heap_1 w.params).In h₀) (N : News h₀ L s.heap news) (T : TopQ mean mg mb h₀) (hk : cs.kind = .function) (h1 : dp + dd < recursionLimit) (h2 : un + uu < cLine)
    (ret : ∀ t h' tk', Fr h₀ L h' m → News h₀ L h' news → Q (.int x t) { s with heap := h', toks := tk' }) :
    wpAny (model Challenge.rw_xm0716_01.row.prog w) (ktrTop dp un gd cn cs L a ccd cl outer) (call (.ref f) vs) Q E s :=
  use_c C B F X N T hk h1 h2 fun r news' h' tk' p F' N' => by obtain ⟨rfl, t, rfl⟩ := p; exact ret t h' tk' F' N'
abbrev absI (z : Int) : Int := if z < 0 then -z else z
def nearestV (l a c : Int) : Int :=
  if absI (l + a - c - a) < absI (l + a - c - l) then (if absI (l + a - c - c) < absI (l + a - c - a) then c else a) else (if absI (l + a - c - c) < absI (l + a - c - l) then c else l)
theorem nv_tt {l a c : Int} (h1 : absI (l + a - c - a) < absI (l + a - c - l)) (h2 : absI (l + a - c - c) < absI (l + a - c - a)) : c = nearestV l a c := by unfold nearestV; rw [if_pos h1, if_pos h2]
theorem nv_tf {l a c : Int} (h1 : absI (l + a - c - a) < absI (l + a - c - l)) (h2 : ¬ absI (l + a - c - c) < absI (l + a - c - a)) : a = nearestV l a c := by unfold nearestV; rw [if_pos h1, if_neg h2]
theorem nv_ft {l a c : Int} (h1 : ¬ absI (l + a - c - a) < absI (l + a - c - l)) (h2 : absI (l + a - c - c) < absI (l + a - c - l)) : c = nearestV l a c := by unfold nearestV; rw [if_neg h1, if_pos h2]
theorem nv_ff {l a c : Int} (h1 : ¬ absI (l + a - c - a) < absI (l + a - c - l)) (h2 : ¬ absI (l + a - c - c) < absI (l + a - c - l)) : l = nearestV l a c := by unfold nearestV; rw [if_neg h1, if_neg h2]
theorem nearest_c (w : World) (l a c : Int) (tl ta tc : Tok) (news) : Claims w 57 1 8 [.int l tl, .int a ta, .int c tc] news (PostI news (nearestV l a c)) := by
  unfold Claims
  k_fill
  intro dp un gd cn cs a' ccd cl outer A₀ base h₀ L m mean mg mb s Q E B F X N T hk hd hu hret
  refine wpAny_call ?_
  k_dflt ktr_enter
  k_steps
  all_goals (
    refine retI hret ?_ (by assumption) (by assumption)
    with_reducible first | exact nv_tt (by assumption) (by assumption) | exact nv_tf (by assumption) (by assumption) | exact nv_ft (by assumption) (by assumption) | exact nv_ff (by assumption) (by assumption))
end Mine
end
section
open PySem PySem.W PySem.Calls PyProof.Rows
namespace Mine
theorem flush_XC1 : True := by
  w_top off
  trivial
local macro_rules | `(tactic| walk_at "no such node") => `(tactic| skip)
local macro_rules | `(tactic| walk_at "call ref") => `(tactic| (k_here; (with_reducible show wpAny _ _ (call (Value.ref 57) [Value.int _ _, Value.int _ _, Value.int _ _]) _ _ _); k_dflt (refine' use_cI (nearest_c _ _ _ _ _ _ _ _) ?k1 ?k2 ?k3 ?k4 ?k5 ?kK ?kd ?ku ?_; (case k1 => k_asm); (case k2 => k_asm); (case k3 => k_asm); (case k4 => k_asm); (case k5 => k_asm); (case kK => first | exact rfl | assumption); (case kd => ktr_room); (case ku => ktr_units)); intro t9 h9 tk9 F9 N9; (try dsimp only); (try k_fold)))
def guessV (k l a c : Int) : Int :=
  if k = 0 then 0 else if k = 1 then l else if k = 2 then a else if k = 3 then Int.fdiv (l + a) 2 else nearestV l a c
theorem guess_c (w : World) (k l a c : Int) (tk tl ta tc : Tok) (news) (h0 : 0 ≤ k) (h4 : k ≤ 4) : Claims w 64 2 16 [.int k tk, .int l tl, .int a ta, .int c tc] news (PostI news (guessV k l a c)) := by
  unfold Claims
  k_fill
  intro dp un gd cn cs a' ccd cl outer A₀ base h₀ L m mean mg mb s Q E B F X N T hk hd hu hret
  refine wpAny_call ?_
  k_dflt ktr_enter
  k_steps
  all_goals first
    | (exfalso; omega)
    | (refine retI hret ?_ (by assumption) (by assumption)
       unfold guessV
       (repeat' split) <;> first | rfl | (exfalso; omega))
end Mine
end
section
open PySem PySem.W PySem.Calls PyProof.Rows
namespace Mine
theorem ba_plain : PlainAttrs "bytearray" :=
  ⟨⟨"bytearray.__getattribute__", by rw [typeLookup_type, builtinLookup_eq_fast]; kernel_rfl, by decide +kernel⟩, by rw [typeLookup_type, builtinLookup_eq_fast]; kernel_rfl⟩
section
variable {prog : Program} {w : World} {A : Around} {E : Value → Shared → Prop} {s : Shared} {h₀ : Heap} {L a : Addr} {m : Str → Option Value} {news rest : List (Addr × Obj)} {b c : Array UInt8}
theorem ba_newX {Q : Value → Shared → Prop} (hg : A.guards = some []) (F : Fr h₀ L s.heap m) (N : News h₀ L s.heap news)
    (h : ∀ a h', Fr h₀ L h' m → News h₀ L h' ((a, baOf #[]) :: news) → (∀ q ∈ news, q.1 ≠ a) → Q (.ref a) { s with heap := h' }) :
    WS (model prog w) A (call (.type "bytearray") []) Q E s :=
  ba_new0 hg fun h' h1 hk => h _ h' (F.keeps hk) (News.kept_cons F N hk (Nat.le_refl _) h1) fun q hq => N.ne_size q hq
theorem ba_appendX {n : Int} {t : Tok} {Q : Value → Shared → Prop} (hg : A.guards = some []) (F : Fr h₀ L s.heap m) (N : News h₀ L s.heap ((a, baOf b) :: rest)) (hap : ∀ q ∈ rest, q.1 ≠ a) (h0 : 0 ≤ n) (h1 : n < 256) (hz : b.size < sizeLine)
    (h : ∀ h', Fr h₀ L h' m → News h₀ L h' ((a, baOf (b.push n.toNat.toUInt8)) :: rest) → Q .none { s with heap := h' }) :
    WS (model prog w) A (call (.builtin "bytearray.append") [.ref a, .int n t]) Q E s :=
  ba_append hg (N.get (.head _)) h0 h1 hz fun h' h2 hs => h h' (F.update N (.head _) hs) (N.setHead hap hs h2)
theorem ba_extendX {t : Tok} {Q : Value → Shared → Prop} (hg : A.guards = some []) (F : Fr h₀ L s.heap m) (N : News h₀ L s.heap ((a, baOf b) :: rest)) (hap : ∀ q ∈ rest, q.1 ≠ a) (hz : (b ++ c).size ≤ sizeLine)
    (h : ∀ h', Fr h₀ L h' m → News h₀ L h' ((a, baOf (b ++ c)) :: rest) → Q .none { s with heap := h' }) :
    WS (model prog w) A (call (.builtin "bytearray.extend") [.ref a, .bytes c t]) Q E s :=
  ba_extend_bytes hg (N.get (.head _)) hz fun h' h2 hs => h h' (F.update N (.head _) hs) (N.setHead hap hs h2)
theorem ba_extend_tupleX {t : Addr} {vs : List Value} {ns : List Int} {Q : Value → Shared → Prop} (hg : A.guards = some []) (hh : A.handled = none) (F : Fr h₀ L s.heap m) (N : News h₀ L s.heap ((a, baOf b) :: rest)) (hap : ∀ q ∈ rest, q.1 ≠ a)
    (ht : s.heap.IsTuple t vs.toArray) (hta : t ≠ a) (hi : IntsAre vs ns) (hr : ∀ n ∈ ns, 0 ≤ n ∧ n < 256) (hz : b.size + ns.length ≤ sizeLine)
    (h : ∀ h', Fr h₀ L h' m → News h₀ L h' ((a, baOf (b ++ byteArr ns)) :: rest) → Q .none { s with heap := h' }) :
    WS (model prog w) A (call (.builtin "bytearray.extend") [.ref a, .ref t]) Q E s :=
  ba_extend_tuple hg hh (N.get (.head _)) ht hta hi hr hz fun h' h2 hk => by
    have h0 : ∀ b o, h₀.get? b = some o → b ≠ a := fun b o e hb => by rw [hb, N.fresh (.head _)] at e; cases e
    refine h h' ⟨F.ns.at' fun o e => hk _ _ (N.ne (.head _)).symm e, fun b o e => hk b o (h0 b o e) (F.keep b o e), F.above⟩ fun p hp => ?_
    rcases List.mem_cons.mp hp with rfl | hp
    · exact ⟨h2, (N _ (.head _)).2⟩
    · exact ⟨hk _ _ (hap p hp) (N p (.tail _ hp)).1, (N p (.tail _ hp)).2⟩
theorem bytes_baX {Q : Value → Shared → Prop} (N : News h₀ L s.heap news) (hm : (a, baOf b) ∈ news) (hz : b.size ≤ sizeLine)
    (hQ : ∀ t k, Q (.bytes b t) { s with toks := k }) : wpAny (model prog w) A (call (.type "bytes") [.ref a]) Q E s := call_bytes_ba (N.get hm) hz hQ
end
end Mine
end
section
open PySem PySem.W PySem.Calls PyProof.Rows
namespace Mine
theorem pair_ne {x k : Nat} (h : x < k) : x ∉ [k + 1, k] := by
  intro hm
  rcases List.mem_cons.mp hm with e | hm
  · omega
  · have := List.mem_singleton.mp hm; omega
theorem pair_ge {x k : Nat} (hm : x ∈ [k + 1, k]) : k ≤ x := by
  rcases List.mem_cons.mp hm with e | hm
  · omega
  · have := List.mem_singleton.mp hm; omega
section
variable {prog : Program} {w : World} {A : Around} {E : Value → Shared → Prop} {s : Shared} {env : Env} {h₀ : Heap} {R : Result → Shared → Prop}
theorem for_enumB {xi xc : Str} {pk pv pt : Pos} {x1 : Nat} {body : List Stmt} {b : Array UInt8} {tb : Tok} {m : Str → Option Value} (led : Nat → List (Addr × Obj)) (J : Nat → (Str → Option Value) → Prop) (keys : List Addr)
    (hh : A.handled = none) (hxi : env.kindOf xi = some .local) (hxc : env.kindOf xc = some .local) (hp : (env.scope.kind == .class || (env.scope.kind == .module && env.locals != env.globals)) = false)
    (hkeys : ∀ i, (led i).map (·.1) = keys) (F : Fr h₀ env.locals s.heap m) (N : News h₀ env.locals s.heap (led 0)) (h0 : J 0 m)
    (turn : ∀ i c t u m₁ h tk own, i < b.size → b[i]? = some c → J i m₁ → (∀ p ∈ own, ∀ q ∈ led i, p.1 ≠ q.1) → Fr h₀ env.locals h (fun y => if y = xc then some (.int (c.toNat : Int) u) else if y = xi then some (.int i t) else m₁ y) → News h₀ env.locals h (led i ++ own) →
      WS (model prog w) A (execs body env) (TurnS h₀ env.locals (led (i + 1)) own (J (i + 1)) { s with heap := h, toks := tk }) (fun _ _ => False) { s with heap := h, toks := tk })
    (done : ∀ h' tk m', Fr h₀ env.locals h' m' → News h₀ env.locals h' (led b.size) → J b.size m' → R (.ok .next) { s with heap := h', toks := tk }) :
    wpAny (model prog w) A (call (.type "enumerate") [.bytes b tb]) (fun x s₁ => wpAny (model prog w) A (pyIter x) (fun it s₂ =>
      CS (model prog w) A (.forLoop (.Tuple [.Name xi pk, .Name xc pv] x1 pt) it body [] env) R s₂) E s₁) E s := by
  refine call_enumB fun h' he hit hsz hk => ?_
  refine wpAny_pyIter_enum he ?_
  have hL := F.ns.lt
  have W := WalksT.enumerateD (drawsBytes (prog := prog) (w := w) (A := A.in1) hh s.heap.objs.size b tb) (s.heap.objs.size + 1) (Nat.ne_of_gt (Nat.lt_succ_self _)) (by simp) (by simp)
  have key : ∀ i, ∀ p ∈ led i, p.1 < s.heap.objs.size := fun i p hpi => by
    have h1 : p.1 ∈ (led 0).map (·.1) := by rw [hkeys 0, ← hkeys i]; exact List.mem_map_of_mem hpi
    obtain ⟨q, hq, e⟩ := List.mem_map.mp h1
    rw [← e]; exact Heap.lt_size (N q hq).1
  have none_ : ∀ x, s.heap.objs.size ≤ x → h₀.get? x = none := fun x hx => by
    cases hq : h₀.get? x with
    | none => rfl
    | some o => exact absurd (Heap.lt_size (F.keep _ _ hq)) (Nat.not_lt.mpr hx)
  refine cs_for_pair (s := { s with heap := h' }) (P2 := fun i v0 v1 => ∃ t c u, v0 = .int i t ∧ b[i]? = some c ∧ v1 = .int (c.toNat : Int) u) led J hh W ?_ hxi hxc hp ?_ ?_ ?_ ?_ ⟨⟨_, he⟩, hit⟩ (F.keeps hk) (N.keeps hk) h0 ?_ ?_
  · rintro i vals ⟨t, x, ⟨c, u, hc, rfl⟩, rfl⟩
    exact ⟨_, _, rfl, t, c, u, rfl, hc, rfl⟩
  · exact pair_ne hL
  · intro x hm
    exact none_ x (pair_ge hm)
  · intro x hm
    exact .inl hm
  · intro i p hpi
    exact pair_ne (key i p hpi)
  · rintro i v0 v1 m₁ h tk own hi ⟨t, c, u, rfl, hc, rfl⟩ hJ _ hown F₁ N₁
    exact turn i c t u m₁ h tk own hi hc hJ hown F₁ N₁
  · exact done
def over2 (x0 x1 x2 x3 : Str) (m : Str → Option Value) (m₁ : Str → Option Value) : Prop := ∃ o0 o1 o2 o3 : Option Value, m₁ = fun y => if y = x0 then o0 else if y = x1 then o1 else if y = x2 then o2 else if y = x3 then o3 else m y
theorem over2_refl {x0 x1 x2 x3 : Str} {m : Str → Option Value} : over2 x0 x1 x2 x3 m m := ⟨m x0, m x1, m x2, m x3, by funext y; (repeat' split) <;> first | rfl | (subst_vars; rfl)⟩
theorem over2_step {x0 x1 x2 x3 : Str} {m m₁ : Str → Option Value} {o0 o1 o2 o3 : Option Value} (h : over2 x0 x1 x2 x3 m m₁) :
    over2 x0 x1 x2 x3 m (fun y => if y = x0 then o0 else if y = x1 then o1 else if y = x2 then o2 else if y = x3 then o3 else m₁ y) := by
  obtain ⟨p0, p1, p2, p3, rfl⟩ := h
  refine ⟨o0, o1, o2, o3, ?_⟩
  funext y
  (repeat' split) <;> first | rfl | simp_all
/-- x.append(e), x.extend(e) on a bytearray of the frame -/
theorem st_ba {x name : Str} {px apos pos pos2 : Pos} {args : List Expr} {a : Addr} {b : Array UInt8} {news : List (Addr × Obj)} {m : Str → Option Value} {i : String} {Q : Flow → Shared → Prop} (slot : Slot "bytearray" name i) (hty : typeOf (.builtin i) = pure (.type "method_descriptor"))
    (F : Fr h₀ env.locals s.heap m) (N : News h₀ env.locals s.heap news) (hv : m x = some (.ref a)) (hm : (a, baOf b) ∈ news) (hk : env.scope.kind = .function) (hl : env.kindOf x = some .local) (hd : (x == ("__debug__" : Str)) = false)
    (hbase : attributeBase (.Name x px) name env (eval (.Name x px) env) = eval (.Name x px) env)
    (hfew : methodCallForm (args.length + ([] : List Keyword).length) (backTo pos (starEach args env)) (backToKw pos (keywordEach [] env)) = true)
    (hline : (apos.endLine == pos.line) = true) (hi : interactive env = false) (hs : swapsWith (.Call (.Attribute (.Name x px) name apos) args [] pos) none pos2.line env = pure false)
    (h : WS (model prog w) A (callWith pos (.builtin i) [.ref a] (backTo pos (starEach args env)) []) (fun v s' => v = .none ∧ Q .next s') E s) :
    WS (model prog w) A (exec (.Expr (.Call (.Attribute (.Name x px) name apos) args [] pos) pos2) env) Q E s := by
  refine ws_Expr (ws_Call_method hbase hfew hline ba_plain slot hty ?_) hi hs
  refine wpAny_Name (wpAny_loadName_local hk hl F.ns hv ?_) hd
  exact ⟨⟨_, N.get hm, rfl⟩, fun a e => by cases e; exact ⟨_, N.get hm, rfl⟩, ws_mono h (fun v s' h' => by obtain ⟨rfl, h'⟩ := h'; exact h') fun _ _ x => x⟩
end
end Mine
end
section
open PySem PySem.W PySem.Calls PyProof.Rows
namespace Mine
theorem flush_XC2 : True := by
  w_top off
  trivial
local macro_rules | `(tactic| walk_at "call ref") => `(tactic| (k_here; (with_reducible show wpAny _ _ (call (Value.ref 64) [Value.int _ _, Value.int _ _, Value.int _ _, Value.int _ _]) _ _ _); k_dflt (refine' use_cI (guess_c _ _ _ _ _ _ _ _ _ _ ?kx ?ky) ?k1 ?k2 ?k3 ?k4 ?k5 ?kK ?kd ?ku ?_; (case kx => assumption); (case ky => assumption); (case k1 => k_asm); (case k2 => k_asm); (case k3 => k_asm); (case k4 => k_asm); (case k5 => k_asm); (case kK => first | exact rfl | assumption); (case kd => ktr_room); (case ku => ktr_units)); intro t9 h9 tk9 F9 N9; (try dsimp only); (try k_fold)))
def filtAt (k : Int) (ks ls : List Int) (i : Nat) : Int :=
  (ks.getD i 0 - guessV k (if 4 ≤ i then ks.getD (i-4) 0 else 0) (ls.getD i 0) (if 4 ≤ i then ls.getD (i-4) 0 else 0)) % 256
def filtL (k : Int) (ks ls : List Int) (n : Nat) : List Int := (List.range n).map (filtAt k ks ls)
theorem filtL_length (k : Int) (ks ls : List Int) (n : Nat) : (filtL k ks ls n).length = n := by simp [filtL]
theorem filtL_succ {k : Int} {ks ls : List Int} {i : Nat} {x : Int} (h : filtAt k ks ls i = x) : byteArr (filtL k ks ls (i + 1)) = (byteArr (filtL k ks ls i)).push x.toNat.toUInt8 := by
  unfold filtL byteArr
  rw [List.range_succ, List.map_append, List.map_append, List.map_singleton, List.map_singleton, h]
  exact (List.push_toArray _ _).symm
theorem filtered_c (w : World) (k : Int) (b ab : Array UInt8) (ks ls : List Int) (hb : KBw.bInts b = ks) (ha : KBw.bInts ab = ls) (tk tb ta t4 : Tok) (news) (h0 : 0 ≤ k) (h4 : k ≤ 4) (hab : ks.length ≤ ls.length) (hz : ls.length ≤ 1000) :
    ClaimsS w 71 3 24 [.int k tk, .bytes b tb, .bytes ab ta, .int 4 t4] news (fun r n => n = news ∧ ∃ t, r = .bytes (byteArr (filtL k ks ls ks.length)) t) := by
  unfold ClaimsS
  k_fill
  intro dp un cn cs a' ccd cl outer A₀ base h₀ L m mean mg mb s Q E B F X N T hk hd hu hret
  refine ws_call ?_
  k_dflt (refine' cs_def ?k1 ?k2 ?k3 ?k4 ?k5 ?kA ?kF ?kK ?k6 ?k7 ?k8 ?k9 ?kB ?_ ?c2 ?c3 ?c4 ?c5; (case kA => exact rfl); (case kF => exact rfl); (case kK => assumption); (case k1 => k_asm); (case k2 => k_asm); (case k3 => k_asm); (case k4 => k_asm); (case k5 => k_asm); (case k6 => k_is); (case k7 => k_is); (case k8 => ktr_room); (case k9 => exact BindsTo.of_eq rfl); (case c5 => decide); (case kB => exact locs rfl); (case c2 => exact rfl); (case c3 => exact rfl); (case c4 => exact rfl); intro g' L' h' FG' F' N' B' X' T' hlt; (try dsimp only); (try k_fold))
  refine ws_execs_cons (ws_Assign_Name (ws_Call_Name ?_))
  k_steps
  refine ws_callWith_type0 (ba_newX rfl (by assumption) (by assumption) fun ba h1 F1 N1 hapN => ?_)
  dsimp only
  k_steps
  refine ws_execs_cons (ws_For ?_ fun _ => rfl)
  k_steps
  with_reducible rename Fr _ _ _ _ => F2
  with_reducible rename News _ _ _ _ => N2
  refine for_enumB (fun i => (ba, baOf (byteArr (filtL k ks ls i))) :: news) (fun i m₁ => over2 (Str.ofString "corner") (Str.ofString "left") (Str.ofString "octet") (Str.ofString "at") _ m₁) (ba :: news.map (·.1)) rfl rfl rfl rfl (fun i => rfl) F2 N2 over2_refl ?_ ?_
  · intro i c t u m₁ h tk own hi hc hJ hown F3 N3
    clear N2 F2
    have hJ' := hJ
    obtain ⟨o0, o1, o2, o3, rfl⟩ := hJ'
    have hown' : ∀ q ∈ news ++ own, q.1 ≠ ba := fun q hq => by
      rcases List.mem_append.mp hq with hq | hq
      · exact hapN q hq
      · exact hown q hq _ (.head _)
    have hks : ks.getD i 0 = (c.toNat : Int) := by rw [← hb]; simp [KBw.bInts, hc, List.getD_eq_getElem?_getD]
    have hin : (i : Int) < ks.length := by rw [← hb, KBw.ints_length]; omega
    refine ws_execs_any ?_
    k_steps
    all_goals (refine ws_execs_any ?_; k_steps)
    all_goals (
      with_reducible rename Fr _ _ _ _ => F4
      with_reducible rename News _ _ _ _ => N4
      refine ws_execs_cons (st_ba ba_slot_append ba_type_append F4 N4 rfl (.head _) rfl rfl (by decide) rfl rfl rfl rfl rfl ?_)
      refine ws_callWith_builtin ?_
      k_steps)
    all_goals (
      with_reducible rename Fr _ _ _ _ => F5
      with_reducible rename News _ _ _ _ => N5
      rw [bitAnd_m8]
      refine ba_appendX rfl F5 N5 hown' (by omega) (by omega) (by rw [byteArr_size, filtL_length, sizeLine_eq]; omega) fun h6 F6 N6 => ?_
      refine ⟨rfl, ws_execs_nil ⟨rfl, _, _, _, rfl, F6, ?_, over2_step hJ⟩⟩
      rw [filtL_succ (x := _) ?_]
      exact N6
      unfold filtAt
      rw [hks]
      first | rw [if_pos (by omega)] | rw [if_neg (by omega)]
      first | rw [if_pos (by omega)] | rw [if_neg (by omega)]
      first | rfl | (rw [show ((i : Int) - 4).toNat = i - 4 by omega]; rfl))
  · intro h tk m' F3 F3N hJ
    have hbs : b.size = ks.length := by rw [← hb, KBw.ints_length]
    obtain ⟨o0, o1, o2, o3, rfl⟩ := hJ
    clear N2 F2
    refine ws_execs_any ?_
    k_steps
    refine bytes_baX F3N (.head _) (by rw [byteArr_size, filtL_length, sizeLine_eq]; omega) fun t9 k9 => ?_
    k_steps
    with_reducible rename Fr _ _ _ _ => F5
    with_reducible rename News _ _ _ _ => N5
    rw [hbs]
    exact hret _ _ _ _ ⟨rfl, _, rfl⟩ F5 (newsSub N5 fun p hp => .tail _ hp)
end Mine
end
section
open PySem PySem.W PySem.Calls PyProof.Rows
namespace Mine
section
variable {prog : Program} {w : World} {A : Around} {E : Value → Shared → Prop} {s₁ : Shared} {h₀ : Heap} {L : Addr} {m : Str → Option Value} {news : List (Addr × Obj)}
theorem bytes_areOf {b : Array UInt8} {vs : List Value} (hlen : vs.length = b.size) (hP : ∀ (j : Nat) (v : Value), vs[j]? = some v → ∃ c u, b[j]? = some c ∧ v = .int (c.toNat : Int) u) : AreOf ItemKind.int vs (KBw.bInts b) := by
  have key : ∀ (l : List UInt8) (vs : List Value), vs.length = l.length → (∀ (j : Nat) (v : Value), vs[j]? = some v → ∃ c u, l[j]? = some c ∧ v = .int (c.toNat : Int) u) → AreOf ItemKind.int vs (l.map fun c => (c.toNat : Int)) := by
    intro l
    induction l with
    | nil => intro vs h _; cases vs with
      | nil => exact .nil
      | cons v r => simp at h
    | cons c l ih =>
      intro vs h hP
      cases vs with
      | nil => simp at h
      | cons v r =>
        obtain ⟨c', u, hc, rfl⟩ := hP 0 v rfl
        obtain rfl : c = c' := by simpa using hc
        exact .cons ⟨u, rfl⟩ (ih r (by simpa using h) fun j v hj => hP (j + 1) v hj)
  exact key b.toList vs (by simpa using hlen) fun j v hj => by simpa using hP j v hj
theorem srcC_bytes {env : Env} {elt : Expr} {x : Str} {scope : Scope} {Q : Value → Shared → Prop} {b : Array UInt8} {tb : Tok} {ks : List Int} {f : Int → Int}
    (hk : KBw.bInts b = ks) (hh : A.handled = none) (F : Fr h₀ L s₁.heap m) (N : News h₀ L s₁.heap news)
    (g2 : ∀ C a t s₂ m₂ E', a ∈ ks → s₂.heap.Ns (compEnv scope C env).locals m₂ → m₂ x = some (.int a t) → wpAny (model prog w) A (eval elt (compEnv scope C env)) (fun r s₃ => Carried r (.int (f a)) ∧ Keeps s₂ s₃) E' s₂)
    (g3 : ∀ D (ys : List Value) h' tk, Fr h₀ L h' m → News h₀ L h' news → h₀.get? D = none → h'.IsList D ys.toArray → NewPlain h' news D ys.toArray → CarriedAll ys (ks.map fun a => .int (f a)) → Q (.ref D) { s₁ with heap := h', toks := tk })
    (hsz : ks.length ≤ sizeLine := by size_fits) :
    wpAny (model prog w) A (pyIter (.bytes b tb)) (CompPost prog w A env scope x [] elt Q) E s₁ := by
  subst hk
  refine KBw.pyIter_bytes ?_
  have up : ∀ (h' : Heap), (∀ c o', c ∉ [s₁.heap.objs.size] → (s₁.heap.push { cls := .type "bytes_iterator", data := .fields #[.bytes b tb, .int 0 0] }).get? c = some o' → h'.get? c = some o') → ∀ c o', s₁.heap.get? c = some o' → h'.get? c = some o' :=
    fun h' hk b o' e => hk b o' (not_iter_of_old e) (Heap.get?_push_of_some _ e)
  refine ⟨ItemKind.int.lift fun _ => true, fun v r => ∃ a, ItemKind.int.is a v ∧ Carried r (.int (f a)), s₁.heap.objs.size, [s₁.heap.objs.size], [s₁.heap.objs.size], b.size, _, _, rfl, KBw.walks hh _ b tb, (by rw [← KBw.ints_length b]; exact hsz),
    ⟨_, Heap.get?_push_size _ rfl, rfl, rfl⟩, ?_, ⟨?_, ?_⟩, ?_⟩
  · intro c hc
    show c < (s₁.heap.push _).objs.size
    rw [Heap.size_push, List.mem_singleton.mp hc]
    exact Nat.lt_succ_self _
  · intro C i v s₃ m₃ E' hP hn hm _ htk
    obtain ⟨c, u, hc, rfl⟩ := hP
    have h9 := ItemKind.lift_is (K := ItemKind.int) (pz := fun _ => true) (a := (c.toNat : Int)) (v := .int (c.toNat : Int) u) ⟨u, rfl⟩
    exact wpAny_pure ⟨h9.symm, ⟨_, _, rfl, fun _ _ e => e⟩⟩
  · intro C i v s₃ m₃ E' hP hp hn hm _ htk
    obtain ⟨c, u, hc, rfl⟩ := hP
    have hmem : (c.toNat : Int) ∈ KBw.bInts b := by
      have := List.mem_of_getElem? (l := b.toList) (i := i) (a := c) (by simpa using hc)
      exact List.mem_map_of_mem this
    exact wpAny_mono (g2 C _ u s₃ m₃ E' hmem hn hm) (fun r s₄ h₄ => ⟨⟨_, ⟨u, rfl⟩, h₄.1⟩, h₄.2⟩) fun _ _ e => e
  · intro D h' tk ys vs' hnew hlD hplD hlen hP hF hk
    have hi := bytes_areOf hlen hP
    refine g3 D ys.toList h' tk (F.keeps (up h' hk)) (N.grown (up h' hk)) ?_ (by rw [Array.toArray_toList]; exact hlD) ⟨by rw [Array.toArray_toList]; exact hplD, fun p hp e => by rw [← e, Heap.get?_push_of_some _ (N p hp).1] at hnew; cases hnew⟩ ?_
    · cases e : h₀.get? D with
      | none => rfl
      | some o' => rw [Heap.get?_push_of_some _ (F.keep _ _ e)] at hnew; cases hnew
    · have h9 := hi.paired (fun _ => true) (fun a => .int (f a)) _ hF
      rw [List.filter_eq_self.mpr fun _ _ => rfl] at h9
      exact h9
end
end Mine
end
section
open PySem PySem.W PySem.Calls PyProof.Rows
namespace Mine
theorem flush_XC3 : True := by
  w_top off
  trivial
def weightV (ks : List Int) : Int := (ks.map fun x => if x < 128 then x else 256 - x).sum
theorem weight_c (w : World) (b : Array UInt8) (ks : List Int) (hb : KBw.bInts b = ks) (hz : ks.length ≤ 1000) (tb : Tok) (news) : Claims w 76 2 16 [.bytes b tb] news (PostI news (weightV ks)) := by
  unfold Claims
  k_fill
  intro dp un gd cn cs a' ccd cl outer A₀ base h₀ L m mean mg mb s Q E B F X N T hk hd hu hret
  refine wpAny_call ?_
  k_dflt ktr_enter
  k_steps
  with_reducible rename Fr _ _ _ _ => F2
  with_reducible rename News _ _ _ _ => N2
  refine srcC_bytes (f := fun x => if x < 128 then x else 256 - x) hb rfl F2 N2 ?_ ?_ (by rw [sizeLine_eq]; omega)
  · intro C a t s₂ m₂ E' ha hn hm
    k_steps
    all_goals first
      | exact ⟨_, _, rfl, fun _ _ e => e⟩
      | (first | rw [if_pos (by assumption)] | rw [if_neg (by assumption)]
         exact .int _ _)
  · intro D ys h' tk F3 N3 hD hl hpl hys
    k_steps
    refine LSm.sum_ints F3 N3 rfl hl hys.intsOf fun h4 tk4 t4 F4 N4 => ?_
    k_steps
    exact retI hret rfl (by assumption) (by assumption)
end Mine
end
section
open PySem PySem.W PySem.Calls PyProof.Rows
namespace Mine
theorem flush_XC4 : True := by
  w_top off
  trivial
local macro_rules | `(tactic| walk_at "no such node") => `(tactic| skip)
abbrev intL (a b : Int) (ta tb : Tok) (n : Nat) : Obj := listOf [.int a ta, .int b tb].toArray n
/-- what _law_take leaves: the source's list of two, none below 0 -/
def Src (src : Addr) (post news : List (Addr × Obj)) : Prop := ∃ x y tx ty n, 0 ≤ x ∧ 0 ≤ y ∧ news = (src, intL x y tx ty n) :: post
local macro_rules | `(tactic| k_all) => `(tactic| assumption)
theorem getD0 (x y : Int) : [x, y].getD (Int.toNat 0) 0 = x := rfl
theorem getD1 (x y : Int) : [x, y].getD (Int.toNat 1) 0 = y := rfl
theorem fmodB (x : Int) : 0 ≤ x.fmod 2147483647 ∧ x.fmod 2147483647 < 2147483647 := ⟨Int.fmod_nonneg_of_pos _ (by decide), Int.fmod_lt_of_pos _ (by decide)⟩
theorem retTake {h₀ h' : Heap} {L : Addr} {m : Str → Option Value} {s : Shared} {Q : Value → Shared → Prop} {src : Addr} {post : List (Addr × Obj)} {v top x y : Int} {t tx ty : Tok} {n : Nat} {tk' : Nat}
    (hret : ∀ r news' h' tk', ((∃ v t, r = .int v t ∧ 0 ≤ v ∧ v < top) ∧ Src src post news') → Fr h₀ L h' m → News h₀ L h' news' → Q r { s with heap := h', toks := tk' })
    (h1 : 0 ≤ v) (h2 : v < top) (hx : 0 ≤ x) (hy : 0 ≤ y) (F : Fr h₀ L h' m) (N : News h₀ L h' ((src, intL x y tx ty n) :: post)) : Q (.int v t) { s with heap := h', toks := tk' } :=
  hret _ _ _ _ ⟨⟨_, _, rfl, h1, h2⟩, _, _, _, _, _, hx, hy, rfl⟩ F N
theorem take_c (w : World) (src : Addr) (x y top : Int) (n : Nat) (tx ty tt : Tok) (post) (h0 : 0 ≤ x) (h1 : 0 ≤ y) (ht : 0 < top) (ht' : top ≤ 1000) (hap : ∀ q ∈ post, q.1 ≠ src) :
    Claims w 117 2 16 [.ref src, .int top tt] ((src, intL x y tx ty n) :: post) (fun r news' => (∃ v t, r = .int v t ∧ 0 ≤ v ∧ v < top) ∧ Src src post news') := by
  unfold Claims
  k_fill
  intro dp un gd cn cs a' ccd cl outer A₀ base h₀ L m mean mg mb s Q E B F X N T hk hd hu hret
  refine wpAny_call ?_
  k_dflt ktr_enter
  k_steps
  · simp only [getD0, getD1] at *
    refine retTake hret ?_ ?_ ?_ ?_ (by assumption) (by assumption)
    · exact Int.fmod_nonneg_of_pos _ ht
    · exact Int.fmod_lt_of_pos _ ht
    · exact Int.fdiv_nonneg h0 (Int.le_of_lt ht)
    · exact h1
  · simp only [getD0, getD1] at *
    have h9 := fmodB (y * 39373 + 7)
    refine mul_int ?_
    k_steps
    refine retTake hret ?_ ?_ ?_ ?_ (by assumption) (by assumption)
    · exact Int.fmod_nonneg_of_pos _ ht
    · exact Int.fmod_lt_of_pos _ ht
    · exact h0
    · exact h9.1
end Mine
end
section
open PySem PySem.W PySem.Calls PyProof.Rows
namespace Mine
def Lock (P : Prop) : Prop := P
theorem Lock.of {P : Prop} (h : Lock P) : P := h
theorem Lock.open {P : Prop} (h : P) : Lock P := h
section
variable {prog : Program} {w : World} {A : Around} {E : Value → Shared → Prop} {s : Shared} {env : Env}
theorem compE_list {P : Value → Value → Prop} {elt iter : Expr} {x : Str} {px : Pos} {scope : Scope} {cl : List (Str × Addr)} {pos : Pos} {Q : Value → Shared → Prop}
    (hh : A.handled = none) (hclos : closureFor scope env = pure cl) (hcell : ∀ y ∈ scope.names, y.2 ≠ .cell) (hkind : scope.kind = .function)
    (hnames : ∀ y ∈ scope.names, y.2 = .local → scope.names.lookup y.1 = some .local) (hx : scope.names.lookup x = some .local)
    (hs : ∀ x, foldedSetIterable iter env x = pure x)
    (h : wpAny (model prog w) A (eval iter env) (fun xv s₁ => Lock (∃ (h₀ : Heap) (L : Addr) (m : Str → Option Value) (news : List (Addr × Obj)), ∃ ax vs, xv = .ref ax ∧ s₁.heap.IsList ax vs.toArray ∧ vs.length ≤ sizeLine ∧ Fr h₀ L s₁.heap m ∧ News h₀ L s₁.heap news ∧
      (∀ C v s₂ m₂ E', s₁.heap.objs.size ≤ C → v ∈ vs → s₂.heap.Ns (compEnvC scope cl C env).locals m₂ → m₂ x = some v → (∀ b o, s₁.heap.get? b = some o → s₂.heap.get? b = some o) →
        wpAny (model prog w) A (eval elt (compEnvC scope cl C env)) (fun y s₃ => P v y ∧ Keeps s₂ s₃) E' s₂) ∧
      (∀ D (ys : List Value) n h' tk, Fr h₀ L h' m → News h₀ L h' ((D, listOf ys.toArray n) :: news) → (∀ p ∈ news, p.1 ≠ D) → Paired P vs ys → Q (.ref D) { s₁ with heap := h', toks := tk }))) E s) :
    wpAny (model prog w) A (eval (.ListComp elt [⟨.Name x px, iter, [], 0⟩] scope pos) env) Q E s := by
  refine wpAny_ListComp_free (fun _ => true) P hclos hcell hkind hnames hx (wpAny_mono h (fun xv s₁ h₁ => ?_) fun _ _ e => e) hs
  obtain ⟨h₀, L, m, news, ax, vs, rfl, hl, hsz, F, N, helt, hQ⟩ := h₁
  have hlt : ax < s₁.heap.objs.size := by obtain ⟨_, e, _⟩ := hl; exact Heap.lt_size e
  have up : ∀ (s₃ : Shared), (∀ b o, b ∉ [s₁.heap.objs.size] → (s₁.heap.push { cls := .type "list_iterator", data := .fields #[.ref ax, .int 0 0] }).get? b = some o → s₃.heap.get? b = some o) → ∀ b o, s₁.heap.get? b = some o → s₃.heap.get? b = some o :=
    fun s₃ hk b o e => hk b o (fun hm => by rcases List.mem_cons.mp hm with rfl | hm; exact Nat.lt_irrefl _ (Heap.lt_size e); cases hm) (Heap.get?_push_of_some _ e)
  refine wpAny_pyIter_list hl ⟨s₁.heap.objs.size, [s₁.heap.objs.size, ax], [s₁.heap.objs.size], vs.toArray.size, _, _, rfl, Walks.list hh _ _ (Nat.ne_of_lt hlt) vs.toArray, (by rw [List.size_toArray]; exact hsz), ⟨⟨_, Heap.get?_push_size _ rfl, rfl, rfl⟩, hl.push _⟩, ?_, ⟨?_, ?_⟩, ?_⟩
  · intro b hb
    show b < (s₁.heap.push _).objs.size
    rw [Heap.size_push]
    rcases List.mem_cons.mp hb with rfl | hb
    · exact Nat.lt_succ_self _
    · rcases List.mem_cons.mp hb with rfl | hb
      · exact Nat.lt_succ_of_lt hlt
      · cases hb
  · intro C i v s₃ m₃ E' hC hP hn hm hk _
    exact wpAny_pure ⟨rfl, ⟨_, _, rfl, fun _ _ e => e⟩⟩
  · intro C i v s₃ m₃ E' hC hP hp' hn hm hk _
    have hmem : v ∈ vs := by simpa using Array.mem_of_getElem? hP
    exact helt C v s₃ m₃ E' (Nat.le_of_succ_le (by simpa [Heap.size_push] using hC)) hmem hn hm (up s₃ hk)
  · intro D h' tk ys vs' hnew hlD hplD hlen hP hF hk
    have e : vs' = vs := by simpa using list_of_places hlen hP
    subst e
    rw [List.filter_eq_self.mpr fun _ _ => rfl] at hF
    have keep : ∀ b o, s₁.heap.get? b = some o → h'.get? b = some o := up { s₁ with heap := h' } hk
    have hD : h₀.get? D = none := by
      cases e : h₀.get? D with
      | none => rfl
      | some o' => rw [Heap.get?_push_of_some _ (F.keep _ _ e)] at hnew; cases hnew
    have hap : ∀ p ∈ news, p.1 ≠ D := fun p hp e => by rw [← e, Heap.get?_push_of_some _ (N p hp).1] at hnew; cases hnew
    obtain ⟨n, N'⟩ := made_enters ⟨hplD, hap⟩ (F.keeps keep) (N.grown keep) hD
    exact hQ D ys.toList n h' tk (F.keeps keep) (by rw [Array.toArray_toList]; exact N') hap hF
theorem compA_list {P : Value → Value → Prop} {elt iter : Expr} {x y : Str} {px py : Pos} {scope : Scope} {cl : List (Str × Addr)} {pos spos : Pos} {Q : Flow → Shared → Prop}
    (hsw : swapsWith (.ListComp elt [⟨.Name x px, iter, [], 0⟩] scope pos) (some (.Name y py)) spos.line env = pure true)
    (hh : A.handled = none) (hclos : closureFor scope env = pure cl) (hcell : ∀ z ∈ scope.names, z.2 ≠ .cell) (hkind : scope.kind = .function)
    (hnames : ∀ z ∈ scope.names, z.2 = .local → scope.names.lookup z.1 = some .local) (hx : scope.names.lookup x = some .local)
    (hy : env.kindOf y = some .local) (hp : (env.scope.kind == .class || (env.scope.kind == .module && env.locals != env.globals)) = false)
    (hs : ∀ x, foldedSetIterable iter env x = pure x)
    (h : wpAny (model prog w) A (eval iter env) (fun xv s₁ => Lock (∃ (h₀ : Heap) (m : Str → Option Value) (news : List (Addr × Obj)), ∃ ax vs, xv = .ref ax ∧ s₁.heap.IsList ax vs.toArray ∧ vs.length ≤ sizeLine ∧ Fr h₀ env.locals s₁.heap m ∧ News h₀ env.locals s₁.heap news ∧
      (∀ C v s₂ m₂ E', s₁.heap.objs.size ≤ C → v ∈ vs → s₂.heap.Ns (compEnvC scope cl C env).locals m₂ → m₂ x = some v → (∀ b o, s₁.heap.get? b = some o → s₂.heap.get? b = some o) →
        wpAny (model prog w) A (eval elt (compEnvC scope cl C env)) (fun y s₃ => P v y ∧ Keeps s₂ s₃) E' s₂) ∧
      (∀ D (ys : List Value) n h' tk, Fr h₀ env.locals h' (fun z => if z = y then some (.ref D) else m z) → News h₀ env.locals h' ((D, listOf ys.toArray n) :: news) → (∀ p ∈ news, p.1 ≠ D) → Paired P vs ys → Q .next { s₁ with heap := h', toks := tk }))) E s) :
    wpAny (model prog w) A (exec (.Assign [.Name y py] (.ListComp elt [⟨.Name x px, iter, [], 0⟩] scope pos) spos) env) Q E s := by
  refine wpAny_Assign_ListComp_free (fun _ => true) P hsw hclos hcell hkind hnames hx hy hp (wpAny_mono h (fun xv s₁ h₁ => ?_) fun _ _ e => e) hs
  obtain ⟨h₀, m, news, ax, vs, rfl, hl, hsz, F, N, helt, hQ⟩ := h₁
  have hlt : ax < s₁.heap.objs.size := by obtain ⟨_, e, _⟩ := hl; exact Heap.lt_size e
  have up : ∀ (s₃ : Shared), (∀ b o, b ∉ [s₁.heap.objs.size] → (s₁.heap.push { cls := .type "list_iterator", data := .fields #[.ref ax, .int 0 0] }).get? b = some o → s₃.heap.get? b = some o) → ∀ b o, s₁.heap.get? b = some o → s₃.heap.get? b = some o :=
    fun s₃ hk b o e => hk b o (fun hm => by rcases List.mem_cons.mp hm with rfl | hm; exact Nat.lt_irrefl _ (Heap.lt_size e); cases hm) (Heap.get?_push_of_some _ e)
  refine wpAny_pyIter_list hl ⟨s₁.heap.objs.size, [s₁.heap.objs.size, ax], [s₁.heap.objs.size], vs.toArray.size, _, _, m, rfl, Walks.list hh _ _ (Nat.ne_of_lt hlt) vs.toArray, (by rw [List.size_toArray]; exact hsz), ⟨⟨_, Heap.get?_push_size _ rfl, rfl, rfl⟩, hl.push _⟩, ?_, ?_, F.ns.push _, ⟨?_, ?_⟩, ?_⟩
  · intro b hb
    show b < (s₁.heap.push _).objs.size
    rw [Heap.size_push]
    rcases List.mem_cons.mp hb with rfl | hb
    · exact Nat.lt_succ_self _
    · rcases List.mem_cons.mp hb with rfl | hb
      · exact Nat.lt_succ_of_lt hlt
      · cases hb
  · intro hm
    rcases List.mem_cons.mp hm with e | hm
    · exact Nat.lt_irrefl _ (e ▸ F.ns.lt)
    · cases hm
  · intro C i v s₃ m₃ E' hC hP hn hm hk _
    exact wpAny_pure ⟨rfl, ⟨_, _, rfl, fun _ _ e => e⟩⟩
  · intro C i v s₃ m₃ E' hC hP hp' hn hm hk _
    have hmem : v ∈ vs := by simpa using Array.mem_of_getElem? hP
    exact helt C v s₃ m₃ E' (Nat.le_of_succ_le (by simpa [Heap.size_push] using hC)) hmem hn hm (up s₃ hk)
  · intro D h' tk ys vs' hnew hlD hplD hlen hP hF hn' hk
    have e : vs' = vs := by simpa using list_of_places hlen hP
    subst e
    rw [List.filter_eq_self.mpr fun _ _ => rfl] at hF
    have keep : ∀ b o, b ≠ env.locals → s₁.heap.get? b = some o → h'.get? b = some o := fun b o hb e =>
      hk b o hb (fun hm => by rcases List.mem_cons.mp hm with rfl | hm; exact Nat.lt_irrefl _ (Heap.lt_size e); cases hm) (Heap.get?_push_of_some _ e)
    have hD : h₀.get? D = none := by
      cases e : h₀.get? D with
      | none => rfl
      | some o' => rw [Heap.get?_push_of_some _ (F.keep _ _ e)] at hnew; cases hnew
    have hap : ∀ p ∈ news, p.1 ≠ D := fun p hp e => by rw [← e, Heap.get?_push_of_some _ (N p hp).1] at hnew; cases hnew
    have F' : Fr h₀ env.locals h' (fun z => if z = y then some (.ref D) else m z) := ⟨hn', fun b o e => keep b o (Nat.ne_of_lt (Nat.lt_of_lt_of_le (Heap.lt_size e) F.above)) (F.keep b o e), F.above⟩
    have Nk : News h₀ env.locals h' news := fun p hp => ⟨keep _ _ (N p hp).2.1 (N p hp).1, (N p hp).2⟩
    obtain ⟨n, N'⟩ := made_enters ⟨hplD, hap⟩ F' Nk hD
    exact hQ D ys.toList n h' tk F' (by rw [Array.toArray_toList]; exact N') hap hF
theorem compE_tuple {P : Value → Value → Prop} {elt iter : Expr} {x : Str} {px : Pos} {scope : Scope} {cl : List (Str × Addr)} {pos : Pos} {Q : Value → Shared → Prop}
    (hh : A.handled = none) (hclos : closureFor scope env = pure cl) (hcell : ∀ y ∈ scope.names, y.2 ≠ .cell) (hkind : scope.kind = .function)
    (hnames : ∀ y ∈ scope.names, y.2 = .local → scope.names.lookup y.1 = some .local) (hx : scope.names.lookup x = some .local)
    (hs : ∀ x, foldedSetIterable iter env x = pure x)
    (h : wpAny (model prog w) A (eval iter env) (fun xv s₁ => Lock (∃ (h₀ : Heap) (L : Addr) (m : Str → Option Value) (news : List (Addr × Obj)), ∃ ax vs, xv = .ref ax ∧ s₁.heap.IsTuple ax vs.toArray ∧ vs.length ≤ sizeLine ∧ Fr h₀ L s₁.heap m ∧ News h₀ L s₁.heap news ∧
      (∀ C v s₂ m₂ E', s₁.heap.objs.size ≤ C → v ∈ vs → s₂.heap.Ns (compEnvC scope cl C env).locals m₂ → m₂ x = some v → (∀ b o, s₁.heap.get? b = some o → s₂.heap.get? b = some o) →
        wpAny (model prog w) A (eval elt (compEnvC scope cl C env)) (fun y s₃ => P v y ∧ Keeps s₂ s₃) E' s₂) ∧
      (∀ D (ys : List Value) n h' tk, Fr h₀ L h' m → News h₀ L h' ((D, listOf ys.toArray n) :: news) → (∀ p ∈ news, p.1 ≠ D) → Paired P vs ys → Q (.ref D) { s₁ with heap := h', toks := tk }))) E s) :
    wpAny (model prog w) A (eval (.ListComp elt [⟨.Name x px, iter, [], 0⟩] scope pos) env) Q E s := by
  refine wpAny_ListComp_free (fun _ => true) P hclos hcell hkind hnames hx (wpAny_mono h (fun xv s₁ h₁ => ?_) fun _ _ e => e) hs
  obtain ⟨h₀, L, m, news, ax, vs, rfl, hl, hsz, F, N, helt, hQ⟩ := h₁
  have hlt : ax < s₁.heap.objs.size := by obtain ⟨_, e, _⟩ := hl; exact Heap.lt_size e
  have up : ∀ (s₃ : Shared), (∀ b o, b ∉ [s₁.heap.objs.size] → (s₁.heap.push { cls := .type "tuple_iterator", data := .fields #[.ref ax, .int 0 0] }).get? b = some o → s₃.heap.get? b = some o) → ∀ b o, s₁.heap.get? b = some o → s₃.heap.get? b = some o :=
    fun s₃ hk b o e => hk b o (fun hm => by rcases List.mem_cons.mp hm with rfl | hm; exact Nat.lt_irrefl _ (Heap.lt_size e); cases hm) (Heap.get?_push_of_some _ e)
  refine wpAny_pyIter_tuple hl ⟨s₁.heap.objs.size, [s₁.heap.objs.size, ax], [s₁.heap.objs.size], vs.toArray.size, _, _, rfl, Walks.tuple hh _ _ (Nat.ne_of_lt hlt) vs.toArray, (by rw [List.size_toArray]; exact hsz), ⟨⟨_, Heap.get?_push_size _ rfl, rfl, rfl⟩, hl.push _⟩, ?_, ⟨?_, ?_⟩, ?_⟩
  · intro b hb
    show b < (s₁.heap.push _).objs.size
    rw [Heap.size_push]
    rcases List.mem_cons.mp hb with rfl | hb
    · exact Nat.lt_succ_self _
    · rcases List.mem_cons.mp hb with rfl | hb
      · exact Nat.lt_succ_of_lt hlt
      · cases hb
  · intro C i v s₃ m₃ E' hC hP hn hm hk _
    exact wpAny_pure ⟨rfl, ⟨_, _, rfl, fun _ _ e => e⟩⟩
  · intro C i v s₃ m₃ E' hC hP hp' hn hm hk _
    have hmem : v ∈ vs := by simpa using Array.mem_of_getElem? hP
    exact helt C v s₃ m₃ E' (Nat.le_of_succ_le (by simpa [Heap.size_push] using hC)) hmem hn hm (up s₃ hk)
  · intro D h' tk ys vs' hnew hlD hplD hlen hP hF hk
    have e : vs' = vs := by simpa using list_of_places hlen hP
    subst e
    rw [List.filter_eq_self.mpr fun _ _ => rfl] at hF
    have keep : ∀ b o, s₁.heap.get? b = some o → h'.get? b = some o := up { s₁ with heap := h' } hk
    have hD : h₀.get? D = none := by
      cases e : h₀.get? D with
      | none => rfl
      | some o' => rw [Heap.get?_push_of_some _ (F.keep _ _ e)] at hnew; cases hnew
    have hap : ∀ p ∈ news, p.1 ≠ D := fun p hp e => by rw [← e, Heap.get?_push_of_some _ (N p hp).1] at hnew; cases hnew
    obtain ⟨n, N'⟩ := made_enters ⟨hplD, hap⟩ (F.keeps keep) (N.grown keep) hD
    exact hQ D ys.toList n h' tk (F.keeps keep) (by rw [Array.toArray_toList]; exact N') hap hF
theorem compA_tuple {P : Value → Value → Prop} {elt iter : Expr} {x y : Str} {px py : Pos} {scope : Scope} {cl : List (Str × Addr)} {pos spos : Pos} {Q : Flow → Shared → Prop}
    (hsw : swapsWith (.ListComp elt [⟨.Name x px, iter, [], 0⟩] scope pos) (some (.Name y py)) spos.line env = pure true)
    (hh : A.handled = none) (hclos : closureFor scope env = pure cl) (hcell : ∀ z ∈ scope.names, z.2 ≠ .cell) (hkind : scope.kind = .function)
    (hnames : ∀ z ∈ scope.names, z.2 = .local → scope.names.lookup z.1 = some .local) (hx : scope.names.lookup x = some .local)
    (hy : env.kindOf y = some .local) (hp : (env.scope.kind == .class || (env.scope.kind == .module && env.locals != env.globals)) = false)
    (hs : ∀ x, foldedSetIterable iter env x = pure x)
    (h : wpAny (model prog w) A (eval iter env) (fun xv s₁ => Lock (∃ (h₀ : Heap) (m : Str → Option Value) (news : List (Addr × Obj)), ∃ ax vs, xv = .ref ax ∧ s₁.heap.IsTuple ax vs.toArray ∧ vs.length ≤ sizeLine ∧ Fr h₀ env.locals s₁.heap m ∧ News h₀ env.locals s₁.heap news ∧
      (∀ C v s₂ m₂ E', s₁.heap.objs.size ≤ C → v ∈ vs → s₂.heap.Ns (compEnvC scope cl C env).locals m₂ → m₂ x = some v → (∀ b o, s₁.heap.get? b = some o → s₂.heap.get? b = some o) →
        wpAny (model prog w) A (eval elt (compEnvC scope cl C env)) (fun y s₃ => P v y ∧ Keeps s₂ s₃) E' s₂) ∧
      (∀ D (ys : List Value) n h' tk, Fr h₀ env.locals h' (fun z => if z = y then some (.ref D) else m z) → News h₀ env.locals h' ((D, listOf ys.toArray n) :: news) → (∀ p ∈ news, p.1 ≠ D) → Paired P vs ys → Q .next { s₁ with heap := h', toks := tk }))) E s) :
    wpAny (model prog w) A (exec (.Assign [.Name y py] (.ListComp elt [⟨.Name x px, iter, [], 0⟩] scope pos) spos) env) Q E s := by
  refine wpAny_Assign_ListComp_free (fun _ => true) P hsw hclos hcell hkind hnames hx hy hp (wpAny_mono h (fun xv s₁ h₁ => ?_) fun _ _ e => e) hs
  obtain ⟨h₀, m, news, ax, vs, rfl, hl, hsz, F, N, helt, hQ⟩ := h₁
  have hlt : ax < s₁.heap.objs.size := by obtain ⟨_, e, _⟩ := hl; exact Heap.lt_size e
  have up : ∀ (s₃ : Shared), (∀ b o, b ∉ [s₁.heap.objs.size] → (s₁.heap.push { cls := .type "tuple_iterator", data := .fields #[.ref ax, .int 0 0] }).get? b = some o → s₃.heap.get? b = some o) → ∀ b o, s₁.heap.get? b = some o → s₃.heap.get? b = some o :=
    fun s₃ hk b o e => hk b o (fun hm => by rcases List.mem_cons.mp hm with rfl | hm; exact Nat.lt_irrefl _ (Heap.lt_size e); cases hm) (Heap.get?_push_of_some _ e)
  refine wpAny_pyIter_tuple hl ⟨s₁.heap.objs.size, [s₁.heap.objs.size, ax], [s₁.heap.objs.size], vs.toArray.size, _, _, m, rfl, Walks.tuple hh _ _ (Nat.ne_of_lt hlt) vs.toArray, (by rw [List.size_toArray]; exact hsz), ⟨⟨_, Heap.get?_push_size _ rfl, rfl, rfl⟩, hl.push _⟩, ?_, ?_, F.ns.push _, ⟨?_, ?_⟩, ?_⟩
  · intro b hb
    show b < (s₁.heap.push _).objs.size
    rw [Heap.size_push]
    rcases List.mem_cons.mp hb with rfl | hb
    · exact Nat.lt_succ_self _
    · rcases List.mem_cons.mp hb with rfl | hb
      · exact Nat.lt_succ_of_lt hlt
      · cases hb
  · intro hm
    rcases List.mem_cons.mp hm with e | hm
    · exact Nat.lt_irrefl _ (e ▸ F.ns.lt)
    · cases hm
  · intro C i v s₃ m₃ E' hC hP hn hm hk _
    exact wpAny_pure ⟨rfl, ⟨_, _, rfl, fun _ _ e => e⟩⟩
  · intro C i v s₃ m₃ E' hC hP hp' hn hm hk _
    have hmem : v ∈ vs := by simpa using Array.mem_of_getElem? hP
    exact helt C v s₃ m₃ E' (Nat.le_of_succ_le (by simpa [Heap.size_push] using hC)) hmem hn hm (up s₃ hk)
  · intro D h' tk ys vs' hnew hlD hplD hlen hP hF hn' hk
    have e : vs' = vs := by simpa using list_of_places hlen hP
    subst e
    rw [List.filter_eq_self.mpr fun _ _ => rfl] at hF
    have keep : ∀ b o, b ≠ env.locals → s₁.heap.get? b = some o → h'.get? b = some o := fun b o hb e =>
      hk b o hb (fun hm => by rcases List.mem_cons.mp hm with rfl | hm; exact Nat.lt_irrefl _ (Heap.lt_size e); cases hm) (Heap.get?_push_of_some _ e)
    have hD : h₀.get? D = none := by
      cases e : h₀.get? D with
      | none => rfl
      | some o' => rw [Heap.get?_push_of_some _ (F.keep _ _ e)] at hnew; cases hnew
    have hap : ∀ p ∈ news, p.1 ≠ D := fun p hp e => by rw [← e, Heap.get?_push_of_some _ (N p hp).1] at hnew; cases hnew
    have F' : Fr h₀ env.locals h' (fun z => if z = y then some (.ref D) else m z) := ⟨hn', fun b o e => keep b o (Nat.ne_of_lt (Nat.lt_of_lt_of_le (Heap.lt_size e) F.above)) (F.keep b o e), F.above⟩
    have Nk : News h₀ env.locals h' news := fun p hp => ⟨keep _ _ (N p hp).2.1 (N p hp).1, (N p hp).2⟩
    obtain ⟨n, N'⟩ := made_enters ⟨hplD, hap⟩ F' Nk hD
    exact hQ D ys.toList n h' tk F' (by rw [Array.toArray_toList]; exact N') hap hF
end
end Mine
end
section
open PySem PySem.W PySem.Calls PyProof.Rows
namespace Mine
theorem neOfAllLt {d e : Nat} : ∀ {l : List (Addr × Obj)}, AllLt d l → d ≤ e → ∀ p ∈ l, p.1 ≠ e
  | [], _, _, p, hp => by cases hp
  | q :: r, h, he, p, hp => by
    rcases List.mem_cons.mp hp with rfl | hp
    · exact Nat.ne_of_lt (Nat.lt_of_lt_of_le h.1 he)
    · exact neOfAllLt h.2 he p hp
abbrev tupO (vs : List Value) (n : Nat) : Obj := { cls := .type "tuple", data := .seq vs.toArray n }
theorem getD_0 {α : Type} (a : α) (r : List α) (d : α) : (a :: r).getD (Int.toNat 0) d = a := rfl
theorem getD_1 {α : Type} (a b : α) (r : List α) (d : α) : (a :: b :: r).getD (Int.toNat 1) d = b := rfl
theorem getD_2 {α : Type} (a b c : α) (r : List α) (d : α) : (a :: b :: c :: r).getD (Int.toNat 2) d = c := rfl
theorem getD_3 {α : Type} (a b c e : α) (r : List α) (d : α) : (a :: b :: c :: e :: r).getD (Int.toNat 3) d = e := rfl
end Mine
end
local macro_rules | `(tactic| k_all) => `(tactic| first | assumption | exact Mine.neOfAllLt (by assumption) (by show @LE.le Nat _ _ _; omega))
section
open PySem PySem.W PySem.Calls PyProof.Rows
namespace Mine
theorem flush_XC5 : True := by
  w_top off
  trivial
local macro_rules | `(tactic| walk_at "exec Assign cons ListComp") => `(tactic| (refine Lock.of ?_))
local macro_rules | `(tactic| walk_at "call builtin:min") => `(tactic| ((with_reducible show wpAny _ _ (call (Value.builtin _) [Value.int _ _, Value.int _ _]) _ _ _); refine min_two_ints rfl ?_; intro h9 tk9 hk9; (try dsimp only)))
theorem paired3 {P : Value → Value → Prop} {a b c : Value} {ys : List Value} (h : Paired P [a, b, c] ys) : ∃ y1 y2 y3, ys = [y1, y2, y3] ∧ P a y1 ∧ P b y2 ∧ P c y3 := by
  cases h with | cons h1 r => cases r with | cons h2 r => cases r with | cons h3 r => cases r; exact ⟨_, _, _, rfl, h1, h2, h3⟩
theorem Lock.out {P : Prop} (h : Lock P) : P := h
theorem paired3_int {f : Int → Int} {a b c : Int} {ta tb tc : Tok} {ys : List Value} {G : Prop} (h : Paired (fun v y => Lock (∀ (p : Int) (t : Tok), v = Value.int p t → ∃ t', y = Value.int (f p) t')) [Value.int a ta, Value.int b tb, Value.int c tc] ys)
    (kk : ∀ t1 t2 t3, ys = [.int (f a) t1, .int (f b) t2, .int (f c) t3] → G) : G := by
  obtain ⟨y1, y2, y3, rfl, q1, q2, q3⟩ := paired3 h
  obtain ⟨t1, rfl⟩ := q1.out _ _ rfl
  obtain ⟨t2, rfl⟩ := q2.out _ _ rfl
  obtain ⟨t3, rfl⟩ := q3.out _ _ rfl
  exact kk t1 t2 t3 rfl
def straightV (p al : Int) : Int := if al = 0 then 0 else min 255 ((2 * 255 * p + al).fdiv (2 * al))
def Tup4 (o : Obj) (x1 x2 x3 x4 : Int) : Prop := ∃ t1 t2 t3 t4 n, o = tupO [.int x1 t1, .int x2 t2, .int x3 t3, .int x4 t4] n
abbrev PostT (news : List (Addr × Obj)) (x1 x2 x3 x4 : Int) (v : Value) (news' : List (Addr × Obj)) : Prop := ∃ T o, v = .ref T ∧ news' = (T, o) :: news ∧ Tup4 o x1 x2 x3 x4 ∧ ∀ p ∈ news, p.1 ≠ T
theorem retT {h₀ h' : Heap} {L T : Addr} {m : Str → Option Value} {news rest : List (Addr × Obj)} {s : Shared} {Q : Value → Shared → Prop} {x1 x2 x3 x4 y1 y2 y3 y4 : Int} {t1 t2 t3 t4 : Tok} {n tk' : Nat}
    (hret : ∀ r news' h' tk', PostT news x1 x2 x3 x4 r news' → Fr h₀ L h' m → News h₀ L h' news' → Q r { s with heap := h', toks := tk' })
    (e1 : y1 = x1) (e2 : y2 = x2) (e3 : y3 = x3) (e4 : y4 = x4) (F : Fr h₀ L h' m) (N : News h₀ L h' ((T, tupO [.int y1 t1, .int y2 t2, .int y3 t3, .int y4 t4] n) :: rest)) (hs : ∀ p ∈ news, p ∈ rest) (hap : ∀ p ∈ news, p.1 ≠ T) : Q (.ref T) { s with heap := h', toks := tk' } := by
  subst e1 e2 e3 e4
  refine hret (.ref T) ((T, tupO [.int y1 t1, .int y2 t2, .int y3 t3, .int y4 t4] n) :: news) h' tk' ⟨T, _, rfl, rfl, ⟨_, _, _, _, _, rfl⟩, hap⟩ F (newsSub N ?_)
  intro p hp
  rcases List.mem_cons.mp hp with rfl | hp
  · exact .head _
  · exact .tail _ (hs p hp)
theorem straight_c (w : World) (t0 : Addr) (n : Nat) (r g b al : Int) (tr tg tb ta : Tok) (post) (h0 : 0 ≤ r) (h1 : 0 ≤ g) (h2 : 0 ≤ b) (h3 : 0 ≤ al) (g0 : r ≤ al) (g1 : g ≤ al) (g2 : b ≤ al) (g3 : al ≤ 255) :
    Claims w 88 3 24 [.ref t0] ((t0, tupO [.int r tr, .int g tg, .int b tb, .int al ta] n) :: post)
      (PostT ((t0, tupO [.int r tr, .int g tg, .int b tb, .int al ta] n) :: post) (straightV r al) (straightV g al) (straightV b al) al) := by
  unfold Claims
  k_fill
  intro dp un gd cn cs a' ccd cl outer A₀ base h₀ L m mean mg mb s Q E B F X N T hk hd hu hret
  refine wpAny_call ?_
  k_dflt (refine' code_defC ?k1 ?k2 ?k3 ?k4 ?k5 ?kA ?kF ?kK ?k6 ?k7 ?k8 ?k9 ?kB ?kD ?_ ?c2 ?c3 ?c4; (case kA => exact rfl); (case kF => exact rfl); (case kK => assumption); (case k1 => k_asm); (case k2 => k_asm); (case k3 => k_asm); (case k4 => k_asm); (case k5 => k_asm); (case k6 => k_is); (case k7 => k_is); (case k8 => ktr_room); (case k9 => exact BindsTo.of_eq rfl); (case kB => exact rfl); (case kD => decide +kernel); (case c2 => exact rfl); (case c3 => exact rfl); (case c4 => exact rfl); k_whole; intro g' L' h' tk' cells' FG' F' N' Y' B' X' T' l1; (try k_lt l1); (try (have l2 := l1.2)); (try (have l3 := l2.2)); k_cells Y'; (try simp only [List.cons_append, List.nil_append] at N'); (try dsimp only); (try k_fold))
  k_steps
  · rename (_ ∧ _ ∧ AllLt _ _) => lz
    refine retT hret ?_ ?_ ?_ ?_ (by assumption) (by assumption) (by k_sub) (neOfAllLt lz.2 (Nat.le_refl _))
    all_goals first | (symm; assumption) | (unfold straightV; rw [if_pos (by assumption)])
  · refine Lock.open ?_
    refine compA_tuple (P := fun v y => Lock (∀ p t, v = .int p t → ∃ t', y = .int (straightV p al) t')) rfl rfl rfl (by decide) rfl (by decide) rfl rfl rfl (fun _ => rfl) ?_
    k_steps
    refine Lock.open ?_
    with_reducible rename Fr _ _ _ _ => F2
    with_reducible rename News _ _ _ _ => N2
    refine ⟨_, _, _, _, _, rfl, N2.isTup (.head _), (by show 3 ≤ sizeLine; rw [sizeLine_eq]; decide), F2, N2, ?_, ?_⟩
    · intro C v s₂ m₂ E' hC hv hn hm hk
      obtain ⟨p, t, rfl, hp1, hp2⟩ : ∃ p t, v = .int p t ∧ 0 ≤ p ∧ p ≤ al := by
        rcases List.mem_cons.mp hv with rfl | hv
        · exact ⟨_, _, rfl, h0, g0⟩
        rcases List.mem_cons.mp hv with rfl | hv
        · exact ⟨_, _, rfl, h1, g1⟩
        rcases List.mem_cons.mp hv with rfl | hv
        · exact ⟨_, _, rfl, h2, g2⟩
        cases hv
      have FC := frInComp hn hk hC
      k_steps
      · refine Lock.open ?_
        intro p' t' e
        cases e
        have hne : ¬ al = 0 := by assumption
        have hV : straightV p al = min 255 ((2 * 255 * p + al).fdiv (2 * al)) := if_neg hne
        rw [hV]
        generalize (2 * 255 * p + al).fdiv (2 * al) = z
        rw [Int.min_def]
        by_cases hz : z < 255
        · rw [if_pos hz, if_neg (by omega)]; exact ⟨_, rfl⟩
        · rw [if_neg hz, if_pos (by omega)]; exact ⟨_, rfl⟩
      · exact ⟨_, _, rfl, by assumption⟩
    · intro D ys n' h' tk F3 N3 hap hP
      obtain ⟨y1, y2, y3, rfl, q1, q2, q3⟩ := paired3 hP
      obtain ⟨t1, rfl⟩ := q1.out _ _ rfl
      obtain ⟨t2, rfl⟩ := q2.out _ _ rfl
      obtain ⟨t3, rfl⟩ := q3.out _ _ rfl
      clear hP q1 q2 q3
      k_steps
      rename (_ ∧ _ ∧ _ ∧ _ ∧ AllLt _ _) => lz
      exact retT hret rfl rfl rfl rfl (by assumption) (by assumption) (by k_sub) (neOfAllLt lz.2.2.2 (Nat.le_refl _))
end Mine
end
section
open PySem PySem.W PySem.Calls PyProof.Rows
namespace Mine
theorem flush_XC6 : True := by
  w_top off
  trivial
theorem len_any {prog : Program} {w : World} {A : Around} {E : Value → Shared → Prop} {s : Shared} {h₀ : Heap} {L D : Addr} {news : List (Addr × Obj)} {vs : List Value} {n : Nat} {Q : Value → Shared → Prop} (N : News h₀ L s.heap news) (hm : (D, listOf vs.toArray n) ∈ news) (hs : vs.length ≤ 1000)
    (h : Q (.int (vs.length : Int) (s.toks + 1)) { s with toks := s.toks + 2 }) : wpAny (model prog w) A (call (.builtin "len") [.ref D]) Q E s :=
  len_list (N.isList hm) (by rw [List.size_toArray]; omega) h
theorem item_any {prog : Program} {w : World} {A : Around} {E : Value → Shared → Prop} {s : Shared} {h₀ : Heap} {L D : Addr} {news : List (Addr × Obj)} {value slice : PySem.Expr} {i : Int} {u : Tok} {vs : List Value} {n : Nat} {Q : Value → Shared → Prop} (N : News h₀ L s.heap news) (hm : (D, listOf vs.toArray n) ∈ news) (h0 : 0 ≤ i) (h1 : i < vs.length) (hs : vs.length ≤ 1000)
    (h : ∀ v, v ∈ vs → vs[i.toNat]? = some v → Q v s)
    (hb : subscripted slice false (.ref D) (.int i u) = operate [.ref D, .int i u] (getItem (.ref D) (.int i u)) := by with_unfolding_all rfl) :
    wpAny (model prog w) A (subscriptTail value slice (.ref D) (.int i u)) Q E s := by
  have hl : s.heap.IsList D vs.toArray := N.isList hm
  have hj : i.toNat < vs.length := by omega
  have e : vs[i.toNat]? = some vs[i.toNat] := List.getElem?_eq_getElem hj
  exact tail_any hl.typeIs slot_list_getitem.lookup (wpAny_getItem_list hl h0 (by omega) (by simpa using e) (h _ (List.mem_of_getElem? e) e)) hb
local macro_rules | `(tactic| walk_at "call ref") => `(tactic| (k_here; (with_reducible show wpAny _ _ (call (Value.ref 117) [Value.ref _, Value.int _ _]) _ _ _); k_dflt (refine' use_c (take_c _ _ _ _ _ _ _ _ _ _ ?kx ?ky ?kz ?kw ?kap) ?k1 ?k2 ?k3 ?k4 ?k5 ?kK ?kd ?ku ?_; (case k4 => k_asm); (case kx => assumption); (case ky => assumption); (case kz => omega); (case kw => omega); (case kap => first | assumption | (refine List.forall_mem_cons.mpr ⟨?_, ?_⟩ <;> assumption)); (case k1 => k_asm); (case k2 => k_asm); (case k3 => k_asm); (case k5 => k_asm); (case kK => first | exact rfl | assumption); (case kd => ktr_room); (case ku => ktr_units)); intro r9 n9 h9 tk9 p9 F9 N9; (obtain ⟨⟨v9, t9, e9, lo9, hi9⟩, x9, y9, tx9, ty9, m9, hx9, hy9, en9⟩ := p9); subst e9; subst en9; (try dsimp only); (try k_fold)))
local macro_rules | `(tactic| walk_at "call builtin:len") => `(tactic| (k_here; (with_reducible show wpAny _ _ (call (Value.builtin "len") [Value.ref _]) _ _ _); k_dflt (refine' len_any ?N ?m ?z ?_; (case N => k_asm); (case m => k_mem); (case z => assumption))))
local macro_rules | `(tactic| walk_at "subscriptTail") => `(tactic| (k_here; (with_reducible show wpAny _ _ (subscriptTail _ _ (Value.ref _) (Value.int _ _)) _ _ _); k_dflt (refine' item_any ?N ?m ?a ?b ?z ?_; (case N => k_asm); (case m => k_mem); (case a => assumption); (case b => assumption); (case z => assumption)); intro v9 hv9 ev9))
theorem retSrc {R : Value → Prop} {h₀ h' : Heap} {L : Addr} {m : Str → Option Value} {s : Shared} {Q : Value → Shared → Prop} {src : Addr} {post : List (Addr × Obj)} {v : Value} {x y : Int} {tx ty : Tok} {n : Nat} {tk' : Nat}
    (hret : ∀ r news' h' tk', (R r ∧ Src src post news') → Fr h₀ L h' m → News h₀ L h' news' → Q r { s with heap := h', toks := tk' })
    (hr : R v) (F : Fr h₀ L h' m) (N : News h₀ L h' ((src, intL x y tx ty n) :: post)) (hx : 0 ≤ x) (hy : 0 ≤ y) : Q v { s with heap := h', toks := tk' } :=
  hret _ _ _ _ ⟨hr, _, _, _, _, _, hx, hy, rfl⟩ F N
theorem one_c (w : World) (src D : Addr) (x y : Int) (n nD : Nat) (tx ty : Tok) (vs : List Value) (post) (h0 : 0 ≤ x) (h1 : 0 ≤ y) (hv : 0 < vs.length) (hv' : vs.length ≤ 1000) (hne : D ≠ src) (hap : ∀ q ∈ post, q.1 ≠ src) :
    Claims w 124 3 24 [.ref src, .ref D] ((src, intL x y tx ty n) :: (D, listOf vs.toArray nD) :: post) (fun r news' => (∃ i : Nat, vs[i]? = some r) ∧ Src src ((D, listOf vs.toArray nD) :: post) news') := by
  unfold Claims
  k_fill
  intro dp un gd cn cs a' ccd cl outer A₀ base h₀ L m mean mg mb s Q E B F X N T hk hd hu hret
  refine wpAny_call ?_
  k_dflt ktr_enter
  k_steps
  exact retSrc (R := fun r => ∃ i : Nat, vs[i]? = some r) hret ⟨_, by assumption⟩ (by assumption) (by assumption) (by assumption) (by assumption)
/-- the same, the source's place anywhere in the ledger -/
def SrcU (g : Obj → List (Addr × Obj)) (news : List (Addr × Obj)) : Prop := ∃ x y tx ty n, 0 ≤ x ∧ 0 ≤ y ∧ news = g (intL x y tx ty n)
theorem splitU {src : Addr} {o : Obj} {news : List (Addr × Obj)} {g : Obj → List (Addr × Obj)} (U : UpdF src o news g) : ∃ post, (∀ q ∈ post, q.1 ≠ src) ∧ (∀ p, p ∈ news ↔ p ∈ (src, o) :: post) ∧ ∀ o' p, p ∈ g o' ↔ p ∈ (src, o') :: post := by
  obtain ⟨pre, post, rfl, hg, h1, h2⟩ := U.split
  refine ⟨pre ++ post, fun q hq => ?_, fun p => ?_, fun o' p => ?_⟩
  · rcases List.mem_append.mp hq with hq | hq
    · exact h1 q hq
    · exact h2 q hq
  · simp only [List.mem_append, List.mem_cons]; constructor <;> rintro (h | h | h) <;> simp [h]
  · rw [hg]; simp only [List.mem_append, List.mem_cons]; constructor <;> rintro (h | h | h) <;> simp [h]
theorem take_u (w : World) (src : Addr) (x y top : Int) (n : Nat) (tx ty tt : Tok) (news g) (U : UpdF src (intL x y tx ty n) news g) (h0 : 0 ≤ x) (h1 : 0 ≤ y) (ht : 0 < top) (ht' : top ≤ 1000) :
    Claims w 117 2 16 [.ref src, .int top tt] news (fun r news' => (∃ v t, r = .int v t ∧ 0 ≤ v ∧ v < top) ∧ SrcU g news') := by
  obtain ⟨post, hap, hn, hg⟩ := splitU U
  intro dp un gd cn cs a' ccd cl outer A₀ base h₀ L m mean mg mb s Q E B F X N T hk hd hu hret
  refine use_c (take_c w src x y top n tx ty tt post h0 h1 ht ht' hap) B F X (newsSub N fun p hp => (hn p).mpr hp) T hk hd hu ?_
  rintro r n' h' tk' ⟨hr, x', y', tx', ty', m', hx, hy, rfl⟩ F' N'
  exact hret _ _ _ _ ⟨hr, x', y', tx', ty', m', hx, hy, rfl⟩ F' (newsSub N' fun p hp => (hg _ p).mp hp)
theorem one_u (w : World) (src D : Addr) (x y : Int) (n nD : Nat) (tx ty : Tok) (vs : List Value) (news g) (U : UpdF src (intL x y tx ty n) news g) (hD : (D, listOf vs.toArray nD) ∈ news) (h0 : 0 ≤ x) (h1 : 0 ≤ y) (hv : 0 < vs.length) (hv' : vs.length ≤ 1000) (hne : D ≠ src) :
    Claims w 124 3 24 [.ref src, .ref D] news (fun r news' => (∃ i : Nat, vs[i]? = some r) ∧ SrcU g news') := by
  obtain ⟨post, hap, hn, hg⟩ := splitU U
  intro dp un gd cn cs a' ccd cl outer A₀ base h₀ L m mean mg mb s Q E B F X N T hk hd hu hret
  have hDp : (D, listOf vs.toArray nD) ∈ post := by
    rcases List.mem_cons.mp ((hn _).mp hD) with e | h
    · exact absurd (congrArg Prod.fst e) hne
    · exact h
  have h2 : ∀ p, p ∈ (src, intL x y tx ty n) :: (D, listOf vs.toArray nD) :: post → p ∈ (src, intL x y tx ty n) :: post := fun p hp => by
    rcases List.mem_cons.mp hp with rfl | hp
    · exact .head _
    · rcases List.mem_cons.mp hp with rfl | hp
      · exact .tail _ hDp
      · exact .tail _ hp
  refine use_c (one_c w src D x y n nD tx ty vs post h0 h1 hv hv' hne hap) B F X (newsSub N fun p hp => (hn p).mpr (h2 p hp)) T hk hd hu ?_
  rintro r n' h' tk' ⟨hr, x', y', tx', ty', m', hx, hy, rfl⟩ F' N'
  refine hret _ _ _ _ ⟨hr, x', y', tx', ty', m', hx, hy, rfl⟩ F' (newsSub N' fun p hp => ?_)
  rcases List.mem_cons.mp ((hg _ p).mp hp) with rfl | hp
  · exact .head _
  · exact .tail _ (.tail _ hp)
theorem take_k (w : World) (src : Addr) (x y top : Int) (n : Nat) (tx ty tt : Tok) (news g) (U : UpdF src (intL x y tx ty n) news g) (h0 : 0 ≤ x) (h1 : 0 ≤ y) (ht : 0 < top) (ht' : top ≤ 1000)
    {dp un : Nat} {gd : Option (List Code)} {cn : Str} {cs : Scope} {a' : Addr} {ccd : Value} {cl : List (Str × Addr)} {outer : List Env} {A₀ : Around} {base h₀ : Heap} {L : Addr} {m : Str → Option Value}
    {mean : ExcName → Option Value} {mg mb : Str → Option Value} {s : Shared} {Q E : Value → Shared → Prop}
    (B : Below A₀ base outer h₀) (F : Fr h₀ L s.heap m) (X : (hd.heap_1 w.params).In h₀) (N : News h₀ L s.heap news) (T : TopQ mean mg mb h₀) (hk : cs.kind = .function) (hd : dp + 2 < recursionLimit) (hu : un + 16 < cLine)
    (ret : ∀ v t h' tk' x' y' tx' ty' m', 0 ≤ v → v < top → 0 ≤ x' → 0 ≤ y' → Fr h₀ L h' m → News h₀ L h' (g (intL x' y' tx' ty' m')) → Q (.int v t) { s with heap := h', toks := tk' }) :
    wpAny (model Challenge.rw_xm0716_01.row.prog w) (ktrTop dp un gd cn cs L a' ccd cl outer) (call (.ref 117) [.ref src, .int top tt]) Q E s := by
  refine use_c (take_u w src x y top n tx ty tt news g U h0 h1 ht ht') B F X N T hk hd hu ?_
  rintro r n' h' tk' ⟨⟨v, t, rfl, h2, h3⟩, x', y', tx', ty', m', hx, hy, rfl⟩ F' N'
  exact ret v t h' tk' x' y' tx' ty' m' h2 h3 hx hy F' N'
theorem one_k (w : World) (src D : Addr) (x y : Int) (n nD : Nat) (tx ty : Tok) (vs : List Value) (news g) (U : UpdF src (intL x y tx ty n) news g) (hD : (D, listOf vs.toArray nD) ∈ news) (h0 : 0 ≤ x) (h1 : 0 ≤ y) (hv : 0 < vs.length) (hv' : vs.length ≤ 1000) (hne : D ≠ src)
    {dp un : Nat} {gd : Option (List Code)} {cn : Str} {cs : Scope} {a' : Addr} {ccd : Value} {cl : List (Str × Addr)} {outer : List Env} {A₀ : Around} {base h₀ : Heap} {L : Addr} {m : Str → Option Value}
    {mean : ExcName → Option Value} {mg mb : Str → Option Value} {s : Shared} {Q E : Value → Shared → Prop}
    (B : Below A₀ base outer h₀) (F : Fr h₀ L s.heap m) (X : (hd.heap_1 w.params).In h₀) (N : News h₀ L s.heap news) (T : TopQ mean mg mb h₀) (hk : cs.kind = .function) (hd : dp + 3 < recursionLimit) (hu : un + 24 < cLine)
    (ret : ∀ (i : Nat) r h' tk' x' y' tx' ty' m', vs[i]? = some r → 0 ≤ x' → 0 ≤ y' → Fr h₀ L h' m → News h₀ L h' (g (intL x' y' tx' ty' m')) → Q r { s with heap := h', toks := tk' }) :
    wpAny (model Challenge.rw_xm0716_01.row.prog w) (ktrTop dp un gd cn cs L a' ccd cl outer) (call (.ref 124) [.ref src, .ref D]) Q E s := by
  refine use_c (one_u w src D x y n nD tx ty vs news g U hD h0 h1 hv hv' hne) B F X N T hk hd hu ?_
  rintro r n' h' tk' ⟨⟨i, hi⟩, x', y', tx', ty', m', hx, hy, rfl⟩ F' N'
  exact ret i r h' tk' x' y' tx' ty' m' hi hx hy F' N'
end Mine
end
section
open PySem PySem.W PySem.Calls PyProof.Rows
namespace Mine
section
variable {prog : Program} {w : World} {A₀ A : Around} {s : Shared} {base h₀ : Heap} {outer : List Env} {L : Addr} {m mg mb : Str → Option Value} {env : Env} {news post : List (Addr × Obj)} {K : Frag} {p : Program} {loose : List Str} {mean : ExcName → Option Value}
  {R : Result → Shared → Prop} {name qual : Str} {params : Arguments} {body : List Stmt} {scope : Scope} {dV kV doc pm cdv ct oc : Value} {an od : Option Addr} {osl : Array (Option Value)} {f : Addr} {args : Args} {binds : List (Str × Value)}
/-- what a def that is entered with a part of the ledger alone owes: the rest stands -/
def WithRest (h₀ : Heap) (L : Addr) (post : List (Addr × Obj)) (R : Result → Shared → Prop) (r : Result) (s' : Shared) : Prop := News h₀ L s'.heap post → R r s'
theorem withRest {h₀ : Heap} {L : Addr} {post : List (Addr × Obj)} {R : Result → Shared → Prop} {r : Result} {s' : Shared} (h : News h₀ L s'.heap post → R r s') : WithRest h₀ L post R r s' := h
/-- a def of the written part is entered with a part of the ledger; the rest lies in the ground -/
theorem code_defH (B : Below A₀ base outer h₀) (F : Fr h₀ L s.heap m) (X₀ : K.In h₀) (N : News h₀ L s.heap news) (Np : News h₀ L s.heap post) (hap : ∀ q ∈ post, ∀ p ∈ news, p.1 ≠ q.1) (T : Top p loose mean mg mb h₀) (hA : A.frames = some (env :: outer)) (hf : env.frame = some L) (hke : env.scope.kind = .function)
    (ho : K.lookup f = some ⟨oc, od, .func (fnOf name qual params body scope dV kV doc pm an cdv ct), osl⟩) (hcd : codeIn K cdv qual = true) (hroom : A.depth < recursionLimit)
    (hbind : BindsTo s (fnOf name qual params body scope dV kV doc pm an cdv ct) args binds) (hloc : ∀ y ∈ binds, scope.names.lookup y.1 = some .local)
    (h : ∀ g L' h₁, Fr h₀ L g m → Fr g L' h₁ (fun y => binds.reverse.lookup y) → News g L' h₁ news → Below A base (env :: outer) g → K.In g → Top p loose mean mg mb g → (∀ q ∈ post, g.get? q.1 = some q.2) →
      wpAny (model prog w) (A.deeper (envOf qual scope L' f cdv)) (execs body (envOf qual scope L' f cdv))
        (fun fl s' => LeaveK h₀ L m g (WithRest h₀ L post R) (match fl with | .ret v => v | _ => .none) s')
        (fun e s' => wpAny (model prog w) (A.deeper (envOf qual scope L' f cdv)) (leaving (envOf qual scope L' f cdv) e) (fun _ s'' => R (.error e) s'') (fun e' s'' => R (.error e') s'') s')
        { s with heap := h₁, toks := s.toks + binds.length })
    (hco : scope.isCoroutine = false) (hgen : scope.isGenerator = false) (hk : scope.kind = .function)
    (hcell : ∀ x ∈ scope.names, x.2 ≠ .cell) : codeAny (model prog w) A (.call (.ref f) args) R s := by
  obtain ⟨FG, BG, st, lv⟩ := groundX (R := WithRest h₀ L post R) B F N hA hf hke
  have hpg : ∀ q ∈ post, (hideAll s.heap (news.map (·.1))).get? q.1 = some q.2 := fun q hq => hideAll_get _ (Np q hq).1 fun hm => by
    obtain ⟨p, hp, e⟩ := List.mem_map.mp hm
    exact hap q hq p hp e
  refine codeAny_call_def (fd := fnOf name qual params body scope dV kV doc pm an cdv ct) (body := body) (binds := binds) hroom ((X₀.keeps F.keep) _ _ ho) rfl (T.nolimit.keeps F.keep) (codeRec_of (X₀.keeps F.keep) hcd) rfl hbind hcell hloc (fun h₁ hns hk₁ => ?_) hco hgen hk
  refine wpAny_mono (h _ s.heap.objs.size h₁ FG ⟨hns, fun b o e => hk₁ b o (of_hideAll _ e), Nat.le_of_eq (hideAll_size _ _)⟩
    (fun p hp => ⟨hk₁ _ _ (N p hp).1, Nat.ne_of_lt (Heap.lt_size (N p hp).1), hideAll_none _ (List.mem_map_of_mem hp)⟩) BG (X₀.keeps st) (T.keeps st) hpg) (fun fl s' hl => ?_) fun _ _ y => y
  have F' := hl
  obtain ⟨L', m', news', F', N', _⟩ := F'
  exact lv _ _ hl fun q hq => ⟨F'.keep _ _ (hpg q hq), (Np q hq).2⟩
end
end Mine
end
section
open PySem PySem.W PySem.Calls PyProof.Rows
namespace Mine
section
variable {prog : Program} {w : World} {A : Around} {s : Shared} {env : Env} {h₀ : Heap} {R : Result → Shared → Prop}
/-- a turn's end, the ledger of the next turn at the turn's choice -/
def TurnG (h₀ : Heap) (L : Addr) (own : List (Addr × Obj)) (Inv : (Str → Option Value) → List (Addr × Obj) → Prop) (s : Shared) (f : Flow) (s' : Shared) : Prop :=
  f = .next ∧ ∃ h' tk' m' led', s' = { s with heap := h', toks := tk' } ∧ Fr h₀ L h' m' ∧ News h₀ L h' (led' ++ own) ∧ (∀ p ∈ led', ∀ q ∈ own, p.1 ≠ q.1) ∧ Inv m' led'
theorem cs_for {target : Expr} {body : List Stmt} {I : Addr} {fp wr : List Addr} {n : Nat} {P : Nat → Value → Prop} {St : Nat → Heap → Prop} {m : Str → Option Value} {led : List (Addr × Obj)} (Inv : Nat → (Str → Option Value) → List (Addr × Obj) → Prop)
    (W : Walks prog w A I fp wr n P St) (hgo : ∀ i (s : Shared) v (Q : Unit → Shared → Prop) (E : Value → Shared → Prop), P i v → St (i + 1) s.heap → Q () s → wpAny (model prog w) A (letOwnedTupleGo target (.ref I) v) Q E s)
    (hlive : ∀ i h, St i h → ∀ b ∈ wr, ∃ o, h.get? b = some o) (hLf : env.locals ∉ fp) (hwr : ∀ b ∈ wr, h₀.get? b = none)
    (X : ∀ b ∈ fp, b ∈ wr ∨ (∃ o, h₀.get? b = some o) ∨ ∃ o, ∀ j m' led', Inv j m' led' → (b, o) ∈ led')
    (hst : St 0 s.heap) (F : Fr h₀ env.locals s.heap m) (N : News h₀ env.locals s.heap led) (hoff : ∀ p ∈ led, p.1 ∉ wr) (h0 : Inv 0 m led)
    (turn : ∀ i v m₁ led h tk own, i < n → P i v → Inv i m₁ led → (∀ p ∈ own, p.1 ∈ wr) → (∀ p ∈ led, ∀ q ∈ own, p.1 ≠ q.1) → Fr h₀ env.locals h m₁ → News h₀ env.locals h (led ++ own) →
      wpAny (model prog w) A (assign target env v) (fun _ s₂ => WS (model prog w) A (execs body env) (TurnG h₀ env.locals own (Inv (i + 1)) { s with heap := h, toks := tk }) (fun _ _ => False) s₂) (fun _ _ => False) { s with heap := h, toks := tk })
    (done : ∀ h' tk m' led', Fr h₀ env.locals h' m' → News h₀ env.locals h' led' → Inv n m' led' → R (.ok .next) { s with heap := h', toks := tk }) :
    CS (model prog w) A (.forLoop target (.ref I) body [] env) R s := by
  have hLw : env.locals ∉ wr := fun h => hLf (W.sub _ h)
  have old : ∀ b o, h₀.get? b = some o → b ∉ wr := fun b o e hb => by rw [hwr b hb] at e; cases e
  refine cs_forLoop
    (fun k s' => ∃ h' tk m' led' i, s' = { s with heap := h', toks := tk } ∧ St i h' ∧ Fr h₀ env.locals h' m' ∧ News h₀ env.locals h' led' ∧ (∀ p ∈ led', p.1 ∉ wr) ∧ Inv i m' led' ∧ i ≤ n ∧ k = n + 1 - i) ?_ (n + 1)
    ⟨s.heap, s.toks, m, led, 0, rfl, hst, F, N, hoff, h0, Nat.zero_le _, rfl⟩
  rintro k s' ⟨H, tk, m', led', i, rfl, hst', F', N', hoff', hJ, hi, rfl⟩
  have next : ∀ h₁ : Heap, (∀ b o, b ∉ wr → H.get? b = some o → h₁.get? b = some o) → Fr h₀ env.locals h₁ m' ∧ News h₀ env.locals h₁ led' := fun h₁ hk₁ =>
    ⟨⟨F'.ns.at' fun o e => hk₁ _ o hLw e, fun b o e => hk₁ b o (old b o e) (F'.keep b o e), F'.above⟩, fun p hp => ⟨hk₁ _ _ (hoff' p hp) (N' p hp).1, (N' p hp).2⟩⟩
  by_cases hlt : i < n
  · refine W.item i _ _ _ hlt hst' fun v h₁ tk₁ hP hst₁ hk₁ => ?_
    obtain ⟨F₁, N₁⟩ := next h₁ hk₁
    refine hgo i _ v _ _ hP hst₁ ?_
    have hown : ∀ p ∈ ownOf h₀ wr h₁, p.1 ∈ wr := fun p hp => own_in hp
    refine wpAny_mono (turn i v m' led' h₁ tk₁ (ownOf h₀ wr h₁) hlt hP hJ hown (fun p hp q hq e => hoff' p hp (e ▸ own_in hq)) F₁ (N₁.append (news_ownOf hLw))) (fun _ s₂ h₂ => ?_) fun _ _ e => e.elim
    refine ws_mono h₂ (fun f s₃ h₃ => ?_) fun _ _ e => e.elim
    obtain ⟨rfl, h₄, tk₄, m₄, led₄, rfl, F₄, N₄, hne₄, hJ₄⟩ := h₃
    refine ⟨n + 1 - (i + 1), by omega, h₄, tk₄, m₄, led₄, i + 1, rfl, ?_, F₄, newsSub N₄ fun p hp => List.mem_append_left _ hp, ?_, hJ₄, hlt, rfl⟩
    · refine W.frame _ _ _ hst₁ fun b hb o e => ?_
      rcases X b hb with hx | ⟨o₀, hx⟩ | ⟨o₀, hx⟩
      · exact (N₄ _ (List.mem_append_right _ (mem_ownOf hx (hwr b hx) e))).1
      · have h1 := F₁.keep b o₀ hx
        rw [e] at h1
        cases h1
        exact F₄.keep b o hx
      · have h1 := (N₁ _ (hx _ _ _ hJ)).1
        rw [e] at h1
        cases h1
        exact (N₄ _ (List.mem_append_left _ (hx _ _ _ hJ₄))).1
    · intro p hp hb
      obtain ⟨o, e⟩ := hlive _ _ hst₁ p.1 hb
      exact hne₄ p hp _ (mem_ownOf hb (hwr _ hb) e) rfl
  · have hin : i = n := by omega
    subst hin
    refine W.done _ _ _ hst' fun h₁ tk₁ hk₁ => wpAny_execs_nil ?_
    obtain ⟨F₁, N₁⟩ := next h₁ hk₁
    exact done h₁ tk₁ m' led' F₁ N₁ hJ
/-- over a list -/
theorem cs_forl {target : Expr} {body : List Stmt} {D : Addr} {od : Obj} {vs : List Value} {m : Str → Option Value} {led : List (Addr × Obj)} {E : Value → Shared → Prop} (Inv : Nat → (Str → Option Value) → List (Addr × Obj) → Prop)
    (hh : A.handled = none) (hD : s.heap.IsList D vs.toArray) (hLD : D ≠ env.locals) (X : (∃ o, h₀.get? D = some o) ∨ ∃ o, ∀ j m' led', Inv j m' led' → (D, o) ∈ led')
    (htg : (∀ it v, letOwnedTupleGo target it v = pure ()) ∨ ∃ elts x1 pos, target = .Tuple elts x1 pos ∧ ∀ v ∈ vs, ∃ T, v = .ref T)
    (F : Fr h₀ env.locals s.heap m) (N : News h₀ env.locals s.heap led) (h0 : Inv 0 m led)
    (turn : ∀ i v m₁ led h tk own, i < vs.length → vs[i]? = some v → Inv i m₁ led → (∀ p ∈ led, ∀ q ∈ own, p.1 ≠ q.1) → Fr h₀ env.locals h m₁ → News h₀ env.locals h (led ++ own) →
      wpAny (model prog w) A (assign target env v) (fun _ s₂ => WS (model prog w) A (execs body env) (TurnG h₀ env.locals own (Inv (i + 1)) { s with heap := h, toks := tk }) (fun _ _ => False) s₂) (fun _ _ => False) { s with heap := h, toks := tk })
    (done : ∀ h' tk m' led', Fr h₀ env.locals h' m' → News h₀ env.locals h' led' → Inv vs.length m' led' → R (.ok .next) { s with heap := h', toks := tk }) :
    wpAny (model prog w) A (pyIter (.ref D)) (fun it s₂ => CS (model prog w) A (.forLoop target it body [] env) R s₂) E s := by
  have hlt : D < s.heap.objs.size := by obtain ⟨_, e, _⟩ := hD; exact Heap.lt_size e
  refine wpAny_pyIter_list hD ?_
  have W := Walks.list (prog := prog) (w := w) hh s.heap.objs.size D (Nat.ne_of_lt hlt) vs.toArray
  have none_ : h₀.get? s.heap.objs.size = none := F.fresh
  refine cs_for (s := { s with heap := s.heap.push _ }) Inv W ?_ ?_ ?_ ?_ ?_ ⟨⟨_, Heap.get?_push_size _ rfl, rfl, rfl⟩, hD.push _⟩ (F.push _) (N.pushKeep _) ?_ h0 ?_ ?_
  · intro i s' v Q E hP hst hQ
    rcases htg with h | ⟨elts, x1, pos, rfl, h⟩
    · exact wpAny_of_eq (h _ _) hQ
    · have hv : vs[i]? = some v := by simpa using hP
      obtain ⟨T, rfl⟩ := h v (List.mem_of_getElem? hv)
      exact wpAny_letOwnedTupleGo_listiter hst.1 hQ
  · intro i h st b hb
    rw [List.mem_singleton.mp hb]
    obtain ⟨o, ho, _⟩ := st.1
    exact ⟨o, ho⟩
  · intro hm
    rcases List.mem_cons.mp hm with e | hm
    · exact Nat.lt_irrefl _ (e ▸ F.ns.lt)
    · exact hLD (List.mem_singleton.mp hm).symm
  · intro b hb
    rw [List.mem_singleton.mp hb]; exact none_
  · intro b hb
    rcases List.mem_cons.mp hb with rfl | hb
    · exact .inl (List.mem_singleton.mpr rfl)
    · rw [List.mem_singleton.mp hb]; exact .inr X
  · intro p hp hm
    exact Nat.ne_of_lt (Heap.lt_size (N p hp).1) (List.mem_singleton.mp hm)
  · intro i v m₁ led h tk own hi hP hJ _ hne F₁ N₁
    exact turn i v m₁ led h tk own (by simpa using hi) (by simpa using hP) hJ hne F₁ N₁
  · intro h' tk m' led' F' N' hJ
    exact done h' tk m' led' F' N' (by simpa using hJ)
theorem code_for {target : Expr} {body : List Stmt} {I : Addr} {fp wr : List Addr} {n : Nat} {P : Nat → Value → Prop} {St : Nat → Heap → Prop} {m : Str → Option Value} {led : List (Addr × Obj)} (Inv : Nat → (Str → Option Value) → List (Addr × Obj) → Prop)
    (W : Walks prog w A I fp wr n P St) (hgo : ∀ i (s : Shared) v (Q : Unit → Shared → Prop) (E : Value → Shared → Prop), P i v → St (i + 1) s.heap → Q () s → wpAny (model prog w) A (letOwnedTupleGo target (.ref I) v) Q E s)
    (hlive : ∀ i h, St i h → ∀ b ∈ wr, ∃ o, h.get? b = some o) (hLf : env.locals ∉ fp) (hwr : ∀ b ∈ wr, h₀.get? b = none)
    (X : ∀ b ∈ fp, b ∈ wr ∨ (∃ o, h₀.get? b = some o) ∨ ∃ o, ∀ j m' led', Inv j m' led' → (b, o) ∈ led')
    (hst : St 0 s.heap) (F : Fr h₀ env.locals s.heap m) (N : News h₀ env.locals s.heap led) (hoff : ∀ p ∈ led, p.1 ∉ wr) (h0 : Inv 0 m led)
    (turn : ∀ i v m₁ led h tk own, i < n → P i v → Inv i m₁ led → (∀ p ∈ own, p.1 ∈ wr) → (∀ p ∈ led, ∀ q ∈ own, p.1 ≠ q.1) → Fr h₀ env.locals h m₁ → News h₀ env.locals h (led ++ own) →
      wpAny (model prog w) A (assign target env v) (fun _ s₂ => wpAny (model prog w) A (execs body env) (TurnG h₀ env.locals own (Inv (i + 1)) { s with heap := h, toks := tk }) (fun _ _ => False) s₂) (fun _ _ => False) { s with heap := h, toks := tk })
    (done : ∀ h' tk m' led', Fr h₀ env.locals h' m' → News h₀ env.locals h' led' → Inv n m' led' → R (.ok .next) { s with heap := h', toks := tk }) :
    codeAny (model prog w) A (.forLoop target (.ref I) body [] env) R s := by
  have hLw : env.locals ∉ wr := fun h => hLf (W.sub _ h)
  have old : ∀ b o, h₀.get? b = some o → b ∉ wr := fun b o e hb => by rw [hwr b hb] at e; cases e
  refine codeAny_forLoop_any
    (fun k s' => ∃ h' tk m' led' i, s' = { s with heap := h', toks := tk } ∧ St i h' ∧ Fr h₀ env.locals h' m' ∧ News h₀ env.locals h' led' ∧ (∀ p ∈ led', p.1 ∉ wr) ∧ Inv i m' led' ∧ i ≤ n ∧ k = n + 1 - i) ?_ (n + 1)
    ⟨s.heap, s.toks, m, led, 0, rfl, hst, F, N, hoff, h0, Nat.zero_le _, rfl⟩
  rintro k s' ⟨H, tk, m', led', i, rfl, hst', F', N', hoff', hJ, hi, rfl⟩
  have next : ∀ h₁ : Heap, (∀ b o, b ∉ wr → H.get? b = some o → h₁.get? b = some o) → Fr h₀ env.locals h₁ m' ∧ News h₀ env.locals h₁ led' := fun h₁ hk₁ =>
    ⟨⟨F'.ns.at' fun o e => hk₁ _ o hLw e, fun b o e => hk₁ b o (old b o e) (F'.keep b o e), F'.above⟩, fun p hp => ⟨hk₁ _ _ (hoff' p hp) (N' p hp).1, (N' p hp).2⟩⟩
  by_cases hlt : i < n
  · refine W.item i _ _ _ hlt hst' fun v h₁ tk₁ hP hst₁ hk₁ => ?_
    obtain ⟨F₁, N₁⟩ := next h₁ hk₁
    refine hgo i _ v _ _ hP hst₁ ?_
    have hown : ∀ p ∈ ownOf h₀ wr h₁, p.1 ∈ wr := fun p hp => own_in hp
    refine wpAny_mono (turn i v m' led' h₁ tk₁ (ownOf h₀ wr h₁) hlt hP hJ hown (fun p hp q hq e => hoff' p hp (e ▸ own_in hq)) F₁ (N₁.append (news_ownOf hLw))) (fun _ s₂ h₂ => ?_) fun _ _ e => e.elim
    refine wpAny_mono h₂ (fun f s₃ h₃ => ?_) fun _ _ e => e.elim
    obtain ⟨rfl, h₄, tk₄, m₄, led₄, rfl, F₄, N₄, hne₄, hJ₄⟩ := h₃
    refine ⟨n + 1 - (i + 1), by omega, h₄, tk₄, m₄, led₄, i + 1, rfl, ?_, F₄, newsSub N₄ fun p hp => List.mem_append_left _ hp, ?_, hJ₄, hlt, rfl⟩
    · refine W.frame _ _ _ hst₁ fun b hb o e => ?_
      rcases X b hb with hx | ⟨o₀, hx⟩ | ⟨o₀, hx⟩
      · exact (N₄ _ (List.mem_append_right _ (mem_ownOf hx (hwr b hx) e))).1
      · have h1 := F₁.keep b o₀ hx
        rw [e] at h1
        cases h1
        exact F₄.keep b o hx
      · have h1 := (N₁ _ (hx _ _ _ hJ)).1
        rw [e] at h1
        cases h1
        exact (N₄ _ (List.mem_append_left _ (hx _ _ _ hJ₄))).1
    · intro p hp hb
      obtain ⟨o, e⟩ := hlive _ _ hst₁ p.1 hb
      exact hne₄ p hp _ (mem_ownOf hb (hwr _ hb) e) rfl
  · have hin : i = n := by omega
    subst hin
    refine W.done _ _ _ hst' fun h₁ tk₁ hk₁ => wpAny_execs_nil ?_
    obtain ⟨F₁, N₁⟩ := next h₁ hk₁
    exact done h₁ tk₁ m' led' F₁ N₁ hJ
/-- over a list -/
theorem code_forl {target : Expr} {body : List Stmt} {D : Addr} {od : Obj} {vs : List Value} {m : Str → Option Value} {led : List (Addr × Obj)} {E : Value → Shared → Prop} (Inv : Nat → (Str → Option Value) → List (Addr × Obj) → Prop)
    (hh : A.handled = none) (hD : s.heap.IsList D vs.toArray) (hLD : D ≠ env.locals) (X : (∃ o, h₀.get? D = some o) ∨ ∃ o, ∀ j m' led', Inv j m' led' → (D, o) ∈ led')
    (htg : (∀ it v, letOwnedTupleGo target it v = pure ()) ∨ ∃ elts x1 pos, target = .Tuple elts x1 pos ∧ ∀ v ∈ vs, ∃ T, v = .ref T)
    (F : Fr h₀ env.locals s.heap m) (N : News h₀ env.locals s.heap led) (h0 : Inv 0 m led)
    (turn : ∀ i v m₁ led h tk own, i < vs.length → vs[i]? = some v → Inv i m₁ led → (∀ p ∈ led, ∀ q ∈ own, p.1 ≠ q.1) → Fr h₀ env.locals h m₁ → News h₀ env.locals h (led ++ own) →
      wpAny (model prog w) A (assign target env v) (fun _ s₂ => wpAny (model prog w) A (execs body env) (TurnG h₀ env.locals own (Inv (i + 1)) { s with heap := h, toks := tk }) (fun _ _ => False) s₂) (fun _ _ => False) { s with heap := h, toks := tk })
    (done : ∀ h' tk m' led', Fr h₀ env.locals h' m' → News h₀ env.locals h' led' → Inv vs.length m' led' → R (.ok .next) { s with heap := h', toks := tk }) :
    wpAny (model prog w) A (pyIter (.ref D)) (fun it s₂ => codeAny (model prog w) A (.forLoop target it body [] env) R s₂) E s := by
  have hlt : D < s.heap.objs.size := by obtain ⟨_, e, _⟩ := hD; exact Heap.lt_size e
  refine wpAny_pyIter_list hD ?_
  have W := Walks.list (prog := prog) (w := w) hh s.heap.objs.size D (Nat.ne_of_lt hlt) vs.toArray
  have none_ : h₀.get? s.heap.objs.size = none := F.fresh
  refine code_for (s := { s with heap := s.heap.push _ }) Inv W ?_ ?_ ?_ ?_ ?_ ⟨⟨_, Heap.get?_push_size _ rfl, rfl, rfl⟩, hD.push _⟩ (F.push _) (N.pushKeep _) ?_ h0 ?_ ?_
  · intro i s' v Q E hP hst hQ
    rcases htg with h | ⟨elts, x1, pos, rfl, h⟩
    · exact wpAny_of_eq (h _ _) hQ
    · have hv : vs[i]? = some v := by simpa using hP
      obtain ⟨T, rfl⟩ := h v (List.mem_of_getElem? hv)
      exact wpAny_letOwnedTupleGo_listiter hst.1 hQ
  · intro i h st b hb
    rw [List.mem_singleton.mp hb]
    obtain ⟨o, ho, _⟩ := st.1
    exact ⟨o, ho⟩
  · intro hm
    rcases List.mem_cons.mp hm with e | hm
    · exact Nat.lt_irrefl _ (e ▸ F.ns.lt)
    · exact hLD (List.mem_singleton.mp hm).symm
  · intro b hb
    rw [List.mem_singleton.mp hb]; exact none_
  · intro b hb
    rcases List.mem_cons.mp hb with rfl | hb
    · exact .inl (List.mem_singleton.mpr rfl)
    · rw [List.mem_singleton.mp hb]; exact .inr X
  · intro p hp hm
    exact Nat.ne_of_lt (Heap.lt_size (N p hp).1) (List.mem_singleton.mp hm)
  · intro i v m₁ led h tk own hi hP hJ _ hne F₁ N₁
    exact turn i v m₁ led h tk own (by simpa using hi) (by simpa using hP) hJ hne F₁ N₁
  · intro h' tk m' led' F' N' hJ
    exact done h' tk m' led' F' N' (by simpa using hJ)
end
end Mine
end
section
open PySem PySem.W PySem.Calls PyProof.Rows
namespace Mine
section
variable {prog : Program} {w : World} {A : Around} {s : Shared} {env : Env} {h₀ : Heap} {R : Result → Shared → Prop}
/-- for x in range(3) -/
theorem code_for3 {x : Str} {px : Pos} {body : List Stmt} {r : Addr} {t u v : Tok} {m : Str → Option Value} {led : List (Addr × Obj)} {E : Value → Shared → Prop} (Inv : Nat → (Str → Option Value) → List (Addr × Obj) → Prop)
    (hh : A.handled = none) (hr : IsRange s.heap r 0 3 1 t u v)
    (F : Fr h₀ env.locals s.heap m) (N : News h₀ env.locals s.heap led) (h0 : Inv 0 m led)
    (turn : ∀ i tv m₁ led h tk own, i < 3 → Inv i m₁ led → (∀ p ∈ led, ∀ q ∈ own, p.1 ≠ q.1) → Fr h₀ env.locals h m₁ → News h₀ env.locals h (led ++ own) →
      wpAny (model prog w) A (assign (.Name x px) env (.int (0 + (i : Nat) * 1) tv)) (fun _ s₂ => wpAny (model prog w) A (execs body env) (TurnG h₀ env.locals own (Inv (i + 1)) { s with heap := h, toks := tk }) (fun _ _ => False) s₂) (fun _ _ => False) { s with heap := h, toks := tk })
    (done : ∀ h' tk m' led', Fr h₀ env.locals h' m' → News h₀ env.locals h' led' → Inv 3 m' led' → R (.ok .next) { s with heap := h', toks := tk }) :
    wpAny (model prog w) A (pyIter (.ref r)) (fun it s₂ => codeAny (model prog w) A (.forLoop (.Name x px) it body [] env) R s₂) E s := by
  refine wpAny_pyIter_range hr (by decide) ?_
  have W := Walks.range (prog := prog) (w := w) hh s.heap.objs.size 0 1 3
  have none_ : h₀.get? s.heap.objs.size = none := F.fresh
  have st0 : IsRangeIter (s.heap.push { cls := .type "range_iterator", data := .fields #[rawInt 0, rawInt (Builtin.Range.rangeSize 0 3 1), rawInt 1] }) s.heap.objs.size (0 + ((0 : Nat) : Int) * 1) (((3 : Nat) : Int) - ((0 : Nat) : Int)) 1 := Heap.get?_push_size _ rfl
  refine code_for (s := { s with heap := s.heap.push _ }) Inv W ?_ ?_ ?_ ?_ ?_ st0 (F.push _) (N.pushKeep _) ?_ h0 ?_ ?_
  · intro i s' v Q E _ _ hQ
    exact wpAny_of_eq (a := ()) rfl hQ
  · intro i h st b hb
    rw [List.mem_singleton.mp hb]
    exact ⟨_, st⟩
  · intro hm
    exact Nat.lt_irrefl _ ((List.mem_singleton.mp hm) ▸ F.ns.lt)
  · intro b hb
    rw [List.mem_singleton.mp hb]; exact none_
  · intro b hb
    exact .inl hb
  · intro p hp hm
    exact Nat.ne_of_lt (Heap.lt_size (N p hp).1) (List.mem_singleton.mp hm)
  · rintro i v m₁ led h tk own hi ⟨t, rfl⟩ hJ _ hne F₁ N₁
    exact turn i t m₁ led h tk own hi hJ hne F₁ N₁
  · exact done
end
end Mine
end
section
open PySem PySem.W PySem.Calls PyProof.Rows
namespace Mine
theorem flush_XC7 : True := by
  w_top off
  trivial
local macro_rules | `(tactic| walk_at "no such node") => `(tactic| skip)
local macro_rules | `(tactic| walk_at "execs cons") => `(tactic| ((with_reducible show wpAny _ _ (execs (Stmt.For _ _ _ _ _ :: _) _) _ _ _); refine Lock.of ?_))
local macro_rules | `(tactic| walk_at "call ref") => `(tactic| (k_here; (with_reducible show wpAny _ _ (call (Value.ref 117) [Value.ref _, Value.int _ _]) _ _ _); k_dflt (refine' take_k _ _ _ _ _ _ _ _ _ _ _ ?kU ?kx ?ky ?kz ?kw ?k1 ?k2 ?k3 ?k4 ?k5 ?kK ?kd ?ku ?_; (case k4 => k_asm); (case kU => k_updF); (case kx => assumption); (case ky => assumption); (case kz => omega); (case kw => omega); (case k1 => k_asm); (case k2 => k_asm); (case k3 => k_asm); (case k5 => k_asm); (case kK => first | exact rfl | assumption); (case kd => ktr_room); (case ku => ktr_units)); intro v9 t9 h9 tk9 x9 y9 tx9 ty9 m9 lo9 hi9 hx9 hy9 F9 N9; (try dsimp only at N9); (try dsimp only); (try k_fold)))
theorem one4_u (w : World) (src D : Addr) (x y : Int) (n nD : Nat) (tx ty : Tok) (a b c d : Int) (ta tb tc td : Tok) (news g) (U : UpdF src (intL x y tx ty n) news g) (hD : (D, listOf [.int a ta, .int b tb, .int c tc, .int d td].toArray nD) ∈ news) (h0 : 0 ≤ x) (h1 : 0 ≤ y) (hne : D ≠ src)
    (a0 : 0 ≤ a) (b0 : 0 ≤ b) (c0 : 0 ≤ c) (d0 : 0 ≤ d) (a1 : a ≤ b) (c1 : c ≤ b) (d1 : d ≤ b) :
    Claims w 124 3 24 [.ref src, .ref D] news (fun r news' => (∃ k t, r = .int k t ∧ 0 ≤ k ∧ k ≤ b) ∧ SrcU g news') := by
  intro dp un gd cn cs a' ccd cl outer A₀ base h₀ L m mean mg mb s Q E B F X N T hk hd hu hret
  refine use_c (one_u w src D x y n nD tx ty _ news g U hD h0 h1 (Nat.succ_pos _) (by show 4 ≤ 1000; decide) hne) B F X N T hk hd hu ?_
  rintro r n' h' tk' ⟨⟨i, hi⟩, hs⟩ F' N'
  refine hret _ _ _ _ ⟨?_, hs⟩ F' N'
  have hm := List.mem_of_getElem? hi
  rcases List.mem_cons.mp hm with rfl | hm
  · exact ⟨_, _, rfl, a0, a1⟩
  rcases List.mem_cons.mp hm with rfl | hm
  · exact ⟨_, _, rfl, b0, Int.le_refl _⟩
  rcases List.mem_cons.mp hm with rfl | hm
  · exact ⟨_, _, rfl, c0, c1⟩
  rcases List.mem_cons.mp hm with rfl | hm
  · exact ⟨_, _, rfl, d0, d1⟩
  cases hm
theorem one4_k (w : World) (src D : Addr) (x y : Int) (n nD : Nat) (tx ty : Tok) (a b c d : Int) (ta tb tc td : Tok) (news g) (U : UpdF src (intL x y tx ty n) news g) (hD : (D, listOf [.int a ta, .int b tb, .int c tc, .int d td].toArray nD) ∈ news) (h0 : 0 ≤ x) (h1 : 0 ≤ y) (hne : D ≠ src)
    (a0 : 0 ≤ a) (b0 : 0 ≤ b) (c0 : 0 ≤ c) (d0 : 0 ≤ d) (a1 : a ≤ b) (c1 : c ≤ b) (d1 : d ≤ b)
    {dp un : Nat} {gd : Option (List Code)} {cn : Str} {cs : Scope} {a' : Addr} {ccd : Value} {cl : List (Str × Addr)} {outer : List Env} {A₀ : Around} {base h₀ : Heap} {L : Addr} {m : Str → Option Value}
    {mean : ExcName → Option Value} {mg mb : Str → Option Value} {s : Shared} {Q E : Value → Shared → Prop}
    (B : Below A₀ base outer h₀) (F : Fr h₀ L s.heap m) (X : (hd.heap_1 w.params).In h₀) (N : News h₀ L s.heap news) (T : TopQ mean mg mb h₀) (hk : cs.kind = .function) (hd : dp + 3 < recursionLimit) (hu : un + 24 < cLine)
    (ret : ∀ v t h' tk' x' y' tx' ty' m', 0 ≤ v → v ≤ b → 0 ≤ x' → 0 ≤ y' → Fr h₀ L h' m → News h₀ L h' (g (intL x' y' tx' ty' m')) → Q (.int v t) { s with heap := h', toks := tk' }) :
    wpAny (model Challenge.rw_xm0716_01.row.prog w) (ktrTop dp un gd cn cs L a' ccd cl outer) (call (.ref 124) [.ref src, .ref D]) Q E s := by
  refine use_c (one4_u w src D x y n nD tx ty a b c d ta tb tc td news g U hD h0 h1 hne a0 b0 c0 d0 a1 c1 d1) B F X N T hk hd hu ?_
  rintro r n' h' tk' ⟨⟨v, t, rfl, h2, h3⟩, x', y', tx', ty', m', hx, hy, rfl⟩ F' N'
  exact ret v t h' tk' x' y' tx' ty' m' h2 h3 hx hy F' N'
local macro_rules | `(tactic| walk_at "call ref") => `(tactic| (k_here; (with_reducible show wpAny _ _ (call (Value.ref 124) [Value.ref _, Value.ref _]) _ _ _); k_dflt (refine' one4_k _ _ _ _ _ _ _ _ _ _ _ _ _ _ _ _ _ _ _ ?kU ?kD ?kx ?ky ?kn ?q1 ?q2 ?q3 ?q4 ?q5 ?q6 ?q7 ?k1 ?k2 ?k3 ?k4 ?k5 ?kK ?kd ?ku ?_; (case k4 => k_asm); (case kU => k_updF); (case kD => k_mem); (case kx => assumption); (case ky => assumption); (case kn => k_ne); (case q1 => omega); (case q2 => omega); (case q3 => omega); (case q4 => omega); (case q5 => omega); (case q6 => omega); (case q7 => omega); (case k1 => k_asm); (case k2 => k_asm); (case k3 => k_asm); (case k5 => k_asm); (case kK => first | exact rfl | assumption); (case kd => ktr_room); (case ku => ktr_units)); intro v9 t9 h9 tk9 x9 y9 tx9 ty9 m9 lo9 hi9 hx9 hy9 F9 N9; (try dsimp only at N9); (try dsimp only); (try k_fold)))
noncomputable def NeAll (T : Nat) : List (Addr × Obj) → Prop
  | [] => True
  | p :: r => @Ne Nat p.1 T ∧ NeAll T r
theorem neAll_of {T : Addr} : ∀ {l : List (Addr × Obj)}, (∀ q ∈ l, q.1 ≠ T) → NeAll T l
  | [], _ => trivial
  | p :: _, h => ⟨h p (.head _), neAll_of fun q hq => h q (.tail _ hq)⟩
theorem NeAll.at {T : Nat} {l : List (Addr × Obj)} (h : NeAll T l) (q : Addr × Obj) (hq : q ∈ l) : @Ne Nat q.1 T := by
  induction l with
  | nil => cases hq
  | cons p r ih =>
    rcases List.mem_cons.mp hq with e | hq
    · subst e; exact h.1
    · exact ih h.2 hq
/-- a drawn colour -/
structure Drawn (r g b al : Int) : Prop where
  r0 : 0 ≤ r
  g0 : 0 ≤ g
  b0 : 0 ≤ b
  a0 : 0 ≤ al
  r1 : r ≤ al
  g1 : g ≤ al
  b1 : b ≤ al
  a1 : al ≤ 255
def ColU (news : List (Addr × Obj)) (gg : Obj → List (Addr × Obj)) (v : Value) (news' : List (Addr × Obj)) : Prop :=
  ∃ T r g b al tr tg tb ta k, v = .ref T ∧ Drawn r g b al ∧ NeAll T news ∧ ∃ x y tx ty n, 0 ≤ x ∧ 0 ≤ y ∧ news' = (T, tupO [.int r tr, .int g tg, .int b tb, .int al ta] k) :: gg (intL x y tx ty n)
theorem retCol {h₀ h' g' : Heap} {L L' T src : Addr} {m : Str → Option Value} {post rest rest' : List (Addr × Obj)} {s : Shared} {Q : Value → Shared → Prop} {r g b al x y : Int} {tr tg tb ta tx ty : Tok} {k n tk' : Nat} {o o' : Obj}
    (hret : ∀ r news' h' tk', ColU ((src, o) :: post) (fun o => (src, o) :: post) r news' → Fr h₀ L h' m → News h₀ L h' news' → Q r { s with heap := h', toks := tk' })
    (F : Fr h₀ L h' m) (N : News h₀ L h' ((T, tupO [.int r tr, .int g tg, .int b tb, .int al ta] k) :: rest)) (Np : News h₀ L h' post) (N6 : News g' L' h' ((T, o') :: rest')) (hPg : ∀ q ∈ post, g'.get? q.1 = some q.2) (hT : @LT.lt Nat _ src T)
    (hs : (src, intL x y tx ty n) ∈ rest) (hx : 0 ≤ x) (hy : 0 ≤ y) (hD : Drawn r g b al) : Q (.ref T) { s with heap := h', toks := tk' } := by
  refine hret (.ref T) ((T, tupO [.int r tr, .int g tg, .int b tb, .int al ta] k) :: (src, intL x y tx ty n) :: post) h' tk' ⟨T, r, g, b, al, _, _, _, _, _, rfl, hD, ⟨Nat.ne_of_lt hT, neAll_of fun q hq e => ?_⟩, _, _, _, _, _, hx, hy, rfl⟩ F ?_
  · have h1 := hPg q hq
    rw [e, (N6 _ (.head _)).2.2] at h1
    cases h1
  · intro p hp
    rcases List.mem_cons.mp hp with rfl | hp
    · exact N _ (.head _)
    rcases List.mem_cons.mp hp with rfl | hp
    · exact N _ (.tail _ hs)
    · exact Np p hp
def ColInv (l src : Addr) (al : Int) (M : Str → Option Value) (i : Nat) (m : Str → Option Value) (led : List (Addr × Obj)) : Prop :=
  ∃ (xs : List (Int × Tok)) (x y : Int) (tx ty : Tok) (n np : Nat) (o1 o2 : Option Value), xs.length = i ∧ (∀ p ∈ xs, 0 ≤ p.1 ∧ p.1 ≤ al) ∧ 0 ≤ x ∧ 0 ≤ y ∧ m = (fun z => if z = Str.ofString "some" then o1 else if z = Str.ofString "turn" then o2 else M z) ∧
    led = [(l, listOf (xs.map fun p => Value.int p.1 p.2).toArray np), (src, intL x y tx ty n)]
theorem ColInv.elim {l src : Addr} {al : Int} {M : Str → Option Value} {i : Nat} {m : Str → Option Value} {led : List (Addr × Obj)} {P9 : Prop} (h : ColInv l src al M i m led) (kk9 : ∀ (xs : List (Int × Tok)) (x y : Int) (tx ty : Tok) (n np : Nat) (o1 o2 : Option Value), xs.length = i → (∀ p ∈ xs, 0 ≤ p.1 ∧ p.1 ≤ al) → 0 ≤ x → 0 ≤ y → m = ((fun z => if z = Str.ofString "some" then o1 else if z = Str.ofString "turn" then o2 else M z)) → led = ([(l, listOf (xs.map fun p => Value.int p.1 p.2).toArray np), (src, intL x y tx ty n)]) → P9) : P9 := by
  obtain ⟨xs, x, y, tx, ty, n, np, o1, o2, q0, q1, q2, q3, r8, r9⟩ := h
  exact kk9 _ _ _ _ _ _ _ _ _ q0 q1 q2 q3 r8 r9
theorem ColInv.start {l src : Addr} {al x y : Int} {M : Str → Option Value} {tx ty : Tok} {n np : Nat} (h1 : al ≤ 255) (h0 : 0 ≤ al) (hx : 0 ≤ x) (hy : 0 ≤ y) :
    ColInv l src al M 0 M [(l, listOf ([] : List Value).toArray np), (src, intL x y tx ty n)] :=
  ⟨[], x, y, tx, ty, n, np, M (Str.ofString "some"), M (Str.ofString "turn"), rfl, (fun _ h => nomatch h), hx, hy, by funext z; (repeat' split) <;> first | rfl | (subst_vars; rfl), rfl⟩
theorem colTurn {h₀ h h' : Heap} {L l src : Addr} {al k x y : Int} {M : Str → Option Value} {i : Nat} {s : Shared} {tk tk' : Nat} {xs : List (Int × Tok)} {t tx ty : Tok} {n np : Nat} {own all : List (Addr × Obj)} {o1 o2 p1 p2 : Option Value}
    (hlen : xs.length = i) (hxs : ∀ p ∈ xs, 0 ≤ p.1 ∧ p.1 ≤ al)
    (F : Fr h₀ L h' (fun z => if z = Str.ofString "some" then p1 else if z = Str.ofString "turn" then p2 else if z = Str.ofString "some" then o1 else if z = Str.ofString "turn" then o2 else M z))
    (N : News h₀ L h' all) (h1 : (l, listOf ((xs.map fun p => Value.int p.1 p.2).toArray.push (.int k t)) np) ∈ all) (h2 : (src, intL x y tx ty n) ∈ all) (h3 : ∀ p ∈ own, p ∈ all) (ho1 : ∀ q ∈ own, q.1 ≠ l) (ho2 : ∀ q ∈ own, q.1 ≠ src) (hk0 : 0 ≤ k) (hk1 : k ≤ al) (hx : 0 ≤ x) (hy : 0 ≤ y) :
    TurnG h₀ L own (ColInv l src al M (i + 1)) { s with heap := h, toks := tk } .next { s with heap := h', toks := tk' } := by
  refine ⟨rfl, h', tk', _, [(l, listOf ((xs ++ [(k, t)]).map fun p => Value.int p.1 p.2).toArray np), (src, intL x y tx ty n)], rfl, F, ?_, ?_, xs ++ [(k, t)], x, y, tx, ty, n, np, p1, p2, by simp [hlen], ?_, hx, hy, ?_, rfl⟩
  · refine newsSub N fun p hp => ?_
    rcases List.mem_cons.mp hp with rfl | hp
    · rw [List.map_append, List.map_singleton, ← List.push_toArray]
      exact h1
    rcases List.mem_cons.mp hp with rfl | hp
    · exact h2
    · exact h3 p hp
  · intro p hp q hq e
    rcases List.mem_cons.mp hp with rfl | hp
    · exact ho1 q hq e.symm
    · rw [List.mem_singleton.mp hp] at e
      exact ho2 q hq e.symm
  · intro p hp
    rcases List.mem_append.mp hp with hp | hp
    · exact hxs p hp
    · rw [List.mem_singleton.mp hp]; exact ⟨hk0, hk1⟩
  · funext z
    (repeat' split) <;> first | rfl | simp_all
theorem colStart {h₀ h : Heap} {L l src : Addr} {all : List (Addr × Obj)} {o o' : Obj} (N : News h₀ L h all) (h1 : (l, o) ∈ all) (h2 : (src, o') ∈ all) : News h₀ L h [(l, o), (src, o')] := newsSub N fun p hp => by
  rcases List.mem_cons.mp hp with rfl | hp
  · exact h1
  · rw [List.mem_singleton.mp hp]; exact h2
theorem three_of {xs : List (Int × Tok)} {G : Prop} (h : xs.length = 3) (kk : ∀ a ta b tb c tc, xs = [(a, ta), (b, tb), (c, tc)] → G) : G :=
  match xs, h with
  | [(a, ta), (b, tb), (c, tc)], _ => kk a ta b tb c tc rfl
theorem colour_c (w : World) (src : Addr) (x y : Int) (n : Nat) (tx ty : Tok) (post) (h0 : 0 ≤ x) (h1 : 0 ≤ y) (hap : ∀ q ∈ post, q.1 ≠ src) :
    Claims w 131 5 40 [.ref src] ((src, intL x y tx ty n) :: post) (fun r news' => ColU ((src, intL x y tx ty n) :: post) (fun o => (src, o) :: post) r news') := by
  unfold Claims
  k_fill
  intro dp un gd cn cs a' ccd cl outer A₀ base h₀ L m mean mg mb s Q E B F X N T hk hd hu hret
  have Nn : News h₀ L s.heap [(src, intL x y tx ty n)] := newsSub N fun p hp => by rw [List.mem_singleton.mp hp]; exact .head _
  have Np : News h₀ L s.heap post := newsSub N fun p hp => .tail _ hp
  have hapP : ∀ q ∈ post, ∀ p ∈ [(src, intL x y tx ty n)], p.1 ≠ q.1 := fun q hq p hp => by rw [List.mem_singleton.mp hp]; exact (hap q hq).symm
  refine wpAny_call ?_
  k_dflt (refine' code_defH B F X Nn Np hapP T ?kA ?kF ?kK ?k6 ?k7 ?k8 ?k9 ?kB ?_ ?c2 ?c3 ?c4 ?c5; (case kA => exact rfl); (case kF => exact rfl); (case kK => assumption); (case k6 => k_is); (case k7 => k_is); (case k8 => ktr_room); (case k9 => exact BindsTo.of_eq rfl); (case c5 => decide); (case kB => exact locs rfl); (case c2 => exact rfl); (case c3 => exact rfl); (case c4 => exact rfl); k_whole; intro g' L' h' FG' F' N' B' X' T' hPg; (try dsimp only); (try k_fold))
  clear N Nn Np
  k_steps
  refine Lock.open ?_
  refine wpAny_execs_cons ?_
  refine wpAny_For ?_ (fun _ => rfl)
  k_steps
  with_reducible rename Fr _ _ _ _ => F2
  with_reducible rename News _ _ _ _ => N2
  rename (_ ≤ (255 : Int)) => hal1
  refine code_for3 (fun i m led => ColInv _ _ _ _ i m led) rfl (by assumption) F2 (colStart N2 (by k_dflt k_mem) (by k_dflt k_mem)) (ColInv.start hal1 (by assumption) (by assumption) (by assumption)) ?_ ?_
  · intro i tv m₁ led h tk own hi hI
    refine ColInv.elim hI ?_
    clear hI
    intro xs x3 y3 tx3 ty3 n3 np3 o1 o2 hlen hxs hx3 hy3 em el
    subst em
    subst el
    intro hne F3 N3
    have ho1 : ∀ q ∈ own, q.1 ≠ _ := fun q hq => (hne _ (.head _) q hq).symm
    have ho2 : ∀ q ∈ own, q.1 ≠ _ := fun q hq => (hne _ (.tail _ (.head _)) q hq).symm
    have N4 : News _ _ _ (_ :: _ :: own) := N3
    clear N3 hne F2 N2
    dsimp only at ho1 ho2
    k_steps
    with_reducible rename Fr _ _ _ _ => F5
    with_reducible rename News _ _ _ _ => N5
    exact colTurn hlen hxs F5 N5 (by k_dflt k_mem) (by k_dflt k_mem) (by k_sub) ho1 ho2 (by assumption) (by assumption) (by assumption) (by assumption)
  · intro h tk m' led' F3 N3 hI
    revert F3 N3
    refine ColInv.elim hI ?_
    clear hI
    intro xs x3 y3 tx3 ty3 n3 np3 o1 o2 hlen hxs hx3 hy3 em el
    refine three_of hlen ?_
    intro r3 tr3 g3 tg3 b3 tb3 ex
    subst ex
    subst em
    subst el
    intro F3 N3
    have br := hxs _ (.head _)
    have bg := hxs _ (.tail _ (.head _))
    have bb := hxs _ (.tail _ (.tail _ (.head _)))
    clear hxs hlen F2 N2
    dsimp only [List.map] at F3 N3 br bg bb
    dsimp only
    k_steps
    refine withRest fun NpE => ?_
    dsimp only
    rename News g' _ _ _ => N6
    exact retCol hret (by assumption) (by assumption) NpE N6 hPg (by omega) (by k_dflt k_mem) hx3 hy3 ⟨br.1, bg.1, bb.1, by assumption, br.2, bg.2, bb.2, hal1⟩
end Mine
end
section
open PySem PySem.W PySem.Calls PyProof.Rows
namespace Mine
section
variable {prog : Program} {w : World} {A₀ A : Around} {s : Shared} {base h₀ : Heap} {outer : List Env} {L : Addr} {m mg mb : Str → Option Value} {env : Env} {news post : List (Addr × Obj)} {K : Frag} {p : Program} {loose : List Str} {mean : ExcName → Option Value}
  {R : Result → Shared → Prop} {name qual : Str} {params : Arguments} {body : List Stmt} {scope : Scope} {dV kV doc pm cdv ct oc : Value} {an od : Option Addr} {osl : Array (Option Value)} {f : Addr} {args : Args} {binds : List (Str × Value)}
/-- the same for a def with cells -/
theorem code_defCH (B : Below A₀ base outer h₀) (F : Fr h₀ L s.heap m) (X₀ : K.In h₀) (N : News h₀ L s.heap news) (Np : News h₀ L s.heap post) (hap : ∀ q ∈ post, ∀ p ∈ news, p.1 ≠ q.1) (T : Top p loose mean mg mb h₀) (hA : A.frames = some (env :: outer)) (hf : env.frame = some L) (hke : env.scope.kind = .function)
    (ho : K.lookup f = some ⟨oc, od, .func (fnOf name qual params body scope dV kV doc pm an cdv ct), osl⟩) (hcd : codeIn K cdv qual = true) (hroom : A.depth < recursionLimit)
    (hbind : BindsTo s (fnOf name qual params body scope dV kV doc pm an cdv ct) args binds) (hkind : (binds.all fun y => scope.names.lookup y.1 == some .local || scope.names.lookup y.1 == some .cell) = true)
    (hnd : ((cellsFrom 0 scope.names []).map (·.1)).Nodup)
    (h : ∀ g L' h₁ tk cells, Fr h₀ L g m → Fr g L' h₁ (bindL (envOfC qual scope L' f cdv).kindOf binds fun _ => none) → News g L' h₁ (cells ++ news) →
      CellsAre (bindC (envOfC qual scope L' f cdv).kindOf binds fun _ => none) (cellsFrom (L' + 1) scope.names []) cells → Below A base (env :: outer) g → K.In g → Top p loose mean mg mb g → (∀ p ∈ news, p.1 < L') → (∀ q ∈ post, g.get? q.1 = some q.2) →
      wpAny (model prog w) (A.deeper (envOfC qual scope L' f cdv)) (execs body (envOfC qual scope L' f cdv))
        (fun fl s' => LeaveK h₀ L m g (WithRest h₀ L post R) (match fl with | .ret v => v | _ => .none) s')
        (fun e s' => wpAny (model prog w) (A.deeper (envOfC qual scope L' f cdv)) (leaving (envOfC qual scope L' f cdv) e) (fun _ s'' => R (.error e) s'') (fun e' s'' => R (.error e') s'') s')
        { s with heap := h₁, toks := tk })
    (hco : scope.isCoroutine = false) (hgen : scope.isGenerator = false) (hk : scope.kind = .function) : codeAny (model prog w) A (.call (.ref f) args) R s := by
  obtain ⟨FG, BG, st, lv⟩ := groundX (R := WithRest h₀ L post R) B F N hA hf hke
  have hpg : ∀ q ∈ post, (hideAll s.heap (news.map (·.1))).get? q.1 = some q.2 := fun q hq => hideAll_get _ (Np q hq).1 fun hm => by
    obtain ⟨p, hp, e⟩ := List.mem_map.mp hm
    exact hap q hq p hp e
  refine codeAny_call_function hroom ((X₀.keeps F.keep) _ _ ho) rfl hco hgen rfl (codeRec_of (X₀.keeps F.keep) hcd) (hbind _ _ _ _ ?_)
  refine wpAny_newFunctionEnv_cells hk (kindsX hkind _) fun env' he s' x => ?_
  subst he
  refine ⟨((T.nolimit.keeps F.keep)).keeps x.toInCall.keep, codeAny_func ?_⟩
  obtain ⟨h₁, tk, rfl, _⟩ := x.done
  have hk₁ := x.toInCall.keep
  obtain ⟨cells, NC, Y⟩ := Cl.news (h₀ := s.heap) (Nat.le_refl _) fun n c hm => ⟨x.cell n c (lookup_of_mem_nodup (cellsFrom_names scope.names 0 (s.heap.objs.size + 1) [] [] rfl ▸ hnd) hm), x.above n c hm⟩
  refine wpAny_mono (h _ s.heap.objs.size h₁ tk cells FG ⟨x.toInCall.ns, fun b o e => hk₁ b o (of_hideAll _ e), Nat.le_of_eq (hideAll_size _ _)⟩ (fun p hp => ?_) Y BG (X₀.keeps st) (T.keeps st) (fun p hp => Heap.lt_size (N p hp).1) hpg) (fun fl s' hl => ?_) fun _ _ y => y
  · rcases List.mem_append.mp hp with hp | hp
    · refine ⟨(NC p hp).1, (NC p hp).2.1, ?_⟩
      cases q : (hideAll s.heap (news.map (·.1))).get? p.1 with
      | none => rfl
      | some o => have := of_hideAll _ q; rw [(NC p hp).2.2] at this; cases this
    · exact ⟨hk₁ _ _ (N p hp).1, Nat.ne_of_lt (Heap.lt_size (N p hp).1), hideAll_none _ (List.mem_map_of_mem hp)⟩
  · have F' := hl
    obtain ⟨L', m', news', F', N', _⟩ := F'
    exact lv _ _ hl fun q hq => ⟨F'.keep _ _ (hpg q hq), (Np q hq).2⟩
end
end Mine
end
section
open PySem PySem.W PySem.Calls PyProof.Rows
namespace Mine
theorem flush_XC8 : True := by
  w_top off
  trivial
local macro_rules | `(tactic| walk_at "no such node") => `(tactic| skip)
local macro_rules | `(tactic| walk_at "execs cons") => `(tactic| ((with_reducible show wpAny _ _ (execs (Stmt.For _ _ _ _ _ :: _) _) _ _ _); refine Lock.of ?_))
local macro_rules | `(tactic| walk_at "exec Assign cons ListComp") => `(tactic| (refine Lock.of ?_))
local macro_rules | `(tactic| walk_at "eval ListComp") => `(tactic| (refine Lock.of ?_))
local macro_rules | `(tactic| walk_at "binaryOp Add ref ref") => `(tactic| (refine Lock.of ?_))
def RowAt (news : List (Addr × Obj)) (vs : List Value) (cols : List (Int × Int × Int × Int)) : Prop :=
  vs.length = cols.length ∧ ∀ (i : Nat) (v : Value), vs[i]? = some v → ∃ (T : Addr) (o : Obj) (c : Int × Int × Int × Int), v = Value.ref T ∧ cols[i]? = some c ∧ (T, o) ∈ news ∧ Tup4 o c.1 c.2.1 c.2.2.1 c.2.2.2
theorem RowAt.elim {news : List (Addr × Obj)} {vs : List Value} {cols : List (Int × Int × Int × Int)} {i : Nat} {v : Value} {G : Prop} (h : RowAt news vs cols) (hv : vs[i]? = some v)
    (kk : ∀ T cr cg cb ca t1 t2 t3 t4 kt, cols[i]? = some (cr, cg, cb, ca) → (T, tupO [.int cr t1, .int cg t2, .int cb t3, .int ca t4] kt) ∈ news → v = .ref T → G) : G := by
  obtain ⟨T, o, ⟨cr, cg, cb, ca⟩, e, hc, hT, t1, t2, t3, t4, kt, rfl⟩ := h.2 i v hv
  exact kk T cr cg cb ca t1 t2 t3 t4 kt hc hT e
def octV (p al : Int) : Int := (255 * p).fdiv (max 1 al) + (if max 1 al ≤ 2 * (255 * p).fmod (max 1 al) then 1 else 0)
def colOct (c : Int × Int × Int × Int) : List Int := [octV c.1 c.2.2.2, octV c.2.1 c.2.2.2, octV c.2.2.1 c.2.2.2, c.2.2.2]
def octetsL (cols : List (Int × Int × Int × Int)) : List Int := cols.flatMap colOct
theorem octetsL_len (cols : List (Int × Int × Int × Int)) : (octetsL cols).length = 4 * cols.length := by
  induction cols with
  | nil => rfl
  | cons c r ih => show (colOct c ++ octetsL r).length = _; rw [List.length_append, ih]; simp [colOct]; omega
theorem octetsL_le {cols : List (Int × Int × Int × Int)} (i : Nat) (h : cols.length ≤ 8) : (octetsL (cols.take i)).length ≤ 32 := by
  rw [octetsL_len, List.length_take]; omega
def OctInv (c : Addr) (M : Str → Option Value) (cols : List (Int × Int × Int × Int)) (i : Nat) (m : Str → Option Value) (led : List (Addr × Obj)) : Prop :=
  ∃ (D : Addr) (os : List Value) (k : Nat) (oc : Obj) (vc o1 o2 o3 o4 o5 : Option Value), IntsAre os (octetsL (cols.take i)) ∧ oc.data = .cell vc ∧ @Ne Nat D c ∧
    m = (fun z => if z = Str.ofString "found" then some (.ref D) else if z = Str.ofString "tops" then o1 else if z = Str.ofString "alpha" then o2 else if z = Str.ofString "blue" then o3 else if z = Str.ofString "green" then o4 else if z = Str.ofString "red" then o5 else M z) ∧
    led = [(D, listOf os.toArray k), (c, oc)]
theorem OctInv.elim {c : Addr} {M : Str → Option Value} {cols : List (Int × Int × Int × Int)} {i : Nat} {m : Str → Option Value} {led : List (Addr × Obj)} {P9 : Prop} (h : OctInv c M cols i m led) (kk9 : ∀ (D : Addr) (os : List Value) (k : Nat) (oc : Obj) (vc o1 o2 o3 o4 o5 : Option Value), IntsAre os (octetsL (cols.take i)) → oc.data = .cell vc → @Ne Nat D c → m = ((fun z => if z = Str.ofString "found" then some (.ref D) else if z = Str.ofString "tops" then o1 else if z = Str.ofString "alpha" then o2 else if z = Str.ofString "blue" then o3 else if z = Str.ofString "green" then o4 else if z = Str.ofString "red" then o5 else M z)) → led = ([(D, listOf os.toArray k), (c, oc)]) → P9) : P9 := by
  obtain ⟨D, os, k, oc, vc, o1, o2, o3, o4, o5, q0, q1, q2, r8, r9⟩ := h
  exact kk9 _ _ _ _ _ _ _ _ _ _ q0 q1 q2 r8 r9
theorem OctInv.start {l c : Addr} {M : Str → Option Value} {cols : List (Int × Int × Int × Int)} {oc : Obj} {vc : Option Value} {k : Nat} (hM : M (Str.ofString "found") = some (.ref l)) (hoc : oc.data = .cell vc) (hne : @Ne Nat l c) :
    OctInv c M cols 0 M [(l, listOf ([] : List Value).toArray k), (c, oc)] :=
  ⟨l, [], k, oc, vc, M (Str.ofString "tops"), M (Str.ofString "alpha"), M (Str.ofString "blue"), M (Str.ofString "green"), M (Str.ofString "red"), .nil, hoc, hne, by funext z; (repeat' split) <;> first | rfl | (subst_vars; first | rfl | exact hM), rfl⟩
theorem newsCons {h₀ h : Heap} {L D : Addr} {o : Obj} {all post : List (Addr × Obj)} (N : News h₀ L h all) (hm : (D, o) ∈ all) (Np : News h₀ L h post) : News h₀ L h ((D, o) :: post) := fun p hp => by
  rcases List.mem_cons.mp hp with e | hp
  · exact e ▸ N _ hm
  · exact Np p hp
theorem maxE (a : Int) : max 1 a = if a > 1 then a else 1 := by rw [Int.max_def]; (repeat' split) <;> omega
theorem octTurn {h₀ h h' : Heap} {L c D : Addr} {M : Str → Option Value} {cols : List (Int × Int × Int × Int)} {i : Nat} {s : Shared} {tk tk' : Nat} {us : List Value} {cr cg cb ca v1 v2 v3 : Int} {k : Nat} {own all : List (Addr × Obj)} {oc : Obj} {vc o1 o2 o3 o4 o5 p0 p1 p2 p3 p4 p5 : Option Value}
    (hc : cols[i]? = some (cr, cg, cb, ca)) (hi : IntsAre us (octetsL (cols.take i) ++ [v1, v2, v3] ++ [ca]))
    (F : Fr h₀ L h' (fun z => if z = Str.ofString "found" then some (.ref D) else if z = Str.ofString "tops" then o1 else if z = Str.ofString "alpha" then o2 else if z = Str.ofString "blue" then o3 else if z = Str.ofString "green" then o4 else if z = Str.ofString "red" then o5 else
      if z = Str.ofString "found" then p0 else if z = Str.ofString "tops" then p1 else if z = Str.ofString "alpha" then p2 else if z = Str.ofString "blue" then p3 else if z = Str.ofString "green" then p4 else if z = Str.ofString "red" then p5 else M z))
    (N : News h₀ L h' all) (h1 : (D, listOf us.toArray k) ∈ all) (h2 : (c, oc) ∈ all) (hoc : oc.data = .cell vc) (h3 : ∀ p ∈ own, p ∈ all) (ho1 : ∀ q ∈ own, q.1 ≠ D) (ho2 : ∀ q ∈ own, q.1 ≠ c) (hDc : @Ne Nat D c)
    (e1 : v1 = octV cr ca) (e2 : v2 = octV cg ca) (e3 : v3 = octV cb ca) :
    TurnG h₀ L own (OctInv c M cols (i + 1)) { s with heap := h, toks := tk } .next { s with heap := h', toks := tk' } := by
  refine ⟨rfl, h', tk', _, [(D, listOf us.toArray k), (c, oc)], rfl, F, ?_, ?_, D, us, k, oc, vc, o1, o2, o3, o4, o5, ?_, hoc, hDc, ?_, rfl⟩
  · refine newsSub N fun p hp => ?_
    rcases List.mem_cons.mp hp with e | hp
    · exact e ▸ h1
    rcases List.mem_cons.mp hp with e | hp
    · exact e ▸ h2
    · exact h3 p hp
  · intro p hp q hq e
    rcases List.mem_cons.mp hp with e' | hp
    · subst e'; exact ho1 q hq e.symm
    · rw [List.mem_singleton.mp hp] at e
      exact ho2 q hq e.symm
  · have : octetsL (cols.take (i + 1)) = octetsL (cols.take i) ++ [v1, v2, v3] ++ [ca] := by
      rw [List.take_add_one, hc]
      subst e1 e2 e3
      simp [octetsL, colOct]
    rw [this]; exact hi
  · funext z
    (repeat' split) <;> first | rfl | simp_all
theorem octets_c (w : World) (R : Addr) (n : Nat) (vs : List Value) (cols : List (Int × Int × Int × Int)) (news) (hR : (R, listOf vs.toArray n) ∈ news) (hrow : RowAt news vs cols) (hd9 : ∀ c ∈ cols, Drawn c.1 c.2.1 c.2.2.1 c.2.2.2) (hlen : cols.length ≤ 8) :
    Claims w 136 3 24 [.ref R] news (fun r news' => ∃ D os k, r = .ref D ∧ IntsAre os (octetsL cols) ∧ news' = (D, listOf os.toArray k) :: news ∧ NeAll D news) := by
  unfold Claims
  k_fill
  intro dp un gd cn cs a' ccd cl outer A₀ base h₀ L m mean mg mb s Q E B F X N T hk hd hu hret
  have Nn : News h₀ L s.heap [] := fun _ h => nomatch h
  have Np : News h₀ L s.heap news := N
  have hapP : ∀ q ∈ news, ∀ p ∈ ([] : List (Addr × Obj)), p.1 ≠ q.1 := fun _ _ _ h => nomatch h
  refine wpAny_call ?_
  k_dflt (refine' code_defCH B F X Nn Np hapP T ?kA ?kF ?kK ?k6 ?k7 ?k8 ?k9 ?kB ?kD ?_ ?c2 ?c3 ?c4; (case kA => exact rfl); (case kF => exact rfl); (case kK => assumption); (case k6 => k_is); (case k7 => k_is); (case k8 => ktr_room); (case k9 => exact BindsTo.of_eq rfl); (case kB => exact rfl); (case kD => decide +kernel); (case c2 => exact rfl); (case c3 => exact rfl); (case c4 => exact rfl); k_whole; intro g' L' h' tk' cells' FG' F' N' Y' B' X' T' l1 hPg; (try k_lt l1); k_cells Y'; (try simp only [List.cons_append, List.nil_append] at N'); (try dsimp only); (try k_fold))
  clear N Nn Np
  k_steps
  refine Lock.open ?_
  refine wpAny_execs_cons ?_
  refine wpAny_For ?_ (fun _ => rfl)
  k_steps
  with_reducible rename Fr _ _ _ _ => F2
  with_reducible rename News _ _ _ _ => N2
  have hgR := hPg _ hR
  refine code_forl (od := listOf vs.toArray n) (fun i m led => OctInv _ _ cols i m led) rfl (F2.lst ⟨_, hgR, rfl, _, rfl⟩) (Nat.ne_of_lt (Nat.lt_of_lt_of_le (Heap.lt_size hgR) F2.above)) (.inl ⟨_, hgR⟩) (.inr ⟨_, _, _, rfl, ?_⟩) F2 N2 (OctInv.start rfl (by assumption) (by omega)) ?_ ?_
  · intro v hv
    obtain ⟨i, hi⟩ := List.getElem?_of_mem hv
    obtain ⟨T, o, c, e, _⟩ := hrow.2 i v hi
    exact ⟨T, e⟩
  · intro i v m₁ led h tk own hi hv hI
    refine RowAt.elim hrow hv ?_
    intro T cr cg cb ca t1 t2 t3 t4 kt hc hT ev
    subst ev
    have dr := hd9 _ (List.mem_of_getElem? hc)
    refine OctInv.elim hI ?_
    clear hI
    intro D os k oc vc o1 o2 o3 o4 o5 hos hoc hDc em el
    subst em
    subst el
    intro hne F3 N3
    have ho1 : ∀ q ∈ own, q.1 ≠ _ := fun q hq => (hne _ (.head _) q hq).symm
    have ho2 : ∀ q ∈ own, q.1 ≠ _ := fun q hq => (hne _ (.tail _ (.head _)) q hq).symm
    have N4 : News _ _ _ (_ :: _ :: own) := N3
    clear N3 hne F2 N2
    dsimp only at ho1 ho2 dr
    refine unpackN_ F3 N4 (F3.tup ⟨_, hPg _ hT, rfl, _, rfl⟩) rfl rfl rfl fun h5 F5 N5 => ?_
    clear F3 N4
    obtain ⟨dr0, dg0, db0, da0, dr1, dg1, db1, da1⟩ := dr
    k_steps
    refine Lock.open ?_
    refine compA_tuple (P := fun v y => Lock (∀ p t, v = .int p t → ∃ t', y = .int (255 * p) t')) rfl rfl rfl (by decide) rfl (by decide) rfl rfl rfl (fun _ => rfl) ?_
    k_steps
    refine Lock.open ?_
    with_reducible rename Fr _ _ _ _ => F6
    with_reducible rename News _ _ _ _ => N6
    refine ⟨_, _, _, _, _, rfl, N6.isTup (.head _), (by show 3 ≤ sizeLine; rw [sizeLine_eq]; decide), F6, N6, ?_, ?_⟩
    · intro C v s₂ m₂ E' hC hv hn hm hk
      obtain ⟨p, t, rfl, hp1, hp2⟩ : ∃ p t, v = .int p t ∧ 0 ≤ p ∧ p ≤ 255 := by
        rcases List.mem_cons.mp hv with rfl | hv
        · exact ⟨_, _, rfl, dr0, by omega⟩
        rcases List.mem_cons.mp hv with rfl | hv
        · exact ⟨_, _, rfl, dg0, by omega⟩
        rcases List.mem_cons.mp hv with rfl | hv
        · exact ⟨_, _, rfl, db0, by omega⟩
        cases hv
      k_steps
      · refine Lock.open ?_
        intro p' t' e
        cases e
        exact ⟨_, rfl⟩
      · exact ⟨_, _, rfl, fun _ _ e => e⟩
    · intro D' ys n' h' tk F7 N7 hap hP
      refine paired3_int hP ?_
      intro t1 t2 t3 ey
      subst ey
      clear hP F6 N6
      k_steps
      refine Lock.open ?_
      refine compE_list (P := fun v y => Lock (∀ p t, v = .int p t → ∃ t', y = .int (p.fdiv (if ca > 1 then ca else 1) + (if (if ca > 1 then ca else 1) ≤ 2 * p.fmod (if ca > 1 then ca else 1) then 1 else 0)) t')) rfl rfl (by decide) rfl (by decide) rfl (fun _ => rfl) ?_
      k_steps
      refine Lock.open ?_
      with_reducible rename Fr _ _ _ _ => F8
      with_reducible rename News _ _ _ _ => N8
      refine ⟨_, _, _, _, _, _, rfl, N8.isList (.head _), (by show 3 ≤ sizeLine; rw [sizeLine_eq]; decide), F8, N8, ?_, ?_⟩
      · intro C v s₂ m₂ E' hC hv hn hm hk
        obtain ⟨p, t, rfl, hp1, hp2⟩ : ∃ p t, v = .int p t ∧ 0 ≤ p ∧ p ≤ 65025 := by
          rcases List.mem_cons.mp hv with rfl | hv
          · exact ⟨_, _, rfl, by omega, by omega⟩
          rcases List.mem_cons.mp hv with rfl | hv
          · exact ⟨_, _, rfl, by omega, by omega⟩
          rcases List.mem_cons.mp hv with rfl | hv
          · exact ⟨_, _, rfl, by omega, by omega⟩
          cases hv
        have FC := frInComp hn hk hC
        k_steps
        · refine Lock.open ?_
          intro p' t' e
          cases e
          simp only [decide_eq_true_eq]
          exact ⟨_, rfl⟩
        · exact ⟨_, _, rfl, fun _ _ e => e⟩
      · intro D8 ys n' h' tk F9 N9 hap8 hP
        refine paired3_int hP ?_
        intro t11 t12 t13 ey
        subst ey
        clear hP F8 N8
        k_steps
        with_reducible rename Fr _ _ _ _ => F10
        with_reducible rename News _ _ _ _ => N10
        have hos8 := hos.length
        have hol : (octetsL (cols.take i)).length ≤ 32 := octetsL_le i (by omega)
        refine Lock.open ?_
        refine kmk_add_ints F10 N10 (N10.isList (by k_dflt k_mem)) (N10.isList (.head _)) hos (.cons _ _ (.cons _ _ (.cons _ _ .nil))) (fun D11 us11 h11 F11 N11 lt11 hi11 => ?_) (by rw [sizeLine_eq]; simp only [List.length_cons, List.length_nil]; omega)
        clear F10 N10
        k_steps
        with_reducible rename Fr _ _ _ _ => F12
        with_reducible rename News _ _ _ _ => N12
        refine Lock.open ?_
        refine kmk_add_ints F12 N12 (N12.isList (by k_dflt k_mem)) (N12.isList (by k_dflt k_mem)) hi11 (.cons _ _ .nil) (fun D13 us13 h13 F13 N13 lt13 hi13 => ?_) (by rw [sizeLine_eq]; simp only [List.length_cons, List.length_nil, List.length_append]; omega)
        clear F12 N12
        k_steps
        with_reducible rename Fr _ _ _ _ => F14
        with_reducible rename News _ _ _ _ => N14
        refine octTurn hc hi13 F14 N14 (.head _) (by k_dflt k_mem) (by assumption) (fun p hp => (by k_dflt (repeat first | exact hp | refine List.Mem.tail _ ?_))) (fun p hp => (Nat.ne_of_lt (lt13 p (by k_dflt (repeat first | exact hp | refine List.Mem.tail _ ?_))))) ho2 (Nat.ne_of_gt (lt13 (L' + 1, _) (by k_dflt k_mem))) ?_ ?_ ?_
        all_goals (unfold octV; rw [maxE])
  · intro h tk m' led' F3 N3 hI
    revert F3 N3
    refine OctInv.elim hI ?_
    clear hI
    intro D os k oc vc o1 o2 o3 o4 o5 hos hoc hDc em el
    subst em
    subst el
    intro F3 N3
    rw [hrow.1, List.take_length] at hos
    clear F2 N2
    dsimp only
    k_steps
    refine withRest fun NpE => ?_
    dsimp only
    rename News g' _ _ _ => N6
    refine hret _ _ _ _ ⟨D, os, k, rfl, hos, rfl, neAll_of fun q hq e => ?_⟩ (by assumption) (newsCons (by assumption) (.head _) NpE)
    have h1 := hPg q hq
    rw [e, (N6 _ (.head _)).2.2] at h1
    cases h1
theorem octets_k (w : World) (R : Addr) (n : Nat) (vs : List Value) (cols : List (Int × Int × Int × Int)) (news) (hR : (R, listOf vs.toArray n) ∈ news) (hrow : RowAt news vs cols) (hd9 : ∀ c ∈ cols, Drawn c.1 c.2.1 c.2.2.1 c.2.2.2) (hlen : cols.length ≤ 8)
    {dp un : Nat} {gd : Option (List Code)} {cn : Str} {cs : Scope} {a' : Addr} {ccd : Value} {cl : List (Str × Addr)} {outer : List Env} {A₀ : Around} {base h₀ : Heap} {L : Addr} {m : Str → Option Value}
    {mean : ExcName → Option Value} {mg mb : Str → Option Value} {s : Shared} {Q E : Value → Shared → Prop}
    (B : Below A₀ base outer h₀) (F : Fr h₀ L s.heap m) (X : (hd.heap_1 w.params).In h₀) (N : News h₀ L s.heap news) (T : TopQ mean mg mb h₀) (hk : cs.kind = .function) (hd : dp + 3 < recursionLimit) (hu : un + 24 < cLine)
    (ret : ∀ D os k h' tk', IntsAre os (octetsL cols) → NeAll D news → Fr h₀ L h' m → News h₀ L h' ((D, listOf os.toArray k) :: news) → Q (.ref D) { s with heap := h', toks := tk' }) :
    wpAny (model Challenge.rw_xm0716_01.row.prog w) (ktrTop dp un gd cn cs L a' ccd cl outer) (call (.ref 136) [.ref R]) Q E s := by
  refine use_c (octets_c w R n vs cols news hR hrow hd9 hlen) B F X N T hk hd hu ?_
  rintro r n' h' tk' ⟨D, os, k, rfl, hos, rfl, hn⟩ F' N'
  exact ret D os k h' tk' hos hn F' N'
end Mine
end
section
open PySem PySem.W PySem.Calls PyProof.Rows
namespace Mine
theorem flush_XC9 : True := by
  w_top off
  trivial
open PySem.SeqAt in
theorem index_any {prog : Program} {w : World} {A : Around} {E : Value → Shared → Prop} {s : Shared} {h₀ : Heap} {L l : Addr} {news : List (Addr × Obj)} {vs : List Value} {ns : List Int} {k : Int} {t : Tok} {n : Nat} {Q : Value → Shared → Prop} (N : News h₀ L s.heap news) (hm : (l, listOf vs.toArray n) ∈ news) (hi : IntsAre vs ns)
    (hb : ns.length ≤ 1000) (hk : k ∈ ns) (h : Q (.int (ns.idxOf k : Nat) s.toks) { s with toks := s.toks + 1 }) :
    wpAny (model prog w) A (call (.builtin "list.index") [.ref l, .int k t]) Q E s := by
  have ho := N.get hm
  have hlen := hi.length
  have hj : ns.idxOf k < ns.length := List.idxOf_lt_length_iff.mpr hk
  refine call_meets PySem.F.slot_list_index ⟨_, ho, rfl⟩ PySem.F.entry_list_index (PySem.F.args_list_index_2 _ _)
    (list_indexAt l vs.toArray n none #[] (.int k t) (isInt k) (ns.idxOf k) (by simpa [hlen] using hj) (by omega) ?_ ?_) ⟨ho, fun y hy => (eq_isInt k t hi y (by simpa using hy)).at _ _, h⟩
  · show isInt k vs[ns.idxOf k] = true
    rw [isInt_at k hi _ (by omega) hj]
    simpa using List.getElem_idxOf hj
  · intro j hjs hlt
    show isInt k vs[j] = false
    rw [isInt_at k hi j (by simpa using hjs) (by omega)]
    exact ne_of_lt_idxOf hlt _
theorem minIdx {a b c M : Int} (h1 : M = a ∨ M = b ∨ M = c) : M ∈ [a, b, c] := by
  rcases h1 with h | h | h <;> subst h <;> simp
theorem beqT {x y : Int} (h : x = y) : (x == y) = true := by simpa using h
theorem beqF {x y : Int} (h : ¬ x = y) : (x == y) = false := by simpa using h
theorem nearestV_abs {l a sl x1 x2 x3 : Int} (e1 : x1 = if a - sl < 0 then -(a - sl) else a - sl) (e2 : x2 = if l - sl < 0 then -(l - sl) else l - sl) (e3 : x3 = if l + a - 2 * sl < 0 then -(l + a - 2 * sl) else l + a - 2 * sl) :
    nearestV l a sl = if x2 < x1 then (if x3 < x2 then sl else a) else (if x3 < x1 then sl else l) := by
  unfold nearestV
  rw [show l + a - sl - a = l - sl by omega, show l + a - sl - l = a - sl by omega, show l + a - sl - sl = l + a - 2 * sl by omega, e1, e2, e3]
theorem pick3 {l a sl : Int} {x1 x2 x3 M : Int} {t1 t2 t3 : Tok} {v : Value} (e1 : x1 = if a - sl < 0 then -(a - sl) else a - sl) (e2 : x2 = if l - sl < 0 then -(l - sl) else l - sl) (e3 : x3 = if l + a - 2 * sl < 0 then -(l + a - 2 * sl) else l + a - 2 * sl)
    (h1 : M = x1 ∨ M = x2 ∨ M = x3) (h2 : M ≤ x1 ∧ M ≤ x2 ∧ M ≤ x3) (hv : [Value.int l t1, Value.int a t2, Value.int sl t3][((([x1, x2, x3] : List Int).idxOf M : Nat) : Int).toNat]? = some v) : ∃ t, v = .int (nearestV l a sl) t := by
  rw [Int.toNat_natCast] at hv
  rw [nearestV_abs e1 e2 e3]
  clear e1 e2 e3
  obtain ⟨h2, h3, h4⟩ := h2
  by_cases c1 : x1 = M
  · rw [List.idxOf_cons, beqT c1] at hv
    subst c1
    rw [if_neg (Int.not_lt.mpr h3), if_neg (Int.not_lt.mpr h4)]
    exact ⟨t1, (Option.some.inj hv).symm⟩
  have l1 : M < x1 := Int.lt_iff_le_and_ne.mpr ⟨h2, fun e => c1 e.symm⟩
  by_cases c2 : x2 = M
  · rw [List.idxOf_cons, beqF c1, List.idxOf_cons, beqT c2] at hv
    subst c2
    rw [if_pos l1, if_neg (Int.not_lt.mpr h4)]
    exact ⟨t2, (Option.some.inj hv).symm⟩
  · have c3 : x3 = M := (h1.resolve_left fun e => c1 e.symm).resolve_left (fun e => c2 e.symm) |>.symm
    rw [List.idxOf_cons, beqF c1, List.idxOf_cons, beqF c2, List.idxOf_cons, beqT c3] at hv
    subst c3
    have l2 : x3 < x2 := Int.lt_iff_le_and_ne.mpr ⟨h3, fun e => c2 e.symm⟩
    rw [if_pos l2, if_pos l1, ite_self]
    exact ⟨t3, (Option.some.inj hv).symm⟩
local macro_rules | `(tactic| walk_at "subscriptTail") => `(tactic| (k_here; (with_reducible show wpAny _ _ (subscriptTail _ _ (Value.ref _) (Value.int (Nat.cast _) _)) _ _ _); refine Lock.of ?_))
theorem guesses_c (w : World) (l a sl : Int) (tl ta ts : Tok) (news) :
    Claims w 143 3 24 [.int l tl, .int a ta, .int sl ts] news (fun r news' => ∃ D os k, r = .ref D ∧ IntsAre os [0, l, a, (l + a).fdiv 2, nearestV l a sl] ∧ news' = (D, listOf os.toArray k) :: news ∧ NeAll D news) := by
  unfold Claims
  k_fill
  intro dp un gd cn cs a' ccd cl outer A₀ base h₀ L m mean mg mb s Q E B F X N T hk hd hu hret
  have Nn : News h₀ L s.heap [] := fun _ h => nomatch h
  have Np : News h₀ L s.heap news := N
  have hapP : ∀ q ∈ news, ∀ p ∈ ([] : List (Addr × Obj)), p.1 ≠ q.1 := fun _ _ _ h => nomatch h
  refine wpAny_call ?_
  k_dflt (refine' code_defH B F X Nn Np hapP T ?kA ?kF ?kK ?k6 ?k7 ?k8 ?k9 ?kB ?_ ?c2 ?c3 ?c4 ?c5; (case kA => exact rfl); (case kF => exact rfl); (case kK => assumption); (case k6 => k_is); (case k7 => k_is); (case k8 => ktr_room); (case k9 => exact BindsTo.of_eq rfl); (case c5 => decide); (case kB => exact locs rfl); (case c2 => exact rfl); (case c3 => exact rfl); (case c4 => exact rfl); k_whole; intro g' L' h' FG' F' N' B' X' T' hPg; (try dsimp only); (try k_fold))
  clear N Nn Np
  k_steps
  with_reducible rename Fr _ _ _ _ => F2
  with_reducible rename News _ _ _ _ => N2
  rename (_ ∨ _ ∨ _) => hM1
  rename (_ ≤ _ ∧ _ ≤ _ ∧ _ ≤ _) => hM2
  refine index_any N2 (by k_dflt k_mem) (.cons _ _ (.cons _ _ (.cons _ _ .nil))) (by show 3 ≤ 1000; decide) (minIdx hM1) ?_
  have hlt3 := List.idxOf_lt_length_iff.mpr (minIdx hM1)
  k_steps
  refine Lock.open ?_
  with_reducible rename Fr _ _ _ _ => F3
  with_reducible rename News _ _ _ _ => N3
  refine item_any (vs := [.int l _, .int a _, .int sl _]) N3 (by k_dflt k_mem) (Int.natCast_nonneg _) (by exact Int.ofNat_lt.mpr hlt3) (by show 3 ≤ 1000; decide) fun v hv ev => ?_
  obtain ⟨t9, rfl⟩ := pick3 rfl rfl rfl hM1 hM2 ev
  k_steps
  refine withRest fun NpE => ?_
  dsimp only
  rename News g' _ _ _ => N6
  refine hret _ _ _ _ ⟨_, _, _, rfl, .cons _ _ (.cons _ _ (.cons _ _ (.cons _ _ (.cons _ _ .nil)))), rfl, neAll_of fun q hq e => ?_⟩ (by assumption) (newsCons (by assumption) (.head _) NpE)
  have h1 := hPg q hq
  rw [e, (N6 _ (.head _)).2.2] at h1
  cases h1
theorem guesses_k {w : World} {l a sl : Int} {tl ta ts : Tok} {news : List (Addr × Obj)} {dp un : Nat} {gd : Option (List Code)} {cn : Str} {cs : Scope} {a' : Addr} {ccd : Value} {cl : List (Str × Addr)} {outer : List Env} {A₀ : Around} {base h₀ : Heap} {L : Addr} {m : Str → Option Value}
    {mean : ExcName → Option Value} {mg mb : Str → Option Value} {s : Shared} {Q E : Value → Shared → Prop}
    (B : Below A₀ base outer h₀) (F : Fr h₀ L s.heap m) (X : (hd.heap_1 w.params).In h₀) (N : News h₀ L s.heap news) (T : TopQ mean mg mb h₀) (hk : cs.kind = .function) (h1 : dp + 3 < recursionLimit) (h2 : un + 24 < cLine)
    (ret : ∀ D os k h' tk', IntsAre os [0, l, a, (l + a).fdiv 2, nearestV l a sl] → NeAll D news → Fr h₀ L h' m → News h₀ L h' ((D, listOf os.toArray k) :: news) → Q (.ref D) { s with heap := h', toks := tk' }) :
    wpAny (model Challenge.rw_xm0716_01.row.prog w) (ktrTop dp un gd cn cs L a' ccd cl outer) (call (.ref 143) [.int l tl, .int a ta, .int sl ts]) Q E s := by
  refine use_c (guesses_c w l a sl tl ta ts news) B F X N T hk h1 h2 ?_
  rintro r n' h' tk' ⟨D, os, k, rfl, h, rfl, hn⟩ F' N'
  exact ret D os k h' tk' h hn F' N'
end Mine
end
section
open PySem PySem.W PySem.Calls PyProof.Rows
namespace Mine
section
variable {prog : Program} {w : World} {A : Around} {s : Shared} {env : Env} {h₀ : Heap} {R : Result → Shared → Prop}
theorem code_forP {xi xc : Str} {pk pv pt : Pos} {x1 : Nat} {body : List Stmt} {I : Addr} {fp wr : List Addr} {n : Nat} {Pt : Nat → Array Value → Prop} {St : Nat → Heap → Prop} {Mid : Nat → Addr → Heap → Prop} {P2 : Nat → Value → Value → Prop} {m : Str → Option Value} {led : List (Addr × Obj)} (Inv : Nat → (Str → Option Value) → List (Addr × Obj) → Prop)
    (hh : A.handled = none) (W : WalksT prog w A I fp wr n Pt St Mid) (h2 : ∀ i vals, Pt i vals → ∃ v0 v1, vals = #[v0, v1] ∧ P2 i v0 v1) (hxi : env.kindOf xi = some .local) (hxc : env.kindOf xc = some .local) (hp : (env.scope.kind == .class || (env.scope.kind == .module && env.locals != env.globals)) = false)
    (hlive : ∀ i h, St i h → ∀ b ∈ wr, ∃ o, h.get? b = some o) (hLf : env.locals ∉ fp) (hwr : ∀ b ∈ wr, h₀.get? b = none)
    (X : ∀ b ∈ fp, b ∈ wr ∨ (∃ o, h₀.get? b = some o) ∨ ∃ o, ∀ j m' led', Inv j m' led' → (b, o) ∈ led')
    (hst : St 0 s.heap) (F : Fr h₀ env.locals s.heap m) (N : News h₀ env.locals s.heap led) (hoff : ∀ p ∈ led, p.1 ∉ wr) (h0 : Inv 0 m led)
    (turn : ∀ i v0 v1 m₁ led h tk own, i < n → P2 i v0 v1 → Inv i m₁ led → (∀ p ∈ led, ∀ q ∈ own, p.1 ≠ q.1) → Fr h₀ env.locals h (fun y => if y = xc then some v1 else if y = xi then some v0 else m₁ y) → News h₀ env.locals h (led ++ own) →
      wpAny (model prog w) A (execs body env) (TurnG h₀ env.locals own (Inv (i + 1)) { s with heap := h, toks := tk }) (fun _ _ => False) { s with heap := h, toks := tk })
    (done : ∀ h' tk m' led', Fr h₀ env.locals h' m' → News h₀ env.locals h' led' → Inv n m' led' → R (.ok .next) { s with heap := h', toks := tk }) :
    codeAny (model prog w) A (.forLoop (.Tuple [.Name xi pk, .Name xc pv] x1 pt) (.ref I) body [] env) R s := by
  have hLw : env.locals ∉ wr := fun h => hLf (W.sub _ h)
  have old : ∀ b o, h₀.get? b = some o → b ∉ wr := fun b o e hb => by rw [hwr b hb] at e; cases e
  refine codeAny_forLoop_any
    (fun k s' => ∃ h' tk m' led' i, s' = { s with heap := h', toks := tk } ∧ St i h' ∧ Fr h₀ env.locals h' m' ∧ News h₀ env.locals h' led' ∧ (∀ p ∈ led', p.1 ∉ wr) ∧ Inv i m' led' ∧ i ≤ n ∧ k = n + 1 - i) ?_ (n + 1)
    ⟨s.heap, s.toks, m, led, 0, rfl, hst, F, N, hoff, h0, Nat.zero_le _, rfl⟩
  rintro k s' ⟨H, tk, m', led', i, rfl, hst', F', N', hoff', hJ, hi, rfl⟩
  have next : ∀ h₁ : Heap, (∀ b o, b ∉ wr → H.get? b = some o → h₁.get? b = some o) → Fr h₀ env.locals h₁ m' ∧ News h₀ env.locals h₁ led' := fun h₁ hk₁ =>
    ⟨⟨F'.ns.at' fun o e => hk₁ _ o hLw e, fun b o e => hk₁ b o (old b o e) (F'.keep b o e), F'.above⟩, fun p hp => ⟨hk₁ _ _ (hoff' p hp) (N' p hp).1, (N' p hp).2⟩⟩
  by_cases hlt : i < n
  · refine W.item i _ _ _ hlt hst' fun T vals h₁ tk₁ hPt _ hT hMid hk₁ => ?_
    obtain ⟨v0, v1, rfl, hP2⟩ := h2 i vals hPt
    refine W.go _ x1 pt i T _ _ _ hMid fun h₂ hst₂ hk₂ => ?_
    have ht₂ : h₂.IsTuple T #[v0, v1] := hT.at fun o e => hk₂ T o (W.apart i T h₁ hMid) e
    refine wpAny_assign_Tuple hh ht₂ rfl rfl fun h₃ hx₃ => ?_
    replace hx₃ : Heap.ExtBut h₂.objs.size h₂ h₃ := hx₃
    have up₃ : ∀ b o, h₂.get? b = some o → h₃.get? b = some o := fun b o x => hx₃ b o (Nat.ne_of_lt (Heap.lt_size x)) x
    obtain ⟨F₃, N₃⟩ := next h₃ fun b o hb x => up₃ b o (hk₂ b o hb (hk₁ b o hb x))
    show wpAny _ A (do holding [v1] (assign (.Name xi pk) env v0); do holding [] (assign (.Name xc pv) env v1); pure ()) _ _ _
    refine wpAny_bind (wpAny_holding (wpAny_assign_Name (wpAny_storeName_local hxi F₃.ns (fun h₄ hn₄ hs₄ => ?_) hp)))
    replace hs₄ : Heap.SameBut env.locals h₃ h₄ := hs₄
    have F₄ := F₃.set hn₄ hs₄
    refine wpAny_bind (wpAny_holding (wpAny_assign_Name (wpAny_storeName_local hxc F₄.ns (fun h₅ hn₅ hs₅ => wpAny_pure ?_) hp)))
    replace hs₅ : Heap.SameBut env.locals h₄ h₅ := hs₅
    have F₅ := F₄.set hn₅ hs₅
    have N₅ : News h₀ env.locals h₅ led' := (N₃.set hs₄).set hs₅
    have hst₅ : St (i + 1) h₅ := W.frame _ _ _ hst₂ fun b hb o e => hs₅.extBut b o (fun q => hLf (q ▸ hb)) (hs₄.extBut b o (fun q => hLf (q ▸ hb)) (up₃ b o e))
    refine wpAny_mono (turn i v0 v1 m' led' h₅ _ (ownOf h₀ wr h₅) hlt hP2 hJ (fun p hp q hq e => hoff' p hp (e ▸ own_in hq)) F₅ (N₅.append (news_ownOf hLw))) (fun f s₃ h₆ => ?_) fun _ _ e => e.elim
    obtain ⟨rfl, h₄', tk₄, m₄, led₄, rfl, F₆, N₆, hne₆, hJ₆⟩ := h₆
    refine ⟨n + 1 - (i + 1), by omega, h₄', tk₄, m₄, led₄, i + 1, rfl, ?_, F₆, newsSub N₆ fun p hp => List.mem_append_left _ hp, ?_, hJ₆, hlt, rfl⟩
    · refine W.frame _ _ _ hst₅ fun b hb o e => ?_
      rcases X b hb with hx | ⟨o₀, hx⟩ | ⟨o₀, hx⟩
      · exact (N₆ _ (List.mem_append_right _ (mem_ownOf hx (hwr b hx) e))).1
      · have h1 := F₅.keep b o₀ hx
        rw [e] at h1
        cases h1
        exact F₆.keep b o hx
      · have h1 := (N₅ _ (hx _ _ _ hJ)).1
        rw [e] at h1
        cases h1
        exact (N₆ _ (List.mem_append_left _ (hx _ _ _ hJ₆))).1
    · intro p hp hb
      obtain ⟨o, e⟩ := hlive _ _ hst₅ p.1 hb
      exact hne₆ p hp _ (mem_ownOf hb (hwr _ hb) e) rfl
  · have hin : i = n := by omega
    subst hin
    refine W.done _ _ _ hst' fun h₁ tk₁ hk₁ => wpAny_execs_nil ?_
    obtain ⟨F₁, N₁⟩ := next h₁ hk₁
    exact done h₁ tk₁ m' led' F₁ N₁ hJ
/-- for xi, xc in enumerate(a list) -/
theorem code_enumL {xi xc : Str} {pk pv pt : Pos} {x1 : Nat} {body : List Stmt} {D : Addr} {vs : List Value} {m : Str → Option Value} {led : List (Addr × Obj)} {E : Value → Shared → Prop} (Inv : Nat → (Str → Option Value) → List (Addr × Obj) → Prop)
    (hh : A.handled = none) (hxi : env.kindOf xi = some .local) (hxc : env.kindOf xc = some .local) (hp : (env.scope.kind == .class || (env.scope.kind == .module && env.locals != env.globals)) = false)
    (hD : s.heap.IsList D vs.toArray) (hLD : D ≠ env.locals) (X : (∃ o, h₀.get? D = some o) ∨ ∃ o, ∀ j m' led', Inv j m' led' → (D, o) ∈ led')
    (F : Fr h₀ env.locals s.heap m) (N : News h₀ env.locals s.heap led) (h0 : Inv 0 m led)
    (turn : ∀ i t v m₁ led h tk own, i < vs.length → vs[i]? = some v → Inv i m₁ led → (∀ p ∈ led, ∀ q ∈ own, p.1 ≠ q.1) → Fr h₀ env.locals h (fun y => if y = xc then some v else if y = xi then some (.int i t) else m₁ y) → News h₀ env.locals h (led ++ own) →
      wpAny (model prog w) A (execs body env) (TurnG h₀ env.locals own (Inv (i + 1)) { s with heap := h, toks := tk }) (fun _ _ => False) { s with heap := h, toks := tk })
    (done : ∀ h' tk m' led', Fr h₀ env.locals h' m' → News h₀ env.locals h' led' → Inv vs.length m' led' → R (.ok .next) { s with heap := h', toks := tk }) :
    wpAny (model prog w) A (call (.type "enumerate") [.ref D]) (fun x s₁ => wpAny (model prog w) A (pyIter x) (fun it s₂ =>
      codeAny (model prog w) A (.forLoop (.Tuple [.Name xi pk, .Name xc pv] x1 pt) it body [] env) R s₂) E s₁) E s := by
  refine call_enumerate_list hD fun h' he hit hsz hk => ?_
  refine wpAny_pyIter_enum he ?_
  have hL := F.ns.lt
  have hlt : D < s.heap.objs.size := by obtain ⟨_, e, _⟩ := hD; exact Heap.lt_size e
  have W := WalksT.enumerateD (Draws.list (prog := prog) (w := w) (A := A.in1) hh s.heap.objs.size D (Nat.ne_of_lt hlt) vs.toArray) (s.heap.objs.size + 1) (Nat.ne_of_gt (Nat.lt_succ_self _)) (fun hm => by
    rcases List.mem_cons.mp hm with e | hm
    · exact absurd e (Nat.ne_of_gt (Nat.lt_succ_self _))
    · have e := List.mem_singleton.mp hm
      exact absurd (e ▸ hlt : s.heap.objs.size + 1 < s.heap.objs.size) (Nat.not_lt.mpr (Nat.le_succ _))) (by simp)
  have key : ∀ p ∈ led, p.1 < s.heap.objs.size := fun p hpi => Heap.lt_size (N p hpi).1
  have none_ : ∀ x, s.heap.objs.size ≤ x → h₀.get? x = none := fun x hx => by
    cases hq : h₀.get? x with
    | none => rfl
    | some o => exact absurd (Heap.lt_size (F.keep _ _ hq)) (Nat.not_lt.mpr hx)
  refine code_forP (s := { s with heap := h' }) (P2 := fun i v0 v1 => ∃ t, v0 = .int i t ∧ vs[i]? = some v1) Inv hh W ?_ hxi hxc hp ?_ ?_ ?_ ?_ ⟨⟨_, he⟩, hit, hD.at fun o e => hk _ _ e⟩ (F.keeps hk) (N.keeps hk) ?_ h0 ?_ ?_
  · rintro i vals ⟨t, x, hx, rfl⟩
    exact ⟨_, _, rfl, t, rfl, by simpa using hx⟩
  · rintro i h ⟨⟨old, he⟩, hit, _⟩ b hb
    rcases List.mem_cons.mp hb with e | hb
    · rw [e]; exact ⟨_, he⟩
    · rw [List.mem_singleton.mp hb]
      obtain ⟨o, ho, _⟩ := hit
      exact ⟨o, ho⟩
  · intro hm
    rcases List.mem_cons.mp hm with e | hm
    · exact absurd (e ▸ hL : s.heap.objs.size + 1 < s.heap.objs.size) (Nat.not_lt.mpr (Nat.le_succ _))
    rcases List.mem_cons.mp hm with e | hm
    · exact Nat.lt_irrefl _ (e ▸ hL)
    · exact hLD (List.mem_singleton.mp hm).symm
  · intro x hm
    exact none_ x (pair_ge hm)
  · intro b hb
    rcases List.mem_cons.mp hb with e | hb
    · exact .inl (by rw [e]; exact .head _)
    rcases List.mem_cons.mp hb with e | hb
    · exact .inl (by rw [e]; exact .tail _ (.head _))
    · rw [List.mem_singleton.mp hb]; exact .inr X
  · intro p hpi
    exact pair_ne (key p hpi)
  · rintro i v0 v1 m₁ led h tk own hi ⟨t, rfl, hv⟩ hJ hown F₁ N₁
    exact turn i t v1 m₁ led h tk own (by simpa using hi) hv hJ hown F₁ N₁
  · intro h' tk m' led' F' N' hJ
    exact done h' tk m' led' F' N' (by simpa using hJ)
end
end Mine
end
section
open PySem PySem.W PySem.Calls PyProof.Rows
namespace Mine
theorem flush_XC10 : True := by
  w_top off
  trivial
local macro_rules | `(tactic| walk_at "no such node") => `(tactic| skip)
local macro_rules | `(tactic| walk_at "call ref") => `(tactic| ((with_reducible show wpAny _ _ (call (Value.ref 88) [Value.ref _]) _ _ _); refine Lock.of ?_))
theorem straight_u (w : World) (t0 : Addr) (n : Nat) (r g b al : Int) (tr tg tb ta : Tok) (news) (hT : (t0, tupO [.int r tr, .int g tg, .int b tb, .int al ta] n) ∈ news) (hd : Drawn r g b al) :
    Claims w 88 3 24 [.ref t0] news (PostT news (straightV r al) (straightV g al) (straightV b al) al) := by
  intro dp un gd cn cs a' ccd cl outer A₀ base h₀ L m mean mg mb s Q E B F X N T hk hd' hu hret
  refine use_c (straight_c w t0 n r g b al tr tg tb ta news hd.r0 hd.g0 hd.b0 hd.a0 hd.r1 hd.g1 hd.b1 hd.a1) B F X (newsSub N fun p hp => ?_) T hk hd' hu ?_
  · rcases List.mem_cons.mp hp with e | hp
    · exact e ▸ hT
    · exact hp
  · rintro v n' h' tk' ⟨T', o, rfl, rfl, ho, hap⟩ F' N'
    refine hret _ _ _ _ ⟨T', o, rfl, rfl, ho, fun p hp => hap p (.tail _ hp)⟩ F' (newsSub N' fun p hp => ?_)
    rcases List.mem_cons.mp hp with e | hp
    · exact e ▸ .head _
    · exact .tail _ (.tail _ hp)
def colStr (c : Int × Int × Int × Int) : List Int := [straightV c.1 c.2.2.2, straightV c.2.1 c.2.2.2, straightV c.2.2.1 c.2.2.2, c.2.2.2]
def straightL (cols : List (Int × Int × Int × Int)) : List Int := cols.flatMap colStr
theorem straightL_len (cols : List (Int × Int × Int × Int)) : (straightL cols).length = 4 * cols.length := by
  induction cols with
  | nil => rfl
  | cons c r ih => show (colStr c ++ straightL r).length = _; rw [List.length_append, ih]; simp [colStr]; omega
def over1 (x : Str) (M m : Str → Option Value) : Prop := ∃ o : Option Value, m = fun z => if z = x then o else M z
theorem over1_refl {x : Str} {M : Str → Option Value} : over1 x M M := ⟨M x, by funext z; split <;> first | rfl | (subst_vars; rfl)⟩
theorem over1_step {x : Str} {M m : Str → Option Value} {o : Option Value} (h : over1 x M m) : over1 x M (fun z => if z = x then o else m z) := by
  obtain ⟨p, rfl⟩ := h
  refine ⟨o, ?_⟩
  funext z; (repeat' split) <;> first | rfl | simp_all
theorem straightV_in {p al : Int} (h0 : 0 ≤ p) (h1 : 0 ≤ al) : 0 ≤ straightV p al ∧ straightV p al < 256 := by
  unfold straightV
  split
  · omega
  · have := Int.fdiv_nonneg (a := 2 * 255 * p + al) (b := 2 * al) (by omega) (by omega)
    omega
theorem colStr_in {r g b al : Int} (d : Drawn r g b al) : ∀ n ∈ colStr (r, g, b, al), 0 ≤ n ∧ n < 256 := by
  intro n hn
  rcases List.mem_cons.mp hn with rfl | hn
  · exact straightV_in d.r0 d.a0
  rcases List.mem_cons.mp hn with rfl | hn
  · exact straightV_in d.g0 d.a0
  rcases List.mem_cons.mp hn with rfl | hn
  · exact straightV_in d.b0 d.a0
  rcases List.mem_cons.mp hn with rfl | hn
  · have := d.a0; have := d.a1; omega
  cases hn
def RowInv (ba : Addr) (news : List (Addr × Obj)) (cols : List (Int × Int × Int × Int)) (M : Str → Option Value) (i : Nat) (m : Str → Option Value) (led : List (Addr × Obj)) : Prop :=
  over1 (Str.ofString "colour") M m ∧ led = (ba, baOf (byteArr (straightL (cols.take i)))) :: news
theorem straight_row_c (w : World) (R : Addr) (n : Nat) (vs : List Value) (cols : List (Int × Int × Int × Int)) (news) (hR : (R, listOf vs.toArray n) ∈ news) (hrow : RowAt news vs cols) (hd9 : ∀ c ∈ cols, Drawn c.1 c.2.1 c.2.2.1 c.2.2.2) (hlen : cols.length ≤ 8) :
    ClaimsS w 95 5 40 [.ref R] news (fun r n => n = news ∧ ∃ t, r = .bytes (byteArr (straightL cols)) t) := by
  unfold ClaimsS
  k_fill
  intro dp un cn cs a' ccd cl outer A₀ base h₀ L m mean mg mb s Q E B F X N T hk hd hu hret
  refine ws_call ?_
  k_dflt (refine' cs_def ?k1 ?k2 ?k3 ?k4 ?k5 ?kA ?kF ?kK ?k6 ?k7 ?k8 ?k9 ?kB ?_ ?c2 ?c3 ?c4 ?c5; (case kA => exact rfl); (case kF => exact rfl); (case kK => assumption); (case k1 => k_asm); (case k2 => k_asm); (case k3 => k_asm); (case k4 => k_asm); (case k5 => k_asm); (case k6 => k_is); (case k7 => k_is); (case k8 => ktr_room); (case k9 => exact BindsTo.of_eq rfl); (case c5 => decide); (case kB => exact locs rfl); (case c2 => exact rfl); (case c3 => exact rfl); (case c4 => exact rfl); intro g' L' h' FG' F' N' B' X' T' hlt; (try dsimp only); (try k_fold))
  refine ws_execs_cons (ws_Assign_Name (ws_Call_Name ?_))
  k_steps
  refine ws_callWith_type0 (ba_newX rfl (by assumption) (by assumption) fun ba h1 F1 N1 hapN => ?_)
  dsimp only
  k_steps
  with_reducible rename Fr _ _ _ _ => F2
  with_reducible rename News _ _ _ _ => N2
  refine ws_execs_cons (ws_For ?_ fun _ => rfl)
  k_steps
  refine cs_forl (od := listOf vs.toArray n) (fun i m led => RowInv ba news cols _ i m led) rfl (N2.isList (.tail _ hR)) (N2.ne (.tail _ hR)) (.inr ⟨listOf vs.toArray n, ?_⟩) (.inl fun _ _ => rfl) F2 N2 ⟨over1_refl, rfl⟩ ?_ ?_
  · rintro j m' led' ⟨_, rfl⟩
    exact .tail _ hR
  · intro i v m₁ led h tk own hi hv hI hne F3 N3
    obtain ⟨T, o, c, rfl, hc, hT, t1, t2, t3, t4, kt, rfl⟩ := hrow.2 i v hv
    have dr := hd9 c (List.mem_of_getElem? hc)
    obtain ⟨cr, cg, cb, ca⟩ := c
    obtain ⟨⟨o1, rfl⟩, rfl⟩ := hI
    clear N2 F2
    k_steps
    with_reducible rename Fr _ _ _ _ => F4
    with_reducible rename News _ _ _ _ => N4
    refine ws_execs_cons (st_ba ba_slot_extend ba_type_extend F4 N4 rfl (.head _) rfl rfl (by decide) rfl rfl rfl rfl rfl ?_)
    refine ws_callWith_builtin ?_
    k_steps
    refine Lock.open ?_
    with_reducible rename Fr _ _ _ _ => F5
    with_reducible rename News _ _ _ _ => N5
    refine use_c (straight_u _ _ _ _ _ _ _ _ _ _ _ _ (.tail _ (List.mem_append_left _ hT)) dr) (by k_asm) F5 (by k_asm) N5 (by k_asm) rfl (by ktr_room) (by ktr_units) ?_
    rintro r9 n9 h9 tk9 ⟨T9, o9, rfl, rfl, ⟨u1, u2, u3, u4, k9, rfl⟩, hap9⟩ F9 N9
    dsimp only
    k_steps
    have ho1 : ∀ q ∈ own, q.1 ≠ ba := fun q hq => (hne _ (.head _) q hq).symm
    have N9' : News g' L' h9 ((ba, baOf (byteArr (straightL (cols.take i)))) :: (T9, tupO [.int (straightV cr ca) u1, .int (straightV cg ca) u2, .int (straightV cb ca) u3, .int ca u4] k9) :: (news ++ own)) := newsSub N9 fun p hp => by
      rcases List.mem_cons.mp hp with e | hp
      · exact e ▸ .tail _ (.head _)
      rcases List.mem_cons.mp hp with e | hp
      · exact e ▸ .head _
      · exact .tail _ (.tail _ hp)
    have hapA : ∀ q ∈ (T9, tupO [.int (straightV cr ca) u1, .int (straightV cg ca) u2, .int (straightV cb ca) u3, .int ca u4] k9) :: (news ++ own), q.1 ≠ ba := fun q hq => by
      rcases List.mem_cons.mp hq with e | hq
      · rw [e]; exact (hap9 _ (.head _)).symm
      rcases List.mem_append.mp hq with hq | hq
      · exact hapN q hq
      · exact ho1 q hq
    have hz8 := byteArr_size (straightL (cols.take i))
    have hl8 := straightL_len (cols.take i)
    rw [List.length_take] at hl8
    refine ba_extend_tupleX (ns := colStr (cr, cg, cb, ca)) rfl rfl F9 N9' hapA (N9'.isTup (.tail _ (.head _))) (hap9 _ (.head _)).symm (.cons _ _ (.cons _ _ (.cons _ _ (.cons _ _ .nil)))) (colStr_in dr) (by rw [hz8, hl8, sizeLine_eq]; simp only [colStr, List.length_cons, List.length_nil]; omega) fun h10 F10 N10 => ?_
    have e10 : byteArr (straightL (cols.take i)) ++ byteArr (colStr (cr, cg, cb, ca)) = byteArr (straightL (cols.take (i + 1))) := by
      rw [List.take_add_one, hc]
      simp [straightL, byteArr]
    rw [e10] at N10
    refine ⟨rfl, ws_execs_nil ⟨rfl, h10, _, _, (ba, baOf (byteArr (straightL (cols.take (i + 1))))) :: news, rfl, F10, newsSub N10 ?_, ?_, over1_step ⟨o1, rfl⟩, rfl⟩⟩
    · intro p hp
      rcases List.mem_cons.mp hp with e | hp
      · exact e ▸ .head _
      · exact .tail _ (.tail _ hp)
    · intro p hp q hq e
      rcases List.mem_cons.mp hp with e' | hp
      · rw [e'] at e; exact ho1 q hq e.symm
      · exact hne p (.tail _ hp) q hq e
  · intro h tk m' led' F3 N3 hI
    obtain ⟨⟨o1, rfl⟩, rfl⟩ := hI
    rw [hrow.1, List.take_length] at N3
    clear N2 F2
    refine ws_execs_any ?_
    k_steps
    have hz8 := byteArr_size (straightL cols)
    have hl8 := straightL_len cols
    refine bytes_baX N3 (.head _) (by rw [hz8, hl8, sizeLine_eq]; omega) fun t9 k9 => ?_
    k_steps
    with_reducible rename Fr _ _ _ _ => F5
    with_reducible rename News _ _ _ _ => N5
    exact hret _ _ _ _ ⟨rfl, _, rfl⟩ F5 (newsSub N5 fun p hp => .tail _ hp)
end Mine
end
section
open PySem PySem.W PySem.Calls PyProof.Rows
namespace Mine
section
variable {prog : Program} {w : World} {A : Around} {s : Shared} {env : Env} {h₀ : Heap} {R : Result → Shared → Prop}
/-- over a tuple -/
theorem cs_fort {target : Expr} {body : List Stmt} {D : Addr} {vs : List Value} {m : Str → Option Value} {led : List (Addr × Obj)} {E : Value → Shared → Prop} (Inv : Nat → (Str → Option Value) → List (Addr × Obj) → Prop)
    (hh : A.handled = none) (hD : s.heap.IsTuple D vs.toArray) (hLD : D ≠ env.locals) (X : (∃ o, h₀.get? D = some o) ∨ ∃ o, ∀ j m' led', Inv j m' led' → (D, o) ∈ led')
    (htg : ∀ it v, letOwnedTupleGo target it v = pure ())
    (F : Fr h₀ env.locals s.heap m) (N : News h₀ env.locals s.heap led) (h0 : Inv 0 m led)
    (turn : ∀ i v m₁ led h tk own, i < vs.length → vs[i]? = some v → Inv i m₁ led → (∀ p ∈ led, ∀ q ∈ own, p.1 ≠ q.1) → Fr h₀ env.locals h m₁ → News h₀ env.locals h (led ++ own) →
      wpAny (model prog w) A (assign target env v) (fun _ s₂ => WS (model prog w) A (execs body env) (TurnG h₀ env.locals own (Inv (i + 1)) { s with heap := h, toks := tk }) (fun _ _ => False) s₂) (fun _ _ => False) { s with heap := h, toks := tk })
    (done : ∀ h' tk m' led', Fr h₀ env.locals h' m' → News h₀ env.locals h' led' → Inv vs.length m' led' → R (.ok .next) { s with heap := h', toks := tk }) :
    wpAny (model prog w) A (pyIter (.ref D)) (fun it s₂ => CS (model prog w) A (.forLoop target it body [] env) R s₂) E s := by
  have hlt : D < s.heap.objs.size := by obtain ⟨_, e, _⟩ := hD; exact Heap.lt_size e
  refine wpAny_pyIter_tuple hD ?_
  have W := Walks.tuple (prog := prog) (w := w) hh s.heap.objs.size D (Nat.ne_of_lt hlt) vs.toArray
  have none_ : h₀.get? s.heap.objs.size = none := F.fresh
  refine cs_for (s := { s with heap := s.heap.push _ }) Inv W ?_ ?_ ?_ ?_ ?_ ⟨⟨_, Heap.get?_push_size _ rfl, rfl, rfl⟩, hD.push _⟩ (F.push _) (N.pushKeep _) ?_ h0 ?_ ?_
  · intro i s' v Q E hP hst hQ
    exact wpAny_of_eq (htg _ _) hQ
  · intro i h st b hb
    rw [List.mem_singleton.mp hb]
    obtain ⟨o, ho, _⟩ := st.1
    exact ⟨o, ho⟩
  · intro hm
    rcases List.mem_cons.mp hm with e | hm
    · exact Nat.lt_irrefl _ (e ▸ F.ns.lt)
    · exact hLD (List.mem_singleton.mp hm).symm
  · intro b hb
    rw [List.mem_singleton.mp hb]; exact none_
  · intro b hb
    rcases List.mem_cons.mp hb with rfl | hb
    · exact .inl (List.mem_singleton.mpr rfl)
    · rw [List.mem_singleton.mp hb]; exact .inr X
  · intro p hp hm
    exact Nat.ne_of_lt (Heap.lt_size (N p hp).1) (List.mem_singleton.mp hm)
  · intro i v m₁ led h tk own hi hP hJ _ hne F₁ N₁
    exact turn i v m₁ led h tk own (by simpa using hi) (by simpa using hP) hJ hne F₁ N₁
  · intro h' tk m' led' F' N' hJ
    exact done h' tk m' led' F' N' (by simpa using hJ)
end
theorem bInts_byteArr {ns : List Int} (h : ∀ n ∈ ns, 0 ≤ n ∧ n < 256) : KBw.bInts (byteArr ns) = ns := by
  unfold KBw.bInts byteArr
  rw [List.map_map]
  conv => rhs; rw [← List.map_id ns]
  refine List.map_congr_left fun n hn => ?_
  have h1 := h n hn
  show ((n.toNat.toUInt8.toNat : Nat) : Int) = n
  rw [Nat.toUInt8, UInt8.toNat_ofNat']
  omega
end Mine
end
section
open PySem PySem.W PySem.Calls PyProof.Rows
namespace Mine
theorem flush_XC11 : True := by
  w_top off
  trivial
def WK (ks ls : List Int) (k : Int) : Int := weightV (filtL k ks ls ks.length)
noncomputable def bestFrom (ks ls : List Int) : List Int → Int → Int
  | [], b => b
  | k :: r, b => bestFrom ks ls r (if WK ks ls k < WK ks ls b then k else b)
noncomputable def bestK (ks ls : List Int) : Int := bestFrom ks ls [1, 2, 3, 4] 0
theorem filtL_in (k : Int) (ks ls : List Int) (n : Nat) : ∀ x ∈ filtL k ks ls n, 0 ≤ x ∧ x < 256 := by
  intro x hx
  obtain ⟨i, _, rfl⟩ := List.mem_map.mp hx
  unfold filtAt
  omega
theorem weight_f (w : World) (k : Int) (ks ls : List Int) (hz : ks.length ≤ 1000) (tb : Tok) (news) : Claims w 76 2 16 [.bytes (byteArr (filtL k ks ls ks.length)) tb] news (PostI news (WK ks ls k)) :=
  weight_c w _ _ (bInts_byteArr (filtL_in k ks ls _)) (by rw [filtL_length]; exact hz) tb news
def BestInv (D : Addr) (oD : Obj) (ks ls : List Int) (news : List (Addr × Obj)) (M : Str → Option Value) (i : Nat) (m : Str → Option Value) (led : List (Addr × Obj)) : Prop :=
  ∃ (k : Int) (T : Addr) (tk t : Tok) (kk : Nat) (o1 o2 : Option Value), 0 ≤ k ∧ k ≤ 4 ∧ bestFrom ks ls ([1, 2, 3, 4].drop i) k = bestK ks ls ∧ NeAll T news ∧
    m = (fun z => if z = Str.ofString "best" then some (.ref T) else if z = Str.ofString "told" then o1 else if z = Str.ofString "kind" then o2 else M z) ∧
    led = (D, oD) :: (T, tupO [.int k tk, .bytes (byteArr (filtL k ks ls ks.length)) t] kk) :: news
theorem BestInv.elim {D : Addr} {oD : Obj} {ks ls : List Int} {news : List (Addr × Obj)} {M : Str → Option Value} {i : Nat} {m : Str → Option Value} {led : List (Addr × Obj)} {P9 : Prop} (h : BestInv D oD ks ls news M i m led) (kk9 : ∀ (k : Int) (T : Addr) (tk t : Tok) (kk : Nat) (o1 o2 : Option Value), 0 ≤ k → k ≤ 4 → bestFrom ks ls ([1, 2, 3, 4].drop i) k = bestK ks ls → NeAll T news → m = ((fun z => if z = Str.ofString "best" then some (.ref T) else if z = Str.ofString "told" then o1 else if z = Str.ofString "kind" then o2 else M z)) → led = ((D, oD) :: (T, tupO [.int k tk, .bytes (byteArr (filtL k ks ls ks.length)) t] kk) :: news) → P9) : P9 := by
  obtain ⟨k, T, tk, t, kk, o1, o2, q0, q1, q2, q3, r8, r9⟩ := h
  exact kk9 _ _ _ _ _ _ _ q0 q1 q2 q3 r8 r9
theorem BestInv.mem {D : Addr} {oD : Obj} {ks ls : List Int} {news : List (Addr × Obj)} {M : Str → Option Value} {i : Nat} {m : Str → Option Value} {led : List (Addr × Obj)} (h : BestInv D oD ks ls news M i m led) : (D, oD) ∈ led := by
  obtain ⟨_, _, _, _, _, _, _, _, _, _, _, _, rfl⟩ := h
  exact .head _
theorem BestInv.start {D : Addr} {oD : Obj} {ks ls : List Int} {news : List (Addr × Obj)} {M : Str → Option Value} {T : Addr} {tk t : Tok} {kk : Nat} (hM : M (Str.ofString "best") = some (.ref T)) (hT : ∀ p ∈ news, p.1 < T) :
    BestInv D oD ks ls news M 0 M ((D, oD) :: (T, tupO [.int 0 tk, .bytes (byteArr (filtL 0 ks ls ks.length)) t] kk) :: news) :=
  ⟨0, T, tk, t, kk, M (Str.ofString "told"), M (Str.ofString "kind"), by decide, by decide, rfl, neAll_of fun q hq => Nat.ne_of_lt (hT q hq), by funext z; (repeat' split) <;> first | rfl | (subst_vars; first | rfl | exact hM), rfl⟩
theorem bestTurn {h₀ h h' : Heap} {L D T : Addr} {oD : Obj} {ks ls : List Int} {news own all : List (Addr × Obj)} {M m' : Str → Option Value} {i : Nat} {s : Shared} {tk0 tk' : Nat} {k : Int} {tk t : Tok} {kk : Nat} {o1 o2 : Option Value}
    (hm : m' = fun z => if z = Str.ofString "best" then some (.ref T) else if z = Str.ofString "told" then o1 else if z = Str.ofString "kind" then o2 else M z)
    (hk0 : 0 ≤ k) (hk4 : k ≤ 4) (hbf : bestFrom ks ls ([1, 2, 3, 4].drop (i + 1)) k = bestK ks ls) (hneT : NeAll T news)
    (F : Fr h₀ L h' m') (N : News h₀ L h' all) (h1 : (D, oD) ∈ all) (h2 : (T, tupO [.int k tk, .bytes (byteArr (filtL k ks ls ks.length)) t] kk) ∈ all) (h3 : ∀ p ∈ news, p ∈ all) (h4 : ∀ p ∈ own, p ∈ all)
    (q1 : ∀ q ∈ own, D ≠ q.1) (q2 : ∀ q ∈ own, T ≠ q.1) (q3 : ∀ p ∈ news, ∀ q ∈ own, p.1 ≠ q.1) :
    TurnG h₀ L own (BestInv D oD ks ls news M (i + 1)) { s with heap := h, toks := tk0 } .next { s with heap := h', toks := tk' } := by
  refine ⟨rfl, h', tk', m', (D, oD) :: (T, tupO [.int k tk, .bytes (byteArr (filtL k ks ls ks.length)) t] kk) :: news, rfl, F, newsSub N fun p hp => ?_, ?_, k, T, tk, t, kk, o1, o2, hk0, hk4, hbf, hneT, hm, rfl⟩
  · rcases List.mem_append.mp hp with hp | hp
    · rcases List.mem_cons.mp hp with e | hp
      · exact e ▸ h1
      rcases List.mem_cons.mp hp with e | hp
      · exact e ▸ h2
      · exact h3 p hp
    · exact h4 p hp
  · intro p hp q hq
    rcases List.mem_cons.mp hp with e | hp
    · rw [e]; exact q1 q hq
    rcases List.mem_cons.mp hp with e | hp
    · rw [e]; exact q2 q hq
    · exact q3 p hp q hq
theorem mapKeep {M : Str → Option Value} {x a b o1 o2 : Option Value} : (fun z => if z = Str.ofString "told" then a else if z = Str.ofString "kind" then b else if z = Str.ofString "best" then x else if z = Str.ofString "told" then o1 else if z = Str.ofString "kind" then o2 else M z) =
    fun z => if z = Str.ofString "best" then x else if z = Str.ofString "told" then a else if z = Str.ofString "kind" then b else M z := by
  funext z
  by_cases c1 : z = Str.ofString "told"
  · subst c1; rfl
  by_cases c2 : z = Str.ofString "kind"
  · subst c2; rfl
  simp only [if_neg c1, if_neg c2]
theorem mapNew {M : Str → Option Value} {x y a b o1 o2 : Option Value} : (fun z => if z = Str.ofString "best" then y else if z = Str.ofString "told" then a else if z = Str.ofString "kind" then b else if z = Str.ofString "best" then x else if z = Str.ofString "told" then o1 else if z = Str.ofString "kind" then o2 else M z) =
    fun z => if z = Str.ofString "best" then y else if z = Str.ofString "told" then a else if z = Str.ofString "kind" then b else M z := by
  funext z
  by_cases c1 : z = Str.ofString "best"
  · subst c1; rfl
  by_cases c2 : z = Str.ofString "told"
  · subst c2; rfl
  by_cases c3 : z = Str.ofString "kind"
  · subst c3; rfl
  simp only [if_neg c1, if_neg c2, if_neg c3]
local macro_rules | `(tactic| walk_at "call ref") => `(tactic| (k_here; (with_reducible show wpAny _ _ (call (Value.ref 76) [Value.bytes _ _]) _ _ _); k_dflt (refine' use_cI (weight_f _ _ _ _ ?kz _ _) ?k1 ?k2 ?k3 ?k4 ?k5 ?kK ?kd ?ku ?_; (case k4 => k_asm); (case kz => omega); (case k1 => k_asm); (case k2 => k_asm); (case k3 => k_asm); (case k5 => k_asm); (case kK => first | exact rfl | assumption); (case kd => ktr_room); (case ku => ktr_units)); intro t9 h9 tk9 F9 N9; (try dsimp only); (try k_fold)))
theorem best_c (w : World) (b ab : Array UInt8) (ks ls : List Int) (hb : KBw.bInts b = ks) (ha : KBw.bInts ab = ls) (tb ta t4 : Tok) (news) (hab : ks.length ≤ ls.length) (hz : ls.length ≤ 1000) :
    ClaimsS w 83 6 60 [.bytes b tb, .bytes ab ta, .int 4 t4] news (fun r n => ∃ T tk t k, r = .ref T ∧ n = (T, tupO [.int (bestK ks ls) tk, .bytes (byteArr (filtL (bestK ks ls) ks ls ks.length)) t] k) :: news ∧ NeAll T news) := by
  unfold ClaimsS
  k_fill
  intro dp un cn cs a' ccd cl outer A₀ base h₀ L m mean mg mb s Q E B F X N T hk hd hu hret
  refine ws_call ?_
  k_dflt (refine' cs_def ?k1 ?k2 ?k3 ?k4 ?k5 ?kA ?kF ?kK ?k6 ?k7 ?k8 ?k9 ?kB ?_ ?c2 ?c3 ?c4 ?c5; (case kA => exact rfl); (case kF => exact rfl); (case kK => assumption); (case k1 => k_asm); (case k2 => k_asm); (case k3 => k_asm); (case k4 => k_asm); (case k5 => k_asm); (case k6 => k_is); (case k7 => k_is); (case k8 => ktr_room); (case k9 => exact BindsTo.of_eq rfl); (case c5 => decide); (case kB => exact locs rfl); (case c2 => exact rfl); (case c3 => exact rfl); (case c4 => exact rfl); intro g' L' h' FG' F' N' B' X' T' hlt; (try dsimp only); (try k_fold))
  refine ws_execs_cons (ws_Assign_Name (ws_Tuple (ws_spliced_cons (ws ?_))))
  change wpAny _ _ (eval _ _) _ _ _
  k_steps
  refine ws_spliced_cons ?_
  change WS _ _ (eval (PySem.Expr.Call _ _ _ _) _) _ _ _
  refine ws_Call_Name ?_
  k_steps
  refine ws_callWith_K (K := Mine.hd.heap_1 w.params) (by k_is) ?_
  k_steps
  with_reducible rename Fr _ _ _ _ => F2
  with_reducible rename News _ _ _ _ => N2
  refine use_s (filtered_c _ 0 b ab ks ls hb ha _ _ _ _ _ (by decide) (by decide) hab hz) (by k_asm) F2 (by k_asm) N2 (by k_asm) rfl (by ktr_room) (by ktr_units) ?_
  rintro r9 n9 h9 tk9 ⟨rfl, t9, rfl⟩ F9 N9
  clear F2 N2
  refine ws_spliced_nil ?_
  dsimp only
  k_steps
  with_reducible rename Fr _ _ _ _ => F2
  with_reducible rename News _ _ _ _ => N2
  refine ws_execs_cons (ws_For ?_ fun _ => rfl)
  k_steps
  with_reducible rename Fr _ _ _ _ => F2
  with_reducible rename News _ _ _ _ => N2
  refine cs_fort (fun i m led => BestInv _ _ ks ls n9 _ i m led) rfl (N2.isTup (.head _)) (N2.ne (.head _)) (.inr ⟨_, fun _ _ _ hI => BestInv.mem hI⟩) (fun _ _ => rfl) F2 N2 (BestInv.start rfl (by assumption)) ?_ ?_
  · intro i v m₁ led h tk own hi hv hI
    refine BestInv.elim hI ?_
    clear hI
    intro k T9 tk9' t9' kk o1 o2 hk0 hk4 hbf hneT em el
    subst em
    subst el
    intro hne F3 N3
    obtain ⟨tv, rfl, hdr⟩ : ∃ tv, v = .int ((i : Int) + 1) tv ∧ ([1, 2, 3, 4] : List Int).drop i = ((i : Int) + 1) :: ([1, 2, 3, 4] : List Int).drop (i + 1) := by
      match i, hi, hv with
      | 0, _, hv => exact ⟨_, (Option.some.inj hv).symm, rfl⟩
      | 1, _, hv => exact ⟨_, (Option.some.inj hv).symm, rfl⟩
      | 2, _, hv => exact ⟨_, (Option.some.inj hv).symm, rfl⟩
      | 3, _, hv => exact ⟨_, (Option.some.inj hv).symm, rfl⟩
    clear N2 F2
    k_steps
    refine ws_execs_cons (ws_Assign_Name (ws_Call_Name ?_))
    k_steps
    refine ws_callWith_K (K := Mine.hd.heap_1 w.params) (by k_is) ?_
    k_steps
    with_reducible rename Fr _ _ _ _ => F2
    with_reducible rename News _ _ _ _ => N2
    have hi4 : i < 4 := hi
    refine use_s (filtered_c _ _ b ab ks ls hb ha _ _ _ _ _ (by omega) (by omega) hab hz) (by k_asm) F2 (by k_asm) N2 (by k_asm) rfl (by ktr_room) (by ktr_units) ?_
    rintro r8 n8 h8 tk8 ⟨rfl, t8, rfl⟩ F8 N8
    clear F2 N2
    dsimp only
    k_steps
    refine ws_execs_any ?_
    k_steps
    all_goals (
      refine ws_execs_nil ?_
      with_reducible rename Fr _ _ _ _ => F5
      with_reducible rename News _ _ _ _ => N5)
    · rename (WK ks ls _ < WK ks ls _) => hw9
      rename (∀ p, p ∈ (_ :: (T9, _) :: n9 ++ own : List (Addr × Obj)) → p.1 < _) => lz
      refine bestTurn mapNew (by omega) (by omega) ?_ (neAll_of fun q hq => Nat.ne_of_lt (lz q (List.mem_append_left _ (.tail _ (.tail _ hq))))) F5 N5 (.tail _ (.head _)) (.head _) (fun p hp => .tail _ (List.mem_append_left _ (.tail _ (.tail _ hp)))) (fun p hp => .tail _ (List.mem_append_right _ hp)) (fun q hq => hne _ (.head _) q hq) (fun q hq => Nat.ne_of_gt (lz q (List.mem_append_right _ hq))) (fun p hp q hq => hne p (.tail _ (.tail _ hp)) q hq)
      rw [← hbf, hdr]
      show _ = bestFrom ks ls _ (if _ then _ else _)
      rw [if_pos hw9]
    · rename (¬ WK ks ls _ < WK ks ls _) => hw9
      refine bestTurn mapKeep hk0 hk4 ?_ hneT F5 N5 (.head _) (.tail _ (.head _)) (fun p hp => List.mem_append_left _ (.tail _ (.tail _ hp))) (fun p hp => List.mem_append_right _ hp) (fun q hq => hne _ (.head _) q hq) (fun q hq => hne _ (.tail _ (.head _)) q hq) (fun p hp q hq => hne p (.tail _ (.tail _ hp)) q hq)
      rw [← hbf, hdr]
      show _ = bestFrom ks ls _ (if _ then _ else _)
      rw [if_neg hw9]
  · intro h tk m' led' F3 N3 hI
    revert F3 N3
    refine BestInv.elim hI ?_
    clear hI
    intro k T9 tk9' t9' kk o1 o2 hk0 hk4 hbf hneT em el
    subst em
    subst el
    intro F3 N3
    obtain rfl : k = bestK ks ls := hbf
    clear N2 F2
    refine ws_execs_any ?_
    k_steps
    with_reducible rename Fr _ _ _ _ => F5
    with_reducible rename News _ _ _ _ => N5
    exact hret _ _ _ _ ⟨T9, _, _, _, rfl, rfl, hneT⟩ F5 (newsSub N5 fun p hp => .tail _ hp)
end Mine
end
section
open PySem PySem.W PySem.Calls PyProof.Rows
namespace Mine
section
variable {M : Model} {A : Around} {E : Value → Shared → Prop} {s : Shared} {env : Env}
theorem ws_Assign_swapped {elts : List Expr} {k : Nat} {tpos pos : Pos} {value : Expr} {names : List Str} {Q : Flow → Shared → Prop}
    (h : WS M A (eval value env) (fun v s₁ => wpAny M A (unpackItems v names.length none) (fun items s₂ =>
      wpAny M A (assignInOrder (names.reverse.map fun n => bindName env n) items.reverse) (fun _ => Q .next) E s₂) E s₁) E s)
    (hs : swapsWithSole [.Tuple elts k tpos] value pos.line env = pure false)
    (hw : swappedStores [.Tuple elts k tpos] value env = pure (some names)) :
    WS M A (exec (.Assign [.Tuple elts k tpos] value pos) env) Q E s := by
  rw [exec_Assign]
  refine ws_bindA (wpAny_standAt ?_)
  rw [hs]
  refine ws_bindA (wpAny_pure ?_)
  rw [if_neg (by decide)]
  refine ws_bind (ws_mono h (fun v s₁ h₁ => ?_) fun _ _ x => x)
  rw [hw]
  refine ws_bindA (wpAny_pure ?_)
  show WS M A (do rule "assign.swapped-stores"; let items ← unpackItems v names.length none; assignInOrder (names.reverse.map fun n => bindName env n) items.reverse; pure .next) Q E s₁
  exact ws (wpAny_bind (wpAny_rule (wpAny_bind (wpAny_mono h₁ (fun items s₂ h₂ => wpAny_bind (wpAny_mono h₂ (fun _ _ x => wpAny_pure x) fun _ _ x => x)) fun _ _ x => x))))
end
end Mine
end
section
open PySem PySem.W PySem.Calls PyProof.Rows
namespace Mine
theorem flush_XC12 : True := by
  w_top off
  trivial
abbrev Cols := List (Int × Int × Int × Int)
def RowsAt (news : List (Addr × Obj)) (vs : List Value) (rws : List Cols) : Prop :=
  vs.length = rws.length ∧ ∀ (i : Nat) (v : Value), vs[i]? = some v → ∃ (R : Addr) (n : Nat) (us : List Value) (c : Cols), v = Value.ref R ∧ rws[i]? = some c ∧ (R, listOf us.toArray n) ∈ news ∧ RowAt news us c
noncomputable def rowsL (f : List Int → List Int → List Int) : List Cols → List Int → List Int
  | [], _ => []
  | r :: rest, a => f (straightL r) a ++ rowsL f rest (straightL r)
def kindL (k : Int) (o a : List Int) : List Int := k :: filtL k o a o.length
noncomputable def bestL (o a : List Int) : List Int := bestK o a :: filtL (bestK o a) o a o.length
theorem RowsAt.elim {news : List (Addr × Obj)} {vs : List Value} {rws : List Cols} {i : Nat} {v : Value} {G : Prop} (h : RowsAt news vs rws) (hv : vs[i]? = some v)
    (kk : ∀ R n us c, rws[i]? = some c → (R, listOf us.toArray n) ∈ news → RowAt news us c → v = .ref R → G) : G := by
  obtain ⟨R, n, us, c, e, h1, h2, h3⟩ := h.2 i v hv
  exact kk R n us c h1 h2 h3 e
def RowsInv (ba : Addr) (news : List (Addr × Obj)) (f : List Int → List Int → List Int) (rws : List Cols) (wd : Nat) (M : Str → Option Value) (i : Nat) (m : Str → Option Value) (led : List (Addr × Obj)) : Prop :=
  ∃ (acc al : List Int) (t : Tok) (o1 o2 o3 : Option Value), (∀ x ∈ al, 0 ≤ x ∧ x < 256) ∧ al.length = 4 * wd ∧ acc.length ≤ 100 * i ∧ acc ++ rowsL f (rws.drop i) al = rowsL f rws (List.replicate (4 * wd) 0) ∧
    m = (fun z => if z = Str.ofString "above" then some (.bytes (byteArr al) t) else if z = Str.ofString "told" then o1 else if z = Str.ofString "octets" then o2 else if z = Str.ofString "row" then o3 else M z) ∧
    led = (ba, baOf (byteArr acc)) :: news
theorem RowsInv.elim {ba : Addr} {news : List (Addr × Obj)} {f : List Int → List Int → List Int} {rws : List Cols} {wd : Nat} {M : Str → Option Value} {i : Nat} {m : Str → Option Value} {led : List (Addr × Obj)} {P9 : Prop} (h : RowsInv ba news f rws wd M i m led) (kk9 : ∀ (acc al : List Int) (t : Tok) (o1 o2 o3 : Option Value), (∀ x ∈ al, 0 ≤ x ∧ x < 256) → al.length = 4 * wd → acc.length ≤ 100 * i → acc ++ rowsL f (rws.drop i) al = rowsL f rws (List.replicate (4 * wd) 0) → m = ((fun z => if z = Str.ofString "above" then some (.bytes (byteArr al) t) else if z = Str.ofString "told" then o1 else if z = Str.ofString "octets" then o2 else if z = Str.ofString "row" then o3 else M z)) → led = ((ba, baOf (byteArr acc)) :: news) → P9) : P9 := by
  obtain ⟨acc, al, t, o1, o2, o3, q0, q1, q2, q3, r8, r9⟩ := h
  exact kk9 _ _ _ _ _ _ q0 q1 q2 q3 r8 r9
theorem RowsInv.start {ba : Addr} {news : List (Addr × Obj)} {f : List Int → List Int → List Int} {rws : List Cols} {wd : Nat} {M : Str → Option Value} {t : Tok} (hM : M (Str.ofString "above") = some (.bytes (byteArr (List.replicate (4 * wd) 0)) t)) :
    RowsInv ba news f rws wd M 0 M ((ba, baOf (byteArr [])) :: news) :=
  ⟨[], List.replicate (4 * wd) 0, t, M (Str.ofString "told"), M (Str.ofString "octets"), M (Str.ofString "row"), (fun x hx => by rw [List.eq_of_mem_replicate hx]; decide), List.length_replicate, Nat.zero_le _, rfl,
    by funext z; (repeat' split) <;> first | rfl | (subst_vars; first | rfl | exact hM), rfl⟩
theorem RowsInv.mem {ba : Addr} {news : List (Addr × Obj)} {f : List Int → List Int → List Int} {rws : List Cols} {wd : Nat} {M : Str → Option Value} {i : Nat} {m : Str → Option Value} {led : List (Addr × Obj)} (h : RowsInv ba news f rws wd M i m led) {p : Addr × Obj} (hp : p ∈ news) : p ∈ led := by
  obtain ⟨_, _, _, _, _, _, _, _, _, _, _, rfl⟩ := h
  exact .tail _ hp
theorem byteArr_zeros (n : Nat) : Array.replicate n (0 : UInt8) = byteArr (List.replicate n 0) := by
  unfold byteArr
  rw [List.map_replicate]
  rfl
theorem straightL_in {c : Cols} (hd : ∀ q ∈ c, Drawn q.1 q.2.1 q.2.2.1 q.2.2.2) : ∀ x ∈ straightL c, 0 ≤ x ∧ x < 256 := by
  intro x hx
  obtain ⟨q, hq, hx⟩ := List.mem_flatMap.mp hx
  exact colStr_in (hd q hq) x hx
theorem swapTop {h₀ h : Heap} {L : Addr} {p q : Addr × Obj} {a b : List (Addr × Obj)} (N : News h₀ L h (p :: q :: (a ++ b))) : News h₀ L h (q :: p :: (a ++ b)) := newsSub N fun x hx => by
  rcases List.mem_cons.mp hx with e | hx
  · exact e ▸ .tail _ (.head _)
  rcases List.mem_cons.mp hx with e | hx
  · exact e ▸ .head _
  · exact .tail _ (.tail _ hx)
theorem hapTop {ba D : Nat} {o' : Obj} {news own : List (Addr × Obj)} (lz : ba < D ∧ AllLt D (news ++ own)) (hapN : ∀ q ∈ news, q.1 ≠ ba) (ho : ∀ q ∈ own, q.1 ≠ ba) : ∀ q ∈ (D, o') :: (news ++ own), q.1 ≠ ba := fun q hq => by
  rcases List.mem_cons.mp hq with e | hq
  · rw [e]; exact Nat.ne_of_gt lz.1
  rcases List.mem_append.mp hq with hq | hq
  · exact hapN q hq
  · exact ho q hq
theorem rowObj {acc fs : List Int} {k : Int} : (byteArr acc).push k.toNat.toUInt8 ++ byteArr fs = byteArr (acc ++ k :: fs) := by simp [byteArr]
theorem mapRows {M : Str → Option Value} {a b c d a' b' c' d' : Option Value} : (fun z => if z = Str.ofString "above" then a else if z = Str.ofString "told" then b else if z = Str.ofString "octets" then c else if z = Str.ofString "row" then d else
      if z = Str.ofString "above" then a' else if z = Str.ofString "told" then b' else if z = Str.ofString "octets" then c' else if z = Str.ofString "row" then d' else M z) =
    fun z => if z = Str.ofString "above" then a else if z = Str.ofString "told" then b else if z = Str.ofString "octets" then c else if z = Str.ofString "row" then d else M z := by
  funext z
  by_cases c1 : z = Str.ofString "above"
  · simp only [if_pos c1]
  by_cases c2 : z = Str.ofString "told"
  · simp only [if_neg c1, if_pos c2]
  by_cases c3 : z = Str.ofString "octets"
  · simp only [if_neg c1, if_neg c2, if_pos c3]
  by_cases c4 : z = Str.ofString "row"
  · simp only [if_neg c1, if_neg c2, if_neg c3, if_pos c4]
  simp only [if_neg c1, if_neg c2, if_neg c3, if_neg c4]
theorem RowAt.mono {a b : List (Addr × Obj)} {vs : List Value} {c : Cols} (hs : ∀ p ∈ a, p ∈ b) (h : RowAt a vs c) : RowAt b vs c :=
  ⟨h.1, fun i v hv => let ⟨T, o, c, e1, e2, e3, e4⟩ := h.2 i v hv; ⟨T, o, c, e1, e2, hs _ e3, e4⟩⟩
theorem rows_c (w : World) (R : Addr) (n : Nat) (vs : List Value) (rws : List Cols) (news) (hR : (R, listOf vs.toArray n) ∈ news) (hrows : RowsAt news vs rws) (k : Int) (tk tw : Tok) (wd : Nat) (hw0 : 1 ≤ wd) (hw1 : wd ≤ 2) (hl : rws.length ≤ 8)
    (hwd : ∀ r ∈ rws, r.length = wd) (hdr : ∀ r ∈ rws, ∀ c ∈ r, Drawn c.1 c.2.1 c.2.2.1 c.2.2.2) (hk0 : 0 ≤ k) (hk4 : k ≤ 4) :
    ClaimsS w 103 10 100 [.ref R, .int wd tw, .int k tk] news (fun r n => n = news ∧ ∃ t, r = .bytes (byteArr (rowsL (kindL k) rws (List.replicate (4 * wd) 0))) t) := by
  unfold ClaimsS
  k_fill
  intro dp un cn cs a' ccd cl outer A₀ base h₀ L m mean mg mb s Q E B F X N T hk hd hu hret
  refine ws_call ?_
  k_dflt (refine' cs_def ?k1 ?k2 ?k3 ?k4 ?k5 ?kA ?kF ?kK ?k6 ?k7 ?k8 ?k9 ?kB ?_ ?c2 ?c3 ?c4 ?c5; (case kA => exact rfl); (case kF => exact rfl); (case kK => assumption); (case k1 => k_asm); (case k2 => k_asm); (case k3 => k_asm); (case k4 => k_asm); (case k5 => k_asm); (case k6 => k_is); (case k7 => k_is); (case k8 => ktr_room); (case k9 => exact binds_K (by k_in) rfl (by k_is) rfl rfl rfl); (case c5 => decide); (case kB => exact locs rfl); (case c2 => exact rfl); (case c3 => exact rfl); (case c4 => exact rfl); intro g' L' h' FG' F' N' B' X' T' hlt; (try dsimp only); (try k_fold))
  refine ws_execs_cons (ws_Assign_swapped ?_ rfl rfl)
  refine ws_Tuple (ws_spliced_cons ?_)
  change WS _ _ (eval (PySem.Expr.Call _ _ _ _) _) _ _ _
  refine ws_Call_Name ?_
  k_steps
  refine ws_callWith_type0 (ba_newX rfl (by assumption) (by assumption) fun ba h1 F1 N1 hapN => ?_)
  dsimp only
  refine ws_spliced_cons (ws ?_)
  change wpAny _ _ (eval _ _) _ _ _
  k_steps
  refine call_bytes_int (by omega) (by omega) fun t5 k5 => ?_
  refine ws_spliced_nil ?_
  rw [show ((4 : Int) * (wd : Int)).toNat = 4 * wd by omega, byteArr_zeros]
  dsimp only
  k_steps
  with_reducible rename Fr _ _ _ _ => F2
  with_reducible rename News _ _ _ _ => N2
  have N3 : News g' L' _ ((ba, baOf (byteArr [])) :: news) := newsSub N2 fun p hp => .tail _ hp
  clear N2
  refine ws_execs_cons (ws_For ?_ fun _ => rfl)
  k_steps
  with_reducible rename Fr _ _ _ _ => F2
  with_reducible rename News _ _ _ _ => N2
  refine cs_forl (od := listOf vs.toArray n) (fun i m led => RowsInv ba news (kindL k) rws wd _ i m led) rfl (N2.isList (.tail _ hR)) (N2.ne (.tail _ hR)) (.inr ⟨_, fun _ _ _ hI => hI.mem hR⟩) (.inl fun _ _ => rfl) F2 N2 (RowsInv.start rfl) ?_ ?_
  · intro i v m₁ led h tk own hi hv hI
    refine RowsAt.elim hrows hv ?_
    intro Ri ni us c hc hRi hrow ev
    subst ev
    refine RowsInv.elim hI ?_
    clear hI
    intro acc al ta o1 o2 o3 hal hall hacc hsum em el
    subst em
    subst el
    intro hne F3 N3
    have hcl := hwd c (List.mem_of_getElem? hc)
    have hcd := hdr c (List.mem_of_getElem? hc)
    clear N2 F2
    k_steps
    refine ws_execs_cons (ws_Assign_Name (ws_Call_Name ?_))
    k_steps
    refine ws_callWith_K (K := Mine.hd.heap_1 w.params) (by k_is) ?_
    k_steps
    with_reducible rename Fr _ _ _ _ => F2
    with_reducible rename News _ _ _ _ => N2
    refine use_s (straight_row_c w Ri ni us c _ (.tail _ (List.mem_append_left _ hRi)) (hrow.mono fun p hp => .tail _ (List.mem_append_left _ hp)) hcd (by omega)) (by k_asm) F2 (by k_asm) N2 (by k_asm) rfl (by ktr_room) (by ktr_units) ?_
    rintro r8 n8 h8 tk8 ⟨rfl, t8, rfl⟩ F8 N8
    clear F2 N2
    dsimp only
    k_steps
    refine ws_execs_cons (ws_If (ws ?_))
    k_steps
    refine ws_execs_cons (ws_Assign_Name (ws_Tuple (ws_spliced_cons (ws ?_))))
    change wpAny _ _ (eval _ _) _ _ _
    k_steps
    refine ws_spliced_cons ?_
    change WS _ _ (eval (PySem.Expr.Call _ _ _ _) _) _ _ _
    refine ws_Call_Name ?_
    k_steps
    refine ws_callWith_K (K := Mine.hd.heap_1 w.params) (by k_is) ?_
    k_steps
    with_reducible rename Fr _ _ _ _ => F2
    with_reducible rename News _ _ _ _ => N2
    have hsl := straightL_len c
    refine use_s (filtered_c _ k _ _ (straightL c) al (bInts_byteArr (straightL_in hcd)) (bInts_byteArr hal) _ _ _ _ _ hk0 hk4 (by omega) (by omega)) (by k_asm) F2 (by k_asm) N2 (by k_asm) rfl (by ktr_room) (by ktr_units) ?_
    rintro r9 n9 h9 tk9 ⟨rfl, t9, rfl⟩ F9 N9
    clear F2 N2
    refine ws_spliced_nil ?_
    dsimp only
    k_steps
    refine ws_execs_nil ?_
    dsimp only
    with_reducible rename Fr _ _ _ _ => F2
    with_reducible rename News _ _ _ _ => N2
    rename (_ < _ ∧ AllLt _ (news ++ own)) => lz
    have ho1 : ∀ q ∈ own, q.1 ≠ ba := fun q hq => (hne _ (.head _) q hq).symm
    have N4 := swapTop N2
    have hapA := fun o' => hapTop (o' := o') lz hapN ho1
    have hz8 := byteArr_size acc
    have hi8 : i < 8 := by have := hrows.1; omega
    refine ws_execs_cons (st_ba ba_slot_append ba_type_append F2 N4 rfl (.head _) rfl rfl (by decide) rfl rfl rfl rfl rfl ?_)
    refine ws_callWith_builtin ?_
    clear N2
    k_steps
    with_reducible rename Fr _ _ _ _ => F5
    with_reducible rename News _ _ _ _ => N5
    refine ba_appendX rfl F5 N5 (hapA _) (by omega) (by omega) (by rw [hz8, sizeLine_eq]; omega) fun h6 F6 N6 => ?_
    clear F5 N5
    refine ⟨rfl, ?_⟩
    refine ws_execs_cons (st_ba ba_slot_extend ba_type_extend F6 N6 rfl (.head _) rfl rfl (by decide) rfl rfl rfl rfl rfl ?_)
    refine ws_callWith_builtin ?_
    k_steps
    with_reducible rename Fr _ _ _ _ => F5
    with_reducible rename News _ _ _ _ => N5
    have hfl := filtL_length k (straightL c) al (straightL c).length
    refine ba_extendX rfl F5 N5 (hapA _) (by rw [Array.size_append, Array.size_push, hz8, byteArr_size, hfl, sizeLine_eq]; omega) fun h7 F7 N7 => ?_
    clear F5 N5
    refine ⟨rfl, ?_⟩
    refine ws_execs_any ?_
    k_steps
    refine ws_execs_nil ?_
    with_reducible rename Fr _ _ _ _ => F8
    with_reducible rename News _ _ _ _ => N8
    rw [rowObj] at N8
    have hd9 : rws.drop i = c :: rws.drop (i + 1) := by
      obtain ⟨hlt9, e9⟩ := List.getElem?_eq_some_iff.mp hc
      rw [← e9]; exact List.drop_eq_getElem_cons hlt9
    have hf9 := filtL_length k (straightL c) al (straightL c).length
    refine ⟨rfl, _, _, _, (ba, baOf (byteArr (acc ++ kindL k (straightL c) al))) :: news, rfl, F8, newsSub N8 ?_, ?_, acc ++ kindL k (straightL c) al, straightL c, _, _, _, _, straightL_in hcd, by omega, ?_, ?_, mapRows, rfl⟩
    · intro p hp
      rcases List.mem_cons.mp hp with e | hp
      · exact e ▸ .head _
      · exact .tail _ (.tail _ hp)
    · intro p hp q hq e
      rcases List.mem_cons.mp hp with e' | hp
      · rw [e'] at e; exact ho1 q hq e.symm
      · exact hne p (.tail _ hp) q hq e
    · rw [List.length_append]; unfold kindL; rw [List.length_cons, hf9]; omega
    · rw [← hsum, hd9, List.append_assoc]; rfl
  · intro h tk m' led' F3 N3 hI
    revert F3 N3
    refine RowsInv.elim hI ?_
    clear hI
    intro acc al ta o1 o2 o3 hal hall hacc hsum em el
    subst em
    subst el
    intro F3 N3
    rw [hrows.1, List.drop_length] at hsum
    have hz8 := byteArr_size acc
    have hacc' : acc = rowsL (kindL k) rws (List.replicate (4 * wd) 0) := by rw [← hsum]; exact (List.append_nil _).symm
    have hvl := hrows.1
    clear N2 F2
    refine ws_execs_any ?_
    k_steps
    refine bytes_baX N3 (.head _) (by rw [hz8, sizeLine_eq]; omega) fun t9 k9 => ?_
    k_steps
    with_reducible rename Fr _ _ _ _ => F5
    with_reducible rename News _ _ _ _ => N5
    rw [hacc']
    exact hret _ _ _ _ ⟨rfl, _, rfl⟩ F5 (newsSub N5 fun p hp => .tail _ hp)
end Mine
end
section
open PySem PySem.W PySem.Calls PyProof.Rows
namespace Mine
theorem flush_XC13 : True := by
  w_top off
  trivial
local macro_rules | `(tactic| walk_at "no such node") => `(tactic| skip)
theorem hapTop2 {ba D : Nat} {o' : Obj} {news own : List (Addr × Obj)} (lz : @Ne Nat ba D) (hapN : ∀ q ∈ news, q.1 ≠ ba) (ho : ∀ q ∈ own, q.1 ≠ ba) : ∀ q ∈ (D, o') :: (news ++ own), q.1 ≠ ba := fun q hq => by
  rcases List.mem_cons.mp hq with e | hq
  · rw [e]; exact lz.symm
  rcases List.mem_append.mp hq with hq | hq
  · exact hapN q hq
  · exact ho q hq
theorem bestK_in (ks ls : List Int) : 0 ≤ bestK ks ls ∧ bestK ks ls ≤ 4 := by
  unfold bestK bestFrom bestFrom bestFrom bestFrom bestFrom
  (repeat' split) <;> omega
theorem rowsN_c (w : World) (R : Addr) (n : Nat) (vs : List Value) (rws : List Cols) (news) (hR : (R, listOf vs.toArray n) ∈ news) (hrows : RowsAt news vs rws) (tw : Tok) (wd : Nat) (hw0 : 1 ≤ wd) (hw1 : wd ≤ 2) (hl : rws.length ≤ 8)
    (hwd : ∀ r ∈ rws, r.length = wd) (hdr : ∀ r ∈ rws, ∀ c ∈ r, Drawn c.1 c.2.1 c.2.2.1 c.2.2.2) :
    ClaimsS w 103 10 100 [.ref R, .int wd tw] news (fun r n => n = news ∧ ∃ t, r = .bytes (byteArr (rowsL bestL rws (List.replicate (4 * wd) 0))) t) := by
  unfold ClaimsS
  k_fill
  intro dp un cn cs a' ccd cl outer A₀ base h₀ L m mean mg mb s Q E B F X N T hk hd hu hret
  refine ws_call ?_
  k_dflt (refine' cs_def ?k1 ?k2 ?k3 ?k4 ?k5 ?kA ?kF ?kK ?k6 ?k7 ?k8 ?k9 ?kB ?_ ?c2 ?c3 ?c4 ?c5; (case kA => exact rfl); (case kF => exact rfl); (case kK => assumption); (case k1 => k_asm); (case k2 => k_asm); (case k3 => k_asm); (case k4 => k_asm); (case k5 => k_asm); (case k6 => k_is); (case k7 => k_is); (case k8 => ktr_room); (case k9 => exact binds_K (by k_in) rfl (by k_is) rfl rfl rfl); (case c5 => decide); (case kB => exact locs rfl); (case c2 => exact rfl); (case c3 => exact rfl); (case c4 => exact rfl); intro g' L' h' FG' F' N' B' X' T' hlt; (try dsimp only); (try k_fold))
  refine ws_execs_cons (ws_Assign_swapped ?_ rfl rfl)
  refine ws_Tuple (ws_spliced_cons ?_)
  change WS _ _ (eval (PySem.Expr.Call _ _ _ _) _) _ _ _
  refine ws_Call_Name ?_
  k_steps
  refine ws_callWith_type0 (ba_newX rfl (by assumption) (by assumption) fun ba h1 F1 N1 hapN => ?_)
  dsimp only
  refine ws_spliced_cons (ws ?_)
  change wpAny _ _ (eval _ _) _ _ _
  k_steps
  refine call_bytes_int (by omega) (by omega) fun t5 k5 => ?_
  refine ws_spliced_nil ?_
  rw [show ((4 : Int) * (wd : Int)).toNat = 4 * wd by omega, byteArr_zeros]
  dsimp only
  k_steps
  with_reducible rename Fr _ _ _ _ => F2
  with_reducible rename News _ _ _ _ => N2
  have N3 : News g' L' _ ((ba, baOf (byteArr [])) :: news) := newsSub N2 fun p hp => .tail _ hp
  clear N2
  refine ws_execs_cons (ws_For ?_ fun _ => rfl)
  k_steps
  with_reducible rename Fr _ _ _ _ => F2
  with_reducible rename News _ _ _ _ => N2
  refine cs_forl (od := listOf vs.toArray n) (fun i m led => RowsInv ba news bestL rws wd _ i m led) rfl (N2.isList (.tail _ hR)) (N2.ne (.tail _ hR)) (.inr ⟨_, fun _ _ _ hI => hI.mem hR⟩) (.inl fun _ _ => rfl) F2 N2 (RowsInv.start rfl) ?_ ?_
  · intro i v m₁ led h tk own hi hv hI
    refine RowsAt.elim hrows hv ?_
    intro Ri ni us c hc hRi hrow ev
    subst ev
    refine RowsInv.elim hI ?_
    clear hI
    intro acc al ta o1 o2 o3 hal hall hacc hsum em el
    subst em
    subst el
    intro hne F3 N3
    have hcl := hwd c (List.mem_of_getElem? hc)
    have hcd := hdr c (List.mem_of_getElem? hc)
    clear N2 F2
    k_steps
    refine ws_execs_cons (ws_Assign_Name (ws_Call_Name ?_))
    k_steps
    refine ws_callWith_K (K := Mine.hd.heap_1 w.params) (by k_is) ?_
    k_steps
    with_reducible rename Fr _ _ _ _ => F2
    with_reducible rename News _ _ _ _ => N2
    refine use_s (straight_row_c w Ri ni us c _ (.tail _ (List.mem_append_left _ hRi)) (hrow.mono fun p hp => .tail _ (List.mem_append_left _ hp)) hcd (by omega)) (by k_asm) F2 (by k_asm) N2 (by k_asm) rfl (by ktr_room) (by ktr_units) ?_
    rintro r8 n8 h8 tk8 ⟨rfl, t8, rfl⟩ F8 N8
    clear F2 N2
    dsimp only
    k_steps
    refine ws_execs_cons (ws_If (ws ?_))
    k_steps
    refine ws_execs_cons (ws_Assign_Name (ws_Call_Name ?_))
    k_steps
    refine ws_callWith_K (K := Mine.hd.heap_1 w.params) (by k_is) ?_
    k_steps
    with_reducible rename Fr _ _ _ _ => F2
    with_reducible rename News _ _ _ _ => N2
    have hsl := straightL_len c
    refine use_s (best_c _ _ _ (straightL c) al (bInts_byteArr (straightL_in hcd)) (bInts_byteArr hal) _ _ _ _ (by omega) (by omega)) (by k_asm) F2 (by k_asm) N2 (by k_asm) rfl (by ktr_room) (by ktr_units) ?_
    rintro r9 n9 h9 tk9 ⟨T9, u9, t9, k9, rfl, rfl, hneT⟩ F9 N9
    clear F2 N2
    dsimp only
    k_steps
    refine ws_execs_nil ?_
    dsimp only
    with_reducible rename Fr _ _ _ _ => F2
    with_reducible rename News _ _ _ _ => N2
    have hbk := bestK_in (straightL c) al
    have ho1 : ∀ q ∈ own, q.1 ≠ ba := fun q hq => (hne _ (.head _) q hq).symm
    have N4 := swapTop N2
    have hapA := fun o' => hapTop2 (o' := o') hneT.1 hapN ho1
    have hz8 := byteArr_size acc
    have hi8 : i < 8 := by have := hrows.1; omega
    refine ws_execs_cons (st_ba ba_slot_append ba_type_append F2 N4 rfl (.head _) rfl rfl (by decide) rfl rfl rfl rfl rfl ?_)
    refine ws_callWith_builtin ?_
    clear N2
    k_steps
    with_reducible rename Fr _ _ _ _ => F5
    with_reducible rename News _ _ _ _ => N5
    refine ba_appendX rfl F5 N5 (hapA _) (by omega) (by omega) (by rw [hz8, sizeLine_eq]; omega) fun h6 F6 N6 => ?_
    clear F5 N5
    refine ⟨rfl, ?_⟩
    refine ws_execs_cons (st_ba ba_slot_extend ba_type_extend F6 N6 rfl (.head _) rfl rfl (by decide) rfl rfl rfl rfl rfl ?_)
    refine ws_callWith_builtin ?_
    k_steps
    with_reducible rename Fr _ _ _ _ => F5
    with_reducible rename News _ _ _ _ => N5
    have hfl := filtL_length (bestK (straightL c) al) (straightL c) al (straightL c).length
    refine ba_extendX rfl F5 N5 (hapA _) (by rw [Array.size_append, Array.size_push, hz8, byteArr_size, hfl, sizeLine_eq]; omega) fun h7 F7 N7 => ?_
    clear F5 N5
    refine ⟨rfl, ?_⟩
    refine ws_execs_any ?_
    k_steps
    refine ws_execs_nil ?_
    with_reducible rename Fr _ _ _ _ => F8
    with_reducible rename News _ _ _ _ => N8
    rw [rowObj] at N8
    have hd9 : rws.drop i = c :: rws.drop (i + 1) := by
      obtain ⟨hlt9, e9⟩ := List.getElem?_eq_some_iff.mp hc
      rw [← e9]; exact List.drop_eq_getElem_cons hlt9
    have hf9 := filtL_length (bestK (straightL c) al) (straightL c) al (straightL c).length
    refine ⟨rfl, _, _, _, (ba, baOf (byteArr (acc ++ bestL (straightL c) al))) :: news, rfl, F8, newsSub N8 ?_, ?_, acc ++ bestL (straightL c) al, straightL c, _, _, _, _, straightL_in hcd, by omega, ?_, ?_, mapRows, rfl⟩
    · intro p hp
      rcases List.mem_cons.mp hp with e | hp
      · exact e ▸ .head _
      · exact .tail _ (.tail _ hp)
    · intro p hp q hq e
      rcases List.mem_cons.mp hp with e' | hp
      · rw [e'] at e; exact ho1 q hq e.symm
      · exact hne p (.tail _ hp) q hq e
    · rw [List.length_append]; unfold bestL; rw [List.length_cons, hf9]; omega
    · rw [← hsum, hd9, List.append_assoc]; rfl
  · intro h tk m' led' F3 N3 hI
    revert F3 N3
    refine RowsInv.elim hI ?_
    clear hI
    intro acc al ta o1 o2 o3 hal hall hacc hsum em el
    subst em
    subst el
    intro F3 N3
    rw [hrows.1, List.drop_length] at hsum
    have hz8 := byteArr_size acc
    have hacc' : acc = rowsL bestL rws (List.replicate (4 * wd) 0) := by rw [← hsum]; exact (List.append_nil _).symm
    have hvl := hrows.1
    clear N2 F2
    refine ws_execs_any ?_
    k_steps
    refine bytes_baX N3 (.head _) (by rw [hz8, sizeLine_eq]; omega) fun t9 k9 => ?_
    k_steps
    with_reducible rename Fr _ _ _ _ => F5
    with_reducible rename News _ _ _ _ => N5
    rw [hacc']
    exact hret _ _ _ _ ⟨rfl, _, rfl⟩ F5 (newsSub N5 fun p hp => .tail _ hp)
end Mine
end
section
open PySem PySem.W PySem.Calls PyProof.Rows
namespace Mine
theorem flush_XC14 : True := by
  w_top off
  trivial
/-- a contract that looks at what lies in the ground -/
abbrev ClaimsG (w : World) (f : Addr) (dd uu : Nat) (vs : List Value) (P : Heap → Prop) (news : List (Addr × Obj)) (Post : Value → List (Addr × Obj) → Prop) : Prop :=
  ∀ (dp un : Nat) (gd : Option (List Code)) (cn : Str) (cs : Scope) (a : Addr) (ccd : Value) (cl : List (Str × Addr)) (outer : List Env) (A₀ : Around) (base h₀ : Heap) (L : Addr) (m : Str → Option Value)
    (mean : ExcName → Option Value) (mg mb : Str → Option Value) (s : Shared) (Q E : Value → Shared → Prop),
    Below A₀ base outer h₀ → Fr h₀ L s.heap m → (hd.heap_1 w.params).In h₀ → News h₀ L s.heap news → TopQ mean mg mb h₀ → cs.kind = .function → dp + dd < recursionLimit → un + uu < cLine → P h₀ →
    (∀ r news' h' tk', Post r news' → Fr h₀ L h' m → News h₀ L h' news' → Q r { s with heap := h', toks := tk' }) →
    wpAny (model Challenge.rw_xm0716_01.row.prog w) (ktrTop dp un gd cn cs L a ccd cl outer) (call (.ref f) vs) Q E s
theorem ite01 {c : Prop} [Decidable c] : (0 : Int) ≤ if c then 1 else 0 := by split <;> decide
theorem retPool {h₀ h' : Heap} {L D : Addr} {m : Str → Option Value} {news : List (Addr × Obj)} {s : Shared} {Q : Value → Shared → Prop} {x y : Int} {tx ty : Tok} {n tk' : Nat}
    (hret : ∀ r news' h' tk', (∃ D x y tx ty n, r = Value.ref D ∧ 0 ≤ x ∧ 0 ≤ y ∧ news' = (D, intL x y tx ty n) :: news ∧ NeAll D news) → Fr h₀ L h' m → News h₀ L h' news' → Q r { s with heap := h', toks := tk' })
    (F : Fr h₀ L h' m) (N : News h₀ L h' ((D, intL x y tx ty n) :: news)) (lz : ∀ p ∈ news, p.1 < D) (hx : 0 ≤ x) (hy : 0 ≤ y) : Q (.ref D) { s with heap := h', toks := tk' } :=
  hret _ _ _ _ ⟨D, x, y, tx, ty, n, rfl, hx, hy, rfl, neAll_of fun q hq => Nat.ne_of_lt (lz q hq)⟩ F N
theorem pool_c (w : World) (S : Addr) (vs : List Value) (ks : List Int) (hv : IntsAre vs ks) (hlen : ks.length ≤ 63) (news) :
    ClaimsG w 110 3 24 [.ref S] (fun h => h.IsList S vs.toArray) news (fun r news' => ∃ D x y tx ty n, r = .ref D ∧ 0 ≤ x ∧ 0 ≤ y ∧ news' = (D, intL x y tx ty n) :: news ∧ NeAll D news) := by
  unfold ClaimsG
  k_fill
  intro dp un gd cn cs a' ccd cl outer A₀ base h₀ L m mean mg mb s Q E B F X N T hk hd hu hS hret
  refine wpAny_call ?_
  k_dflt ktr_enter
  rename Fr h₀ L _ m => FG9
  have hS' := FG9.lst hS
  k_steps
  all_goals (
    rename (∀ p, p ∈ news → p.1 < _) => lz
    refine retPool hret (by assumption) (by assumption) lz ?_ (fmodB _).1
    exact Int.mul_nonneg (by split <;> omega) ite01)
theorem pool_k (w : World) (S : Addr) (vs : List Value) (ks : List Int) (hv : IntsAre vs ks) (hlen : ks.length ≤ 63) (news)
    {dp un : Nat} {gd : Option (List Code)} {cn : Str} {cs : Scope} {a' : Addr} {ccd : Value} {cl : List (Str × Addr)} {outer : List Env} {A₀ : Around} {base h₀ : Heap} {L : Addr} {m : Str → Option Value}
    {mean : ExcName → Option Value} {mg mb : Str → Option Value} {s : Shared} {Q E : Value → Shared → Prop}
    (B : Below A₀ base outer h₀) (F : Fr h₀ L s.heap m) (X : (hd.heap_1 w.params).In h₀) (N : News h₀ L s.heap news) (T : TopQ mean mg mb h₀) (hk : cs.kind = .function) (hd : dp + 3 < recursionLimit) (hu : un + 24 < cLine)
    (hS : h₀.IsList S vs.toArray)
    (ret : ∀ D x y tx ty n h' tk', 0 ≤ x → 0 ≤ y → NeAll D news → Fr h₀ L h' m → News h₀ L h' ((D, intL x y tx ty n) :: news) → Q (.ref D) { s with heap := h', toks := tk' }) :
    wpAny (model Challenge.rw_xm0716_01.row.prog w) (ktrTop dp un gd cn cs L a' ccd cl outer) (call (.ref 110) [.ref S]) Q E s := by
  refine pool_c w S vs ks hv hlen news _ _ _ _ _ _ _ _ _ _ _ _ _ _ _ _ _ _ _ _ B F X N T hk hd hu hS ?_
  rintro r n' h' tk' ⟨D, x, y, tx, ty, n, rfl, hx, hy, rfl, hD⟩ F' N'
  exact ret D x y tx ty n h' tk' hx hy hD F' N'
end Mine
end
section
open PySem PySem.W PySem.Calls PyProof.Rows
namespace Mine
theorem fdiv_half {n a : Int} (ha : 0 < a) (hn : 0 ≤ n) : (2 * n + a).fdiv (2 * a) = n.fdiv a + (if a ≤ 2 * n.fmod a then 1 else 0) := by
  rw [Int.fdiv_eq_ediv_of_nonneg _ (by omega), Int.fdiv_eq_ediv_of_nonneg _ (by omega), Int.fmod_eq_emod_of_nonneg _ (by omega)]
  have h1 := Int.emod_nonneg n (Int.ne_of_gt ha)
  have h2 := Int.emod_lt_of_pos n ha
  have h3 := Int.mul_ediv_add_emod n a
  generalize n / a = q at *
  generalize n % a = r at *
  split
  · refine ((Int.ediv_emod_unique (r := 2 * r - a) (by omega)).mpr ⟨?_, by omega, by omega⟩).1
    rw [← h3, Int.mul_add, Int.mul_one, Int.mul_add, Int.mul_assoc]; omega
  · refine ((Int.ediv_emod_unique (r := 2 * r + a) (by omega)).mpr ⟨?_, by omega, by omega⟩).1
    rw [← h3, Int.add_zero, Int.mul_add, Int.mul_assoc]; omega
theorem straightV_oct {p a : Int} (h0 : 0 ≤ p) (h1 : p ≤ a) : straightV p a = octV p a := by
  unfold straightV octV
  split
  · rename_i h
    subst h
    have : p = 0 := by omega
    subst this
    rfl
  · have ha : 0 < a := by omega
    rw [Int.max_eq_right (by omega), show 2 * 255 * p + a = 2 * (255 * p) + a by omega, fdiv_half ha (by omega)]
    refine Int.min_eq_right ?_
    rw [← fdiv_half ha (by omega), Int.fdiv_eq_ediv_of_nonneg _ (by omega)]
    have : (2 * (255 * p) + a) / (2 * a) < 256 := Int.ediv_lt_of_lt_mul (by omega) (by omega)
    omega
theorem straightL_oct {cols : Cols} (h : ∀ c ∈ cols, Drawn c.1 c.2.1 c.2.2.1 c.2.2.2) : straightL cols = octetsL cols := by
  induction cols with
  | nil => rfl
  | cons c r ih =>
    have d := h c (.head _)
    show colStr c ++ straightL r = colOct c ++ octetsL r
    rw [ih fun q hq => h q (.tail _ hq)]
    unfold colStr colOct
    rw [straightV_oct d.r0 d.r1, straightV_oct d.g0 d.g1, straightV_oct d.b0 d.b1]
def Best (f : Int → Int) (n : Nat) (b : Int) : Prop := ∃ j : Nat, b = j ∧ j < n ∧ ∀ i : Nat, i < n → f j ≤ f i ∧ (i < j → f j < f i)
theorem Best.step {f : Int → Int} {n : Nat} {b : Int} (h : Best f n b) : Best f (n + 1) (if f n < f b then (n : Int) else b) := by
  obtain ⟨j, rfl, hj, hf⟩ := h
  split
  · rename_i hlt
    refine ⟨n, rfl, by omega, fun i hi => ?_⟩
    by_cases hin : i = n
    · subst hin; exact ⟨Int.le_refl _, fun h => absurd h (Nat.lt_irrefl _)⟩
    · have := (hf i (by omega)).1; exact ⟨by omega, fun _ => by omega⟩
  · refine ⟨j, rfl, by omega, fun i hi => ?_⟩
    by_cases hin : i = n
    · subst hin; exact ⟨by omega, fun h => by omega⟩
    · exact hf i (by omega)
theorem bestK_best (ks ls : List Int) : Best (WK ks ls) 5 (bestK ks ls) :=
  Best.step (n := 4) (Best.step (n := 3) (Best.step (n := 2) (Best.step (n := 1) ⟨0, rfl, by decide, fun i hi => by
    have : i = 0 := by omega
    subst this
    exact ⟨Int.le_refl _, fun h => absurd h (Nat.lt_irrefl _)⟩⟩)))
theorem idxOf_at {M : Int} : ∀ {l : List Int} {j : Nat}, l[j]? = some M → (∀ i, i < j → l[i]? ≠ some M) → l.idxOf M = j := by
  intro l
  induction l with
  | nil => intro j h; cases h
  | cons a r ih =>
    intro j h hn
    rw [List.idxOf_cons]
    cases j with
    | zero =>
      rw [show (a == M) = true from beq_iff_eq.mpr (Option.some.inj h)]
      rfl
    | succ j =>
      rw [show (a == M) = false from beq_eq_false_iff_ne.mpr fun e => hn 0 (Nat.succ_pos _) (congrArg some e)]
      exact congrArg (· + 1) (ih h fun i hi => hn (i + 1) (Nat.succ_lt_succ hi))
theorem five {P : Nat → Prop} (h0 : P 0) (h1 : P 1) (h2 : P 2) (h3 : P 3) (h4 : P 4) : ∀ i, i < 5 → P i
  | 0, _ => h0
  | 1, _ => h1
  | 2, _ => h2
  | 3, _ => h3
  | 4, _ => h4
theorem idxOf_best {f : Int → Int} {b M : Int} (h : Best f 5 b) (hm : M ∈ [f 0, f 1, f 2, f 3, f 4]) (hle : ∀ x ∈ [f 0, f 1, f 2, f 3, f 4], M ≤ x) : (([f 0, f 1, f 2, f 3, f 4].idxOf M : Nat) : Int) = b := by
  obtain ⟨j, rfl, hj, hf⟩ := h
  have hl : ∀ i : Nat, i < 5 → [f 0, f 1, f 2, f 3, f 4][i]? = some (f i) := five rfl rfl rfl rfl rfl
  have hbig : ∀ i : Nat, ¬ i < 5 → [f 0, f 1, f 2, f 3, f 4][i]? ≠ some M := fun i hi => by rw [List.getElem?_eq_none (Nat.le_of_not_lt hi)]; exact fun q => nomatch q
  generalize [f 0, f 1, f 2, f 3, f 4] = l at hm hle hl hbig ⊢
  obtain ⟨i, e⟩ := List.getElem?_of_mem hm
  have h1 : M ≤ f j := hle _ (List.mem_of_getElem? (hl j hj))
  have h2 : f j ≤ M := by
    by_cases hi : i < 5
    · rw [hl i hi] at e
      rw [← Option.some.inj e]
      exact (hf i hi).1
    · exact absurd e (hbig i hi)
  have hM : f j = M := Int.le_antisymm h2 h1
  refine congrArg Nat.cast (idxOf_at (hM ▸ hl j hj) fun i hij q => ?_)
  have hi5 := Nat.lt_trans hij hj
  rw [hl i hi5] at q
  have := (hf i hi5).2 hij
  rw [Option.some.inj q, hM] at this
  exact Int.lt_irrefl _ this
end Mine
end
section
open PySem PySem.W PySem.Calls PyProof.Rows
namespace Mine
theorem flush_XC15 : True := by
  w_top off
  trivial
local macro_rules | `(tactic| walk_at "execs cons") => `(tactic| ((with_reducible show wpAny _ _ (execs (Stmt.For _ _ _ _ _ :: _) _) _ _ _); refine Lock.of ?_))
local macro_rules | `(tactic| walk_at "call ref") => `(tactic| ((with_reducible show wpAny _ _ (call (Value.ref 143) [Value.int _ _, Value.int _ _, Value.int _ _]) _ _ _); refine Lock.of ?_))
theorem intsAre_get {vs : List Value} {ks : List Int} (hi : IntsAre vs ks) : ∀ {i : Nat} {v : Value}, vs[i]? = some v → ∃ t, v = .int (ks.getD i 0) t := by
  induction hi with
  | nil => intro i v h; simp at h
  | cons n t r ih =>
    intro i v h
    cases i with
    | zero => exact ⟨t, by simpa using h.symm⟩
    | succ i => simpa using ih (i := i) (by simpa using h)
theorem intsAre_elim {vs : List Value} {ks : List Int} {i : Nat} {v : Value} {motive : Value → Prop} (h : IntsAre vs ks) (hi : vs[i]? = some v) (kk : ∀ t, motive (.int (ks.getD i 0) t)) : motive v := by
  obtain ⟨t, rfl⟩ := intsAre_get h hi
  exact kk t
theorem item_gr {prog : Program} {w : World} {A : Around} {E : Value → Shared → Prop} {s : Shared} {h₀ : Heap} {L D : Addr} {m : Str → Option Value} {value slice : PySem.Expr} {i : Int} {u : Tok} {vs : List Value} {ks : List Int} {Q : Value → Shared → Prop} (F : Fr h₀ L s.heap m) (hl₀ : h₀.IsList D vs.toArray) (hi : IntsAre vs ks) (h0 : 0 ≤ i) (h1 : i < ks.length) (hs : ks.length ≤ 1000)
    (h : ∀ t, Q (.int (ks.getD i.toNat 0) t) s)
    (hb : subscripted slice false (.ref D) (.int i u) = operate [.ref D, .int i u] (getItem (.ref D) (.int i u)) := by with_unfolding_all rfl) :
    wpAny (model prog w) A (subscriptTail value slice (.ref D) (.int i u)) Q E s := by
  have hl := F.lst hl₀
  have hlen := hi.length
  have hj : i.toNat < vs.length := by omega
  have e : vs[i.toNat]? = some vs[i.toNat] := List.getElem?_eq_getElem hj
  obtain ⟨t, ht⟩ := intsAre_get hi e
  refine tail_any hl.typeIs slot_list_getitem.lookup (wpAny_getItem_list (x := vs[i.toNat]) hl h0 (by omega) (by simpa using e) ?_) hb
  rw [ht]; exact h t
def StLS (g : Heap) (L : Addr) (M : Str → Option Value) (led : List (Addr × Obj)) (P : Int → Int → Prop) (s : Shared) (f : Flow) (s' : Shared) : Prop :=
  f = .next ∧ ∃ h' tk' lv sv tl ts, P lv sv ∧ s' = { s with heap := h', toks := tk' } ∧ Fr g L h' (fun z => if z = Str.ofString "slant" then some (.int sv ts) else if z = Str.ofString "left" then some (.int lv tl) else M z) ∧ News g L h' led
theorem cutLS {prog : Program} {w : World} {A : Around} {E : Value → Shared → Prop} {s : Shared} {g : Heap} {L : Addr} {M : Str → Option Value} {led : List (Addr × Obj)} {env : Env} {st : Stmt} {rest : List Stmt} {Q : Flow → Shared → Prop} (F : Fr g L s.heap M) (N : News g L s.heap led) (P : Int → Int → Prop)
    (h1 : wpAny (model prog w) A (exec st env) (StLS g L M led P s) (fun _ _ => False) s)
    (h2 : ∀ h' tk' lv sv tl ts, P lv sv → Fr g L h' (fun z => if z = Str.ofString "slant" then some (.int sv ts) else if z = Str.ofString "left" then some (.int lv tl) else M z) → News g L h' led → wpAny (model prog w) A (execs rest env) Q E { s with heap := h', toks := tk' }) :
    wpAny (model prog w) A (execs (st :: rest) env) Q E s := by
  refine wpAny_execs_cons (wpAny_mono h1 ?_ fun _ _ e => e.elim)
  rintro f s' ⟨rfl, h', tk', lv, sv, tl, ts, hP, rfl, F', N'⟩
  exact h2 h' tk' lv sv tl ts hP F' N'
def ToldInv (D l0 l1 l2 l3 l4 : Addr) (ks ls : List Int) (M : Str → Option Value) (i : Nat) (m : Str → Option Value) (led : List (Addr × Obj)) : Prop :=
  ∃ (os0 os1 os2 os3 os4 : List Value) (k0 k1 k2 k3 k4 nd : Nat) (o1 o2 o3 o4 o5 o6 : Option Value), IntsAre os0 (filtL 0 ks ls i) ∧ IntsAre os1 (filtL 1 ks ls i) ∧ IntsAre os2 (filtL 2 ks ls i) ∧ IntsAre os3 (filtL 3 ks ls i) ∧ IntsAre os4 (filtL 4 ks ls i) ∧
    m = (fun z => if z = Str.ofString "guess_here" then o1 else if z = Str.ofString "kind" then o2 else if z = Str.ofString "slant" then o3 else if z = Str.ofString "left" then o4 else if z = Str.ofString "octet" then o5 else if z = Str.ofString "place" then o6 else M z) ∧
    led = [(D, listOf [.ref l0, .ref l1, .ref l2, .ref l3, .ref l4].toArray nd), (l4, listOf os4.toArray k4), (l3, listOf os3.toArray k3), (l2, listOf os2.toArray k2), (l1, listOf os1.toArray k1), (l0, listOf os0.toArray k0)]
theorem ToldInv.elim {D l0 l1 l2 l3 l4 : Addr} {ks ls : List Int} {M : Str → Option Value} {i : Nat} {m : Str → Option Value} {led : List (Addr × Obj)} {P9 : Prop} (h : ToldInv D l0 l1 l2 l3 l4 ks ls M i m led) (kk9 : ∀ (os0 os1 os2 os3 os4 : List Value) (k0 k1 k2 k3 k4 nd : Nat) (o1 o2 o3 o4 o5 o6 : Option Value), IntsAre os0 (filtL 0 ks ls i) → IntsAre os1 (filtL 1 ks ls i) → IntsAre os2 (filtL 2 ks ls i) → IntsAre os3 (filtL 3 ks ls i) → IntsAre os4 (filtL 4 ks ls i) → m = ((fun z => if z = Str.ofString "guess_here" then o1 else if z = Str.ofString "kind" then o2 else if z = Str.ofString "slant" then o3 else if z = Str.ofString "left" then o4 else if z = Str.ofString "octet" then o5 else if z = Str.ofString "place" then o6 else M z)) → led = ([(D, listOf [.ref l0, .ref l1, .ref l2, .ref l3, .ref l4].toArray nd), (l4, listOf os4.toArray k4), (l3, listOf os3.toArray k3), (l2, listOf os2.toArray k2), (l1, listOf os1.toArray k1), (l0, listOf os0.toArray k0)]) → P9) : P9 := by
  obtain ⟨os0, os1, os2, os3, os4, k0, k1, k2, k3, k4, nd, o1, o2, o3, o4, o5, o6, q0, q1, q2, q3, q4, r8, r9⟩ := h
  exact kk9 _ _ _ _ _ _ _ _ _ _ _ _ _ _ _ _ _ q0 q1 q2 q3 q4 r8 r9
theorem ToldInv.start {D l0 l1 l2 l3 l4 : Addr} {ks ls : List Int} {M : Str → Option Value} {k0 k1 k2 k3 k4 nd : Nat} :
    ToldInv D l0 l1 l2 l3 l4 ks ls M 0 M [(D, listOf [.ref l0, .ref l1, .ref l2, .ref l3, .ref l4].toArray nd), (l4, listOf ([] : List Value).toArray k4), (l3, listOf ([] : List Value).toArray k3), (l2, listOf ([] : List Value).toArray k2), (l1, listOf ([] : List Value).toArray k1), (l0, listOf ([] : List Value).toArray k0)] :=
  ⟨[], [], [], [], [], k0, k1, k2, k3, k4, nd, M (Str.ofString "guess_here"), M (Str.ofString "kind"), M (Str.ofString "slant"), M (Str.ofString "left"), M (Str.ofString "octet"), M (Str.ofString "place"), .nil, .nil, .nil, .nil, .nil,
    by funext z; (repeat' split) <;> first | rfl | (subst_vars; rfl), rfl⟩
def InInv (D l0 l1 l2 l3 l4 G : Addr) (gs : List Value) (kg : Nat) (ks ls : List Int) (i : Nat) (own : List (Addr × Obj)) (M : Str → Option Value) (j : Nat) (m : Str → Option Value) (led : List (Addr × Obj)) : Prop :=
  ∃ (os0 os1 os2 os3 os4 : List Value) (k0 k1 k2 k3 k4 nd : Nat) (o1 o2 : Option Value), IntsAre os0 (filtL 0 ks ls (i + if 0 < j then 1 else 0)) ∧ IntsAre os1 (filtL 1 ks ls (i + if 1 < j then 1 else 0)) ∧ IntsAre os2 (filtL 2 ks ls (i + if 2 < j then 1 else 0)) ∧ IntsAre os3 (filtL 3 ks ls (i + if 3 < j then 1 else 0)) ∧ IntsAre os4 (filtL 4 ks ls (i + if 4 < j then 1 else 0)) ∧
    m = (fun z => if z = Str.ofString "guess_here" then o1 else if z = Str.ofString "kind" then o2 else M z) ∧
    led = (G, listOf gs.toArray kg) :: (D, listOf [.ref l0, .ref l1, .ref l2, .ref l3, .ref l4].toArray nd) :: (l4, listOf os4.toArray k4) :: (l3, listOf os3.toArray k3) :: (l2, listOf os2.toArray k2) :: (l1, listOf os1.toArray k1) :: (l0, listOf os0.toArray k0) :: own
theorem InInv.elim {D l0 l1 l2 l3 l4 G : Addr} {gs : List Value} {kg : Nat} {ks ls : List Int} {i : Nat} {own : List (Addr × Obj)} {M : Str → Option Value} {j : Nat} {m : Str → Option Value} {led : List (Addr × Obj)} {P9 : Prop} (h : InInv D l0 l1 l2 l3 l4 G gs kg ks ls i own M j m led) (kk9 : ∀ (os0 os1 os2 os3 os4 : List Value) (k0 k1 k2 k3 k4 nd : Nat) (o1 o2 : Option Value), IntsAre os0 (filtL 0 ks ls (i + if 0 < j then 1 else 0)) → IntsAre os1 (filtL 1 ks ls (i + if 1 < j then 1 else 0)) → IntsAre os2 (filtL 2 ks ls (i + if 2 < j then 1 else 0)) → IntsAre os3 (filtL 3 ks ls (i + if 3 < j then 1 else 0)) → IntsAre os4 (filtL 4 ks ls (i + if 4 < j then 1 else 0)) → m = ((fun z => if z = Str.ofString "guess_here" then o1 else if z = Str.ofString "kind" then o2 else M z)) → led = ((G, listOf gs.toArray kg) :: (D, listOf [.ref l0, .ref l1, .ref l2, .ref l3, .ref l4].toArray nd) :: (l4, listOf os4.toArray k4) :: (l3, listOf os3.toArray k3) :: (l2, listOf os2.toArray k2) :: (l1, listOf os1.toArray k1) :: (l0, listOf os0.toArray k0) :: own) → P9) : P9 := by
  obtain ⟨os0, os1, os2, os3, os4, k0, k1, k2, k3, k4, nd, o1, o2, q0, q1, q2, q3, q4, r8, r9⟩ := h
  exact kk9 _ _ _ _ _ _ _ _ _ _ _ _ _ q0 q1 q2 q3 q4 r8 r9
theorem InInv.start {D l0 l1 l2 l3 l4 G : Addr} {gs : List Value} {kg : Nat} {ks ls : List Int} {i : Nat} {own : List (Addr × Obj)} {M : Str → Option Value} {os0 os1 os2 os3 os4 : List Value} {k0 k1 k2 k3 k4 nd : Nat} (i0 : IntsAre os0 (filtL 0 ks ls i)) (i1 : IntsAre os1 (filtL 1 ks ls i)) (i2 : IntsAre os2 (filtL 2 ks ls i)) (i3 : IntsAre os3 (filtL 3 ks ls i)) (i4 : IntsAre os4 (filtL 4 ks ls i)) :
    InInv D l0 l1 l2 l3 l4 G gs kg ks ls i own M 0 M ((G, listOf gs.toArray kg) :: (D, listOf [.ref l0, .ref l1, .ref l2, .ref l3, .ref l4].toArray nd) :: (l4, listOf os4.toArray k4) :: (l3, listOf os3.toArray k3) :: (l2, listOf os2.toArray k2) :: (l1, listOf os1.toArray k1) :: (l0, listOf os0.toArray k0) :: own) :=
  ⟨os0, os1, os2, os3, os4, k0, k1, k2, k3, k4, nd, M (Str.ofString "guess_here"), M (Str.ofString "kind"), i0, i1, i2, i3, i4, by funext z; (repeat' split) <;> first | rfl | (subst_vars; rfl), rfl⟩
theorem InInv.mem {D l0 l1 l2 l3 l4 G : Addr} {gs : List Value} {kg : Nat} {ks ls : List Int} {i : Nat} {own : List (Addr × Obj)} {M : Str → Option Value} {j : Nat} {m : Str → Option Value} {led : List (Addr × Obj)} (h : InInv D l0 l1 l2 l3 l4 G gs kg ks ls i own M j m led) : (G, listOf gs.toArray kg) ∈ led := by
  obtain ⟨_, _, _, _, _, _, _, _, _, _, _, _, _, _, _, _, _, _, _, rfl⟩ := h
  exact .head _
theorem farOf {l G : Addr} {o : Obj} {a own ownj rest : List (Addr × Obj)} (h1 : ∀ p ∈ a, ∀ q ∈ own, p.1 ≠ q.1) (h2 : ∀ p ∈ (G, o) :: rest, ∀ q ∈ ownj, p.1 ≠ q.1) {o' : Obj} (hm : (l, o') ∈ a) (hm2 : ∃ o2, (l, o2) ∈ rest) : ∀ p ∈ own ++ ownj, p.1 ≠ l := fun p hp => by
  rcases List.mem_append.mp hp with hp | hp
  · exact (h1 _ hm p hp).symm
  · obtain ⟨o2, hm2⟩ := hm2
    exact (h2 _ (.tail _ hm2) p hp).symm
theorem intsSnoc {os : List Value} {ks : List Int} (h : IntsAre os ks) (x : Int) (t : Tok) : IntsAre (os ++ [.int x t]) (ks ++ [x]) := by
  induction h with
  | nil => exact .cons _ _ .nil
  | cons n u r ih => exact .cons _ _ ih
theorem filtL_snoc (k : Int) (ks ls : List Int) (i : Nat) : filtL k ks ls (i + 1) = filtL k ks ls i ++ [filtAt k ks ls i] := by
  unfold filtL; rw [List.range_succ, List.map_append]; rfl
theorem told1 {os : List Value} {k g lv sv : Int} {t : Tok} {ks ls : List Int} {i : Nat} (h : IntsAre os (filtL k ks ls i)) (hlv : lv = if 4 ≤ i then ks.getD (i - 4) 0 else 0) (hsv : sv = if 4 ≤ i then ls.getD (i - 4) 0 else 0) (hg : guessV k lv (ls.getD i 0) sv = g) :
    IntsAre (os ++ [.int ((ks.getD i 0 - g).fmod 256) t]) (filtL k ks ls (i + 1)) := by
  rw [filtL_snoc]
  have e : filtAt k ks ls i = (ks.getD i 0 - g).fmod 256 := by
    rw [Int.fmod_eq_emod_of_nonneg _ (by decide)]
    unfold filtAt
    rw [← hlv, ← hsv, hg]
  rw [e]
  exact intsSnoc h _ _
theorem addrOf {a b : List (Addr × Obj)} {ownj : List (Addr × Obj)} (he : b.map (·.1) = a.map (·.1)) (h : ∀ p ∈ a, ∀ q ∈ ownj, p.1 ≠ q.1) : ∀ p ∈ b, ∀ q ∈ ownj, p.1 ≠ q.1 := fun p hp q hq => by
  have h1 : p.1 ∈ a.map (·.1) := he ▸ List.mem_map_of_mem hp
  obtain ⟨p', hp', e⟩ := List.mem_map.mp h1
  exact e ▸ h p' hp' q hq
theorem mapIn {M : Str → Option Value} {a b c d : Option Value} : (fun z => if z = Str.ofString "guess_here" then a else if z = Str.ofString "kind" then b else if z = Str.ofString "guess_here" then c else if z = Str.ofString "kind" then d else M z) =
    fun z => if z = Str.ofString "guess_here" then a else if z = Str.ofString "kind" then b else M z := by
  funext z
  by_cases c1 : z = Str.ofString "guess_here"
  · simp only [if_pos c1]
  by_cases c2 : z = Str.ofString "kind"
  · simp only [if_neg c1, if_pos c2]
  simp only [if_neg c1, if_neg c2]
theorem mapOut {M : Str → Option Value} {a b c d e f a' b' c' d' e' f' : Option Value} : (fun z => if z = Str.ofString "guess_here" then a else if z = Str.ofString "kind" then b else if z = Str.ofString "slant" then c else if z = Str.ofString "left" then d else if z = Str.ofString "octet" then e else if z = Str.ofString "place" then f else
      if z = Str.ofString "guess_here" then a' else if z = Str.ofString "kind" then b' else if z = Str.ofString "slant" then c' else if z = Str.ofString "left" then d' else if z = Str.ofString "octet" then e' else if z = Str.ofString "place" then f' else M z) =
    fun z => if z = Str.ofString "guess_here" then a else if z = Str.ofString "kind" then b else if z = Str.ofString "slant" then c else if z = Str.ofString "left" then d else if z = Str.ofString "octet" then e else if z = Str.ofString "place" then f else M z := by
  funext z
  by_cases c1 : z = Str.ofString "guess_here"
  · simp only [if_pos c1]
  by_cases c2 : z = Str.ofString "kind"
  · simp only [if_neg c1, if_pos c2]
  by_cases c3 : z = Str.ofString "slant"
  · simp only [if_neg c1, if_neg c2, if_pos c3]
  by_cases c4 : z = Str.ofString "left"
  · simp only [if_neg c1, if_neg c2, if_neg c3, if_pos c4]
  by_cases c5 : z = Str.ofString "octet"
  · simp only [if_neg c1, if_neg c2, if_neg c3, if_neg c4, if_pos c5]
  by_cases c6 : z = Str.ofString "place"
  · simp only [if_neg c1, if_neg c2, if_neg c3, if_neg c4, if_neg c5, if_pos c6]
  simp only [if_neg c1, if_neg c2, if_neg c3, if_neg c4, if_neg c5, if_neg c6]
theorem inEnd {g h' : Heap} {L D l0 l1 l2 l3 l4 G : Addr} {gs : List Value} {kg i j : Nat} {ks ls : List Int} {own ownj oldled : List (Addr × Obj)} {M : Str → Option Value} {s s' : Shared} {os0 os1 os2 os3 os4 : List Value} {k0 k1 k2 k3 k4 nd tk' : Nat} {a b c d : Option Value}
    (F : Fr g L h' (fun z => if z = Str.ofString "guess_here" then a else if z = Str.ofString "kind" then b else if z = Str.ofString "guess_here" then c else if z = Str.ofString "kind" then d else M z))
    (N : News g L h' ((G, listOf gs.toArray kg) :: (D, listOf [.ref l0, .ref l1, .ref l2, .ref l3, .ref l4].toArray nd) :: (l4, listOf os4.toArray k4) :: (l3, listOf os3.toArray k3) :: (l2, listOf os2.toArray k2) :: (l1, listOf os1.toArray k1) :: (l0, listOf os0.toArray k0) :: (own ++ ownj)))
    (i0 : IntsAre os0 (filtL 0 ks ls (i + if 0 < j + 1 then 1 else 0))) (i1 : IntsAre os1 (filtL 1 ks ls (i + if 1 < j + 1 then 1 else 0))) (i2 : IntsAre os2 (filtL 2 ks ls (i + if 2 < j + 1 then 1 else 0))) (i3 : IntsAre os3 (filtL 3 ks ls (i + if 3 < j + 1 then 1 else 0))) (i4 : IntsAre os4 (filtL 4 ks ls (i + if 4 < j + 1 then 1 else 0)))
    (hne : ∀ p ∈ oldled, ∀ q ∈ ownj, p.1 ≠ q.1) (he : G :: D :: l4 :: l3 :: l2 :: l1 :: l0 :: own.map (·.1) = oldled.map (·.1)) (hs : s' = { s with heap := h', toks := tk' }) :
    TurnG g L ownj (InInv D l0 l1 l2 l3 l4 G gs kg ks ls i own M (j + 1)) s .next s' :=
  ⟨rfl, h', tk', _, _, hs, F, N, addrOf (b := (G, _) :: (D, _) :: (l4, _) :: (l3, _) :: (l2, _) :: (l1, _) :: (l0, _) :: own) he hne, os0, os1, os2, os3, os4, k0, k1, k2, k3, k4, nd, a, b, i0, i1, i2, i3, i4, mapIn, rfl⟩
theorem outEnd {g h' : Heap} {L D l0 l1 l2 l3 l4 G : Addr} {gs : List Value} {kg i : Nat} {ks ls : List Int} {own oldled : List (Addr × Obj)} {M : Str → Option Value} {s s' : Shared} {os0 os1 os2 os3 os4 : List Value} {k0 k1 k2 k3 k4 nd tk' : Nat} {a b c d e f a' b' c' d' e' f' : Option Value}
    (F : Fr g L h' (fun z => if z = Str.ofString "guess_here" then a else if z = Str.ofString "kind" then b else if z = Str.ofString "slant" then c else if z = Str.ofString "left" then d else if z = Str.ofString "octet" then e else if z = Str.ofString "place" then f else
      if z = Str.ofString "guess_here" then a' else if z = Str.ofString "kind" then b' else if z = Str.ofString "slant" then c' else if z = Str.ofString "left" then d' else if z = Str.ofString "octet" then e' else if z = Str.ofString "place" then f' else M z))
    (N : News g L h' ((G, listOf gs.toArray kg) :: (D, listOf [.ref l0, .ref l1, .ref l2, .ref l3, .ref l4].toArray nd) :: (l4, listOf os4.toArray k4) :: (l3, listOf os3.toArray k3) :: (l2, listOf os2.toArray k2) :: (l1, listOf os1.toArray k1) :: (l0, listOf os0.toArray k0) :: own))
    (i0 : IntsAre os0 (filtL 0 ks ls (i + 1))) (i1 : IntsAre os1 (filtL 1 ks ls (i + 1))) (i2 : IntsAre os2 (filtL 2 ks ls (i + 1))) (i3 : IntsAre os3 (filtL 3 ks ls (i + 1))) (i4 : IntsAre os4 (filtL 4 ks ls (i + 1)))
    (hne : ∀ p ∈ oldled, ∀ q ∈ own, p.1 ≠ q.1) (he : [D, l4, l3, l2, l1, l0] = oldled.map (·.1)) (hs : s' = { s with heap := h', toks := tk' }) :
    TurnG g L own (ToldInv D l0 l1 l2 l3 l4 ks ls M (i + 1)) s .next s' :=
  ⟨rfl, h', tk', _, _, hs, F, newsSub N (fun p hp => .tail _ hp), addrOf (b := [(D, _), (l4, _), (l3, _), (l2, _), (l1, _), (l0, _)]) he hne, os0, os1, os2, os3, os4, k0, k1, k2, k3, k4, nd, _, _, _, _, _, _, i0, i1, i2, i3, i4, mapOut, rfl⟩
def ToldP (ks ls : List Int) (news : List (Addr × Obj)) (r : Value) (news' : List (Addr × Obj)) : Prop :=
  ∃ (D l0 l1 l2 l3 l4 : Addr) (os0 os1 os2 os3 os4 : List Value) (k0 k1 k2 k3 k4 nd : Nat), r = .ref D ∧ IntsAre os0 (filtL 0 ks ls ks.length) ∧ IntsAre os1 (filtL 1 ks ls ks.length) ∧ IntsAre os2 (filtL 2 ks ls ks.length) ∧ IntsAre os3 (filtL 3 ks ls ks.length) ∧ IntsAre os4 (filtL 4 ks ls ks.length) ∧
    news' = (D, listOf [.ref l0, .ref l1, .ref l2, .ref l3, .ref l4].toArray nd) :: (l4, listOf os4.toArray k4) :: (l3, listOf os3.toArray k3) :: (l2, listOf os2.toArray k2) :: (l1, listOf os1.toArray k1) :: (l0, listOf os0.toArray k0) :: news
theorem newsSix {h₀ h : Heap} {L : Addr} {a b c d e f : Addr × Obj} {news : List (Addr × Obj)} (N : News h₀ L h [a, b, c, d, e, f]) (M : News h₀ L h news) : News h₀ L h (a :: b :: c :: d :: e :: f :: news) := fun p hp => by
  rcases List.mem_append.mp (show p ∈ [a, b, c, d, e, f] ++ news from hp) with hp | hp
  · exact N p hp
  · exact M p hp
theorem told_c (w : World) (R Ab : Addr) (n1 n2 : Nat) (vs ws : List Value) (ks ls : List Int) (news) (hR : (R, listOf vs.toArray n1) ∈ news) (hA : (Ab, listOf ws.toArray n2) ∈ news) (hv : IntsAre vs ks) (hw : IntsAre ws ls) (hab : ks.length ≤ ls.length) (hz : ls.length ≤ 1000) :
    Claims w 150 6 60 [.ref R, .ref Ab] news (ToldP ks ls news) := by
  unfold Claims
  k_fill
  intro dp un gd cn cs a' ccd cl outer A₀ base h₀ L m mean mg mb s Q E B F X N T hk hd hu hret
  have Nn : News h₀ L s.heap [] := fun _ h => nomatch h
  have Np : News h₀ L s.heap news := N
  have hapP : ∀ q ∈ news, ∀ p ∈ ([] : List (Addr × Obj)), p.1 ≠ q.1 := fun _ _ _ h => nomatch h
  refine wpAny_call ?_
  k_dflt (refine' code_defH B F X Nn Np hapP T ?kA ?kF ?kK ?k6 ?k7 ?k8 ?k9 ?kB ?_ ?c2 ?c3 ?c4 ?c5; (case kA => exact rfl); (case kF => exact rfl); (case kK => assumption); (case k6 => k_is); (case k7 => k_is); (case k8 => ktr_room); (case k9 => exact BindsTo.of_eq rfl); (case c5 => decide); (case kB => exact locs rfl); (case c2 => exact rfl); (case c3 => exact rfl); (case c4 => exact rfl); k_whole; intro g' L' h' FG' F' N' B' X' T' hPg; (try dsimp only); (try k_fold))
  clear N Nn Np
  k_steps
  refine Lock.open ?_
  refine wpAny_execs_cons ?_
  refine wpAny_For ?_ (fun _ => rfl)
  k_steps
  with_reducible rename Fr _ _ _ _ => F2
  with_reducible rename News _ _ _ _ => N2
  have hgR := hPg _ hR
  have hgA := hPg _ hA
  have hRl : g'.IsList R vs.toArray := ⟨_, hgR, rfl, _, rfl⟩
  have hAl : g'.IsList Ab ws.toArray := ⟨_, hgA, rfl, _, rfl⟩
  have hvl := hv.length
  have hwl := hw.length
  refine code_enumL (fun i m led => ToldInv _ _ _ _ _ _ ks ls _ i m led) rfl rfl rfl rfl (F2.lst hRl) (Nat.ne_of_lt (Nat.lt_of_lt_of_le (Heap.lt_size hgR) F2.above)) (.inl ⟨_, hgR⟩) F2 N2 ToldInv.start ?_ ?_
  · intro i t v m₁ led h tk own hi hv9 hI
    refine ToldInv.elim hI ?_
    clear hI
    intro os0 os1 os2 os3 os4 k0 k1 k2 k3 k4 nd o1 o2 o3 o4 o5 o6 i0 i1 i2 i3 i4 em el
    subst em
    subst el
    obtain ⟨t9, rfl⟩ := intsAre_get hv hv9
    intro hne F3 N3
    clear N2 F2
    refine cutLS F3 N3 (fun lv sv => lv = (if 4 ≤ i then ks.getD (i-4) 0 else 0) ∧ sv = (if 4 ≤ i then ls.getD (i-4) 0 else 0)) ?_ ?_
    · k_steps
      all_goals (with_reducible rename Fr _ _ _ _ => F5)
      all_goals (with_reducible rename News _ _ _ _ => N5)
      · exact ⟨rfl, _, _, _, _, _, _, ⟨by rw [if_pos (by omega), show ((i : Int) - 4).toNat = i - 4 by omega], by rw [if_pos (by omega), show ((i : Int) - 4).toNat = i - 4 by omega]⟩, rfl, F5, newsSub N5 fun p hp => .tail _ hp⟩
      · exact ⟨rfl, _, _, _, _, _, _, ⟨by rw [if_neg (by omega)], by rw [if_neg (by omega)]⟩, rfl, F5, newsSub N5 fun p hp => .tail _ hp⟩
    · intro h5 tk5 lv sv tl ts hP F5 N5
      obtain ⟨hlv, hsv⟩ := hP
      clear F3 N3
      refine wpAny_execs_cons ?_
      refine wpAny_For ?_ (fun _ => rfl)
      k_steps
      refine Lock.open ?_
      with_reducible rename Fr _ _ _ _ => F6
      with_reducible rename News _ _ _ _ => N6
      refine guesses_k (by k_asm) F6 (by k_asm) N6 (by k_asm) rfl (by ktr_room) (by ktr_units) ?_
      intro G gs kg h9 tk9 hgs hG F9 N9
      rw [Int.toNat_natCast] at hgs
      dsimp only
      clear F6 N6
      k_steps
      have gD := hG.1
      have g4 := hG.2.1
      have g3 := hG.2.2.1
      have g2 := hG.2.2.2.1
      have g1 := hG.2.2.2.2.1
      have g0 := hG.2.2.2.2.2.1
      clear hG
      dsimp only at gD g4 g3 g2 g1 g0
      have N9' : News g' L' h9 ((G, listOf gs.toArray kg) :: (_ :: _ :: _ :: _ :: _ :: _ :: own)) := N9
      refine code_enumL (fun j m led => InInv _ _ _ _ _ _ G gs kg ks ls i own _ j m led) rfl rfl rfl rfl (N9.isList (.head _)) (N9.ne (.head _)) (.inr ⟨_, fun _ _ _ hI => InInv.mem hI⟩) F9 N9' (InInv.start i0 i1 i2 i3 i4) ?_ ?_
      · intro j tj v mj led hj tkj ownj hj5 hvj hI
        refine InInv.elim hI ?_
        clear hI
        intro os0 os1 os2 os3 os4 k0 k1 k2 k3 k4 nd o1 o2 j0 j1 j2 j3 j4 em el
        subst em
        subst el
        obtain ⟨t10, rfl⟩ := intsAre_get hgs hvj
        intro hnej Fj Nj
        have hgl := hgs.length
        clear F9 N9 N9' hvj
        have hj6 : j = 0 ∨ j = 1 ∨ j = 2 ∨ j = 3 ∨ j = 4 := by have : gs.length = 5 := hgl; omega
        clear hj5
        have Nj' : News g' L' hj (_ :: _ :: _ :: _ :: _ :: _ :: _ :: (own ++ ownj)) := Nj
        clear Nj
        have z0 : os0.length ≤ 1000 := by rw [j0.length, filtL_length]; split <;> omega
        have z1 : os1.length ≤ 1000 := by rw [j1.length, filtL_length]; split <;> omega
        have z2 : os2.length ≤ 1000 := by rw [j2.length, filtL_length]; split <;> omega
        have z3 : os3.length ≤ 1000 := by rw [j3.length, filtL_length]; split <;> omega
        have z4 : os4.length ≤ 1000 := by rw [j4.length, filtL_length]; split <;> omega
        have qj0 := farOf hne hnej (.tail _ (.tail _ (.tail _ (.tail _ (.tail _ (.head _)))))) ⟨_, .tail _ (.tail _ (.tail _ (.tail _ (.tail _ (.head _)))))⟩
        have qj1 := farOf hne hnej (.tail _ (.tail _ (.tail _ (.tail _ (.head _))))) ⟨_, .tail _ (.tail _ (.tail _ (.tail _ (.head _))))⟩
        have qj2 := farOf hne hnej (.tail _ (.tail _ (.tail _ (.head _)))) ⟨_, .tail _ (.tail _ (.tail _ (.head _)))⟩
        have qj3 := farOf hne hnej (.tail _ (.tail _ (.head _))) ⟨_, .tail _ (.tail _ (.head _))⟩
        have qj4 := farOf hne hnej (.tail _ (.head _)) ⟨_, .tail _ (.head _)⟩
        rcases hj6 with rfl | rfl | rfl | rfl | rfl
        · change Fr g' L' hj (fun y => if y = Str.ofString "guess_here" then some (.int 0 t10) else if y = Str.ofString "kind" then some (.int 0 tj) else _) at Fj
          k_steps
          with_reducible rename Fr _ _ _ _ => F5
          with_reducible rename News _ _ _ _ => N5
          rw [List.push_toArray] at N5
          exact inEnd F5 N5 (told1 j0 hlv hsv rfl) j1 j2 j3 j4 hnej rfl rfl
        · change Fr g' L' hj (fun y => if y = Str.ofString "guess_here" then some (.int lv t10) else if y = Str.ofString "kind" then some (.int 1 tj) else _) at Fj
          k_steps
          with_reducible rename Fr _ _ _ _ => F5
          with_reducible rename News _ _ _ _ => N5
          rw [List.push_toArray] at N5
          exact inEnd F5 N5 j0 (told1 j1 hlv hsv rfl) j2 j3 j4 hnej rfl rfl
        · change Fr g' L' hj (fun y => if y = Str.ofString "guess_here" then some (.int (ls.getD i 0) t10) else if y = Str.ofString "kind" then some (.int 2 tj) else _) at Fj
          k_steps
          with_reducible rename Fr _ _ _ _ => F5
          with_reducible rename News _ _ _ _ => N5
          rw [List.push_toArray] at N5
          exact inEnd F5 N5 j0 j1 (told1 j2 hlv hsv rfl) j3 j4 hnej rfl rfl
        · change Fr g' L' hj (fun y => if y = Str.ofString "guess_here" then some (.int ((lv + ls.getD i 0).fdiv 2) t10) else if y = Str.ofString "kind" then some (.int 3 tj) else _) at Fj
          k_steps
          with_reducible rename Fr _ _ _ _ => F5
          with_reducible rename News _ _ _ _ => N5
          rw [List.push_toArray] at N5
          exact inEnd F5 N5 j0 j1 j2 (told1 j3 hlv hsv rfl) j4 hnej rfl rfl
        · change Fr g' L' hj (fun y => if y = Str.ofString "guess_here" then some (.int (nearestV lv (ls.getD i 0) sv) t10) else if y = Str.ofString "kind" then some (.int 4 tj) else _) at Fj
          k_steps
          with_reducible rename Fr _ _ _ _ => F5
          with_reducible rename News _ _ _ _ => N5
          rw [List.push_toArray] at N5
          exact inEnd F5 N5 j0 j1 j2 j3 (told1 j4 hlv hsv rfl) hnej rfl rfl
      · intro h12 tk12 m12 led12 F12 N12 hI12
        revert F12 N12
        refine InInv.elim hI12 ?_
        clear hI12
        intro os0 os1 os2 os3 os4 k0 k1 k2 k3 k4 nd o1 o2 j0 j1 j2 j3 j4 em el
        subst em
        subst el
        intro F12 N12
        have h5g : gs.length = 5 := hgs.length
        rw [h5g] at j0 j1 j2 j3 j4
        clear F9 N9 N9'
        k_steps
        with_reducible rename Fr _ _ _ _ => F5
        with_reducible rename News _ _ _ _ => N5
        exact outEnd F5 N5 j0 j1 j2 j3 j4 hne rfl rfl
  · intro h tk m' led' F3 N3 hI
    revert F3 N3
    refine ToldInv.elim hI ?_
    clear hI
    intro os0 os1 os2 os3 os4 k0 k1 k2 k3 k4 nd o1 o2 o3 o4 o5 o6 i0 i1 i2 i3 i4 em el
    subst em
    subst el
    intro F3 N3
    rw [hvl] at i0 i1 i2 i3 i4
    clear F2 N2
    dsimp only
    k_steps
    with_reducible rename News h₀ L h _ => N6
    with_reducible rename Fr h₀ L h _ => F6
    refine withRest fun NpE => ?_
    dsimp only
    refine hret _ _ _ _ ?_ F6 (newsSix N6 NpE)
    exact ⟨_, _, _, _, _, _, os0, os1, os2, os3, os4, k0, k1, k2, k3, k4, nd, rfl, i0, i1, i2, i3, i4, rfl⟩
theorem told_k (w : World) (R Ab : Addr) (n1 n2 : Nat) (vs ws : List Value) (ks ls : List Int) (news) (hR : (R, listOf vs.toArray n1) ∈ news) (hA : (Ab, listOf ws.toArray n2) ∈ news) (hv : IntsAre vs ks) (hw : IntsAre ws ls) (hab : ks.length ≤ ls.length) (hz : ls.length ≤ 1000)
    {dp un : Nat} {gd : Option (List Code)} {cn : Str} {cs : Scope} {a' : Addr} {ccd : Value} {cl : List (Str × Addr)} {outer : List Env} {A₀ : Around} {base h₀ : Heap} {L : Addr} {m : Str → Option Value}
    {mean : ExcName → Option Value} {mg mb : Str → Option Value} {s : Shared} {Q E : Value → Shared → Prop}
    (B : Below A₀ base outer h₀) (F : Fr h₀ L s.heap m) (X : (hd.heap_1 w.params).In h₀) (N : News h₀ L s.heap news) (T : TopQ mean mg mb h₀) (hk : cs.kind = .function) (hd : dp + 6 < recursionLimit) (hu : un + 60 < cLine)
    (ret : ∀ D l0 l1 l2 l3 l4 os0 os1 os2 os3 os4 k0 k1 k2 k3 k4 nd h' tk', IntsAre os0 (filtL 0 ks ls ks.length) → IntsAre os1 (filtL 1 ks ls ks.length) → IntsAre os2 (filtL 2 ks ls ks.length) → IntsAre os3 (filtL 3 ks ls ks.length) → IntsAre os4 (filtL 4 ks ls ks.length) →
      Fr h₀ L h' m → News h₀ L h' ((D, listOf [.ref l0, .ref l1, .ref l2, .ref l3, .ref l4].toArray nd) :: (l4, listOf os4.toArray k4) :: (l3, listOf os3.toArray k3) :: (l2, listOf os2.toArray k2) :: (l1, listOf os1.toArray k1) :: (l0, listOf os0.toArray k0) :: news) → Q (.ref D) { s with heap := h', toks := tk' }) :
    wpAny (model Challenge.rw_xm0716_01.row.prog w) (ktrTop dp un gd cn cs L a' ccd cl outer) (call (.ref 150) [.ref R, .ref Ab]) Q E s := by
  refine use_c (told_c w R Ab n1 n2 vs ws ks ls news hR hA hv hw hab hz) B F X N T hk hd hu ?_
  rintro r n' h' tk' ⟨D, l0, l1, l2, l3, l4, os0, os1, os2, os3, os4, k0, k1, k2, k3, k4, nd, rfl, i0, i1, i2, i3, i4, rfl⟩ F' N'
  exact ret D l0 l1 l2 l3 l4 os0 os1 os2 os3 os4 k0 k1 k2 k3 k4 nd h' tk' i0 i1 i2 i3 i4 F' N'
end Mine
end
section
open PySem PySem.W PySem.Calls PyProof.Rows
namespace Mine
section
variable {prog : Program} {w : World} {A : Around} {E : Value → Shared → Prop} {s : Shared} {env : Env}
/-- a comprehension over a list, all that was is kept -/
theorem compK_list {P : Value → Value → Prop} {elt iter : Expr} {x : Str} {px : Pos} {scope : Scope} {cl : List (Str × Addr)} {pos : Pos} {Q : Value → Shared → Prop}
    (hh : A.handled = none) (hclos : closureFor scope env = pure cl) (hcell : ∀ y ∈ scope.names, y.2 ≠ .cell) (hkind : scope.kind = .function)
    (hnames : ∀ y ∈ scope.names, y.2 = .local → scope.names.lookup y.1 = some .local) (hx : scope.names.lookup x = some .local)
    (hs : ∀ x, foldedSetIterable iter env x = pure x)
    (h : wpAny (model prog w) A (eval iter env) (fun xv s₁ => Lock (∃ ax vs, xv = .ref ax ∧ s₁.heap.IsList ax vs.toArray ∧ vs.length ≤ sizeLine ∧
      (∀ C v s₂ m₂ E', s₁.heap.objs.size ≤ C → v ∈ vs → s₂.heap.Ns (compEnvC scope cl C env).locals m₂ → m₂ x = some v → (∀ b o, s₁.heap.get? b = some o → s₂.heap.get? b = some o) →
        wpAny (model prog w) A (eval elt (compEnvC scope cl C env)) (fun y s₃ => P v y ∧ Keeps s₂ s₃) E' s₂) ∧
      (∀ D (ys : List Value) h' tk, (∀ b o, s₁.heap.get? b = some o → h'.get? b = some o) → h'.IsList D ys.toArray → Paired P vs ys → Q (.ref D) { s₁ with heap := h', toks := tk }))) E s) :
    wpAny (model prog w) A (eval (.ListComp elt [⟨.Name x px, iter, [], 0⟩] scope pos) env) Q E s := by
  refine wpAny_ListComp_free (fun _ => true) P hclos hcell hkind hnames hx (wpAny_mono h (fun xv s₁ h₁ => ?_) fun _ _ e => e) hs
  obtain ⟨ax, vs, rfl, hl, hsz, helt, hQ⟩ := h₁
  have hlt : ax < s₁.heap.objs.size := by obtain ⟨_, e, _⟩ := hl; exact Heap.lt_size e
  have up : ∀ (s₃ : Shared), (∀ b o, b ∉ [s₁.heap.objs.size] → (s₁.heap.push { cls := .type "list_iterator", data := .fields #[.ref ax, .int 0 0] }).get? b = some o → s₃.heap.get? b = some o) → ∀ b o, s₁.heap.get? b = some o → s₃.heap.get? b = some o :=
    fun s₃ hk b o e => hk b o (fun hm => by rcases List.mem_cons.mp hm with rfl | hm; exact Nat.lt_irrefl _ (Heap.lt_size e); cases hm) (Heap.get?_push_of_some _ e)
  refine wpAny_pyIter_list hl ⟨s₁.heap.objs.size, [s₁.heap.objs.size, ax], [s₁.heap.objs.size], vs.toArray.size, _, _, rfl, Walks.list hh _ _ (Nat.ne_of_lt hlt) vs.toArray, (by rw [List.size_toArray]; exact hsz), ⟨⟨_, Heap.get?_push_size _ rfl, rfl, rfl⟩, hl.push _⟩, ?_, ⟨?_, ?_⟩, ?_⟩
  · intro b hb
    show b < (s₁.heap.push _).objs.size
    rw [Heap.size_push]
    rcases List.mem_cons.mp hb with rfl | hb
    · exact Nat.lt_succ_self _
    · rcases List.mem_cons.mp hb with rfl | hb
      · exact Nat.lt_succ_of_lt hlt
      · cases hb
  · intro C i v s₃ m₃ E' hC hP hn hm hk _
    exact wpAny_pure ⟨rfl, ⟨_, _, rfl, fun _ _ e => e⟩⟩
  · intro C i v s₃ m₃ E' hC hP hp' hn hm hk _
    have hmem : v ∈ vs := by simpa using Array.mem_of_getElem? hP
    exact helt C v s₃ m₃ E' (Nat.le_of_succ_le (by simpa [Heap.size_push] using hC)) hmem hn hm (up s₃ hk)
  · intro D h' tk ys vs' hnew hlD hplD hlen hP hF hk
    have e : vs' = vs := by simpa using list_of_places hlen hP
    subst e
    rw [List.filter_eq_self.mpr fun _ _ => rfl] at hF
    exact hQ D ys.toList h' tk (up { s₁ with heap := h' } hk) (by rw [Array.toArray_toList]; exact hlD) hF
theorem sum_keep {l : Addr} {vs : List Value} {ns : List Int} {Q : Value → Shared → Prop} (hh : A.handled = none) (hl : s.heap.IsList l vs.toArray) (hi : IntsAre vs ns)
    (h : ∀ h' tk t', (∀ b o, s.heap.get? b = some o → h'.get? b = some o) → Q (.int ns.sum t') { s with heap := h', toks := tk }) : wpAny (model prog w) A (call (.builtin "sum") [.ref l]) Q E s := by
  obtain ⟨xs, hx⟩ := hi.allInts.items
  rw [hx] at hl
  refine sum_intListG hh hl fun h' tk t' hk => ?_
  have hn := hi.numsOf
  have e1 : vs = (intItems xs).toList := by rw [← hx]
  rw [e1, nums_intItems] at hn
  rw [preSum_eq, List.take_of_length_le (by simp), hn]
  exact h h' tk t' hk
end
def mn (p : Int) : Int := if p < 128 then p else 256 - p
theorem paired_mn {os ys : List Value} {ns : List Int} (hi : IntsAre os ns) (hp : Paired (fun v y => Lock (∀ p t, v = .int p t → ∃ t', y = .int (mn p) t')) os ys) : IntsAre ys (ns.map mn) := by
  induction hi generalizing ys with
  | nil => cases hp; exact .nil
  | cons n t r ih =>
    cases hp with
    | cons h hp =>
      obtain ⟨t', rfl⟩ := h n t rfl
      exact .cons _ _ (ih hp)
def intOf : Value → Int
  | .int x _ => x
  | _ => 0
def objInts (o : Obj) : List Int := match o.data with
  | .seq its _ => its.toList.map intOf
  | _ => []
theorem objInts_of {os : List Value} {ks : List Int} {n : Nat} (hi : IntsAre os ks) : objInts (listOf os.toArray n) = ks := by
  show os.map intOf = ks
  induction hi with
  | nil => rfl
  | cons n t r ih => rw [List.map_cons, ih]; rfl
/-- the weight of the list that v names -/
def heapW (H : Heap) (v : Value) : Int := match v with
  | .ref L => match H.get? L with
    | some o => weightV (objInts o)
    | none => 0
  | _ => 0
theorem heapW_of {H : Heap} {L : Addr} {os : List Value} {ks : List Int} {n : Nat} (h : H.get? L = some (listOf os.toArray n)) (hi : IntsAre os ks) : heapW H (.ref L) = weightV ks := by
  unfold heapW
  dsimp only
  rw [h]
  dsimp only
  rw [objInts_of hi]
theorem weight_mn (ks : List Int) : (ks.map mn).sum = weightV ks := rfl
theorem paired5 {P : Value → Value → Prop} {a b c d e : Value} {ys : List Value} (h : Paired P [a, b, c, d, e] ys) : ∃ y1 y2 y3 y4 y5, ys = [y1, y2, y3, y4, y5] ∧ P a y1 ∧ P b y2 ∧ P c y3 ∧ P d y4 ∧ P e y5 := by
  cases h with
  | cons h1 h => cases h with
    | cons h2 h => cases h with
      | cons h3 h => cases h with
        | cons h4 h => cases h with
          | cons h5 h => cases h; exact ⟨_, _, _, _, _, rfl, h1, h2, h3, h4, h5⟩
end Mine
end
section
open PySem PySem.W PySem.Calls PyProof.Rows
namespace Mine
theorem flush_XC16 : True := by
  w_top off
  trivial
local macro_rules | `(tactic| walk_at "execs cons") => `(tactic| ((with_reducible show wpAny _ _ (execs (Stmt.For _ _ _ _ _ :: _) _) _ _ _); refine Lock.of ?_))
local macro_rules | `(tactic| walk_at "exec Assign cons ListComp") => `(tactic| (refine Lock.of ?_))
local macro_rules | `(tactic| walk_at "eval ListComp") => `(tactic| (refine Lock.of ?_))
local macro_rules | `(tactic| walk_at "binaryOp Add ref ref") => `(tactic| (refine Lock.of ?_))
local macro_rules | `(tactic| walk_at "call type:bytes") => `(tactic| (refine Lock.of ?_))
local macro_rules | `(tactic| walk_at "subscriptTail") => `(tactic| (k_here; (with_reducible show wpAny _ _ (subscriptTail _ _ (Value.ref _) (Value.int _ _)) _ _ _); refine Lock.of ?_))
local macro_rules | `(tactic| walk_at "call builtin:list.index") => `(tactic| (refine Lock.of ?_))
local macro_rules | `(tactic| walk_at "call builtin:min") => `(tactic| ((with_reducible show wpAny _ _ (call (Value.builtin _) [Value.int _ _, Value.int _ _]) _ _ _); refine Lock.of ?_))
local macro_rules | `(tactic| walk_at "call builtin:sum") => `(tactic| (refine Lock.of ?_))
local macro_rules | `(tactic| walk_at "call ref") => `(tactic| ((with_reducible show wpAny _ _ (call (Value.ref 136) [Value.ref _]) _ _ _); refine Lock.of ?_))
local macro_rules | `(tactic| walk_at "call ref") => `(tactic| ((with_reducible show wpAny _ _ (call (Value.ref 150) [Value.ref _, Value.ref _]) _ _ _); refine Lock.of ?_))
theorem rowsL_in {f : List Int → List Int → List Int} (hf : ∀ o a, ∀ x ∈ f o a, 0 ≤ x ∧ x < 256) (rws : List Cols) : ∀ a, ∀ x ∈ rowsL f rws a, 0 ≤ x ∧ x < 256 := by
  induction rws with
  | nil => intro a x hx; cases hx
  | cons r rest ih =>
    intro a x hx
    rcases List.mem_append.mp hx with hx | hx
    · exact hf _ _ x hx
    · exact ih _ x hx
theorem kindL_in {k : Int} (h0 : 0 ≤ k) (h4 : k ≤ 4) (o a : List Int) : ∀ x ∈ kindL k o a, 0 ≤ x ∧ x < 256 := fun x hx => by
  rcases List.mem_cons.mp hx with rfl | hx
  · omega
  · exact filtL_in _ _ _ _ x hx
theorem bestL_in (o a : List Int) : ∀ x ∈ bestL o a, 0 ≤ x ∧ x < 256 := kindL_in (bestK_in o a).1 (bestK_in o a).2 o a
def DueInv (news : List (Addr × Obj)) (rws : List Cols) (wd : Nat) (k : Int) (M : Str → Option Value) (i : Nat) (m : Str → Option Value) (led : List (Addr × Obj)) : Prop :=
  ∃ (bl pl al : List Int) (Db Dp Da : Addr) (vb vp va : List Value) (kb kp ka : Nat) (o1 o2 o3 o4 o5 : Option Value), IntsAre vb bl ∧ IntsAre vp pl ∧ IntsAre va al ∧ al.length = 4 * wd ∧ bl.length ≤ 100 * i ∧ pl.length ≤ 100 * i ∧
    bl ++ rowsL bestL (rws.drop i) al = rowsL bestL rws (List.replicate (4 * wd) 0) ∧ pl ++ rowsL (kindL k) (rws.drop i) al = rowsL (kindL k) rws (List.replicate (4 * wd) 0) ∧
    m = (fun z => if z = Str.ofString "best" then some (.ref Db) else if z = Str.ofString "plain" then some (.ref Dp) else if z = Str.ofString "above" then some (.ref Da) else if z = Str.ofString "chosen" then o1 else if z = Str.ofString "sums" then o2 else if z = Str.ofString "told" then o3 else if z = Str.ofString "octets" then o4 else if z = Str.ofString "row" then o5 else M z) ∧
    led = (Da, listOf va.toArray ka) :: (Dp, listOf vp.toArray kp) :: (Db, listOf vb.toArray kb) :: news
theorem DueInv.elim {news : List (Addr × Obj)} {rws : List Cols} {wd : Nat} {k : Int} {M : Str → Option Value} {i : Nat} {m : Str → Option Value} {led : List (Addr × Obj)} {P9 : Prop} (h : DueInv news rws wd k M i m led) (kk9 : ∀ (bl pl al : List Int) (Db Dp Da : Addr) (vb vp va : List Value) (kb kp ka : Nat) (o1 o2 o3 o4 o5 : Option Value), IntsAre vb bl → IntsAre vp pl → IntsAre va al → al.length = 4 * wd → bl.length ≤ 100 * i → pl.length ≤ 100 * i → bl ++ rowsL bestL (rws.drop i) al = rowsL bestL rws (List.replicate (4 * wd) 0) → pl ++ rowsL (kindL k) (rws.drop i) al = rowsL (kindL k) rws (List.replicate (4 * wd) 0) → m = ((fun z => if z = Str.ofString "best" then some (.ref Db) else if z = Str.ofString "plain" then some (.ref Dp) else if z = Str.ofString "above" then some (.ref Da) else if z = Str.ofString "chosen" then o1 else if z = Str.ofString "sums" then o2 else if z = Str.ofString "told" then o3 else if z = Str.ofString "octets" then o4 else if z = Str.ofString "row" then o5 else M z)) → led = ((Da, listOf va.toArray ka) :: (Dp, listOf vp.toArray kp) :: (Db, listOf vb.toArray kb) :: news) → P9) : P9 := by
  obtain ⟨bl, pl, al, Db, Dp, Da, vb, vp, va, kb, kp, ka, o1, o2, o3, o4, o5, q0, q1, q2, q3, q4, q5, q6, q7, r8, r9⟩ := h
  exact kk9 _ _ _ _ _ _ _ _ _ _ _ _ _ _ _ _ _ q0 q1 q2 q3 q4 q5 q6 q7 r8 r9
theorem DueInv.start {news : List (Addr × Obj)} {rws : List Cols} {wd : Nat} {k : Int} {M : Str → Option Value} {Db Dp Da : Addr} {va : List Value} {al : List Int} {kb kp ka : Nat} (h1 : M (Str.ofString "best") = some (.ref Db)) (h2 : M (Str.ofString "plain") = some (.ref Dp)) (h3 : M (Str.ofString "above") = some (.ref Da)) (ha : IntsAre va al) (hal : al = List.replicate (4 * wd) 0) :
    DueInv news rws wd k M 0 M ((Da, listOf va.toArray ka) :: (Dp, listOf ([] : List Value).toArray kp) :: (Db, listOf ([] : List Value).toArray kb) :: news) := by
  subst hal
  refine ⟨[], [], _, Db, Dp, Da, [], [], va, kb, kp, ka, M (Str.ofString "chosen"), M (Str.ofString "sums"), M (Str.ofString "told"), M (Str.ofString "octets"), M (Str.ofString "row"), .nil, .nil, ha, List.length_replicate, Nat.zero_le _, Nat.zero_le _, rfl, rfl, ?_, rfl⟩
  funext z; (repeat' split) <;> first | rfl | (subst_vars; first | rfl | assumption)
theorem DueInv.mem {news : List (Addr × Obj)} {rws : List Cols} {wd : Nat} {k : Int} {M : Str → Option Value} {i : Nat} {m : Str → Option Value} {led : List (Addr × Obj)} (h : DueInv news rws wd k M i m led) {p : Addr × Obj} (hp : p ∈ news) : p ∈ led := by
  obtain ⟨_, _, _, _, _, _, _, _, _, _, _, _, _, _, _, _, _, _, _, _, _, _, _, _, _, _, rfl⟩ := h
  exact .tail _ (.tail _ (.tail _ hp))
theorem intsAre_mem {os : List Value} {ks : List Int} (h : IntsAre os ks) {v : Value} (hv : v ∈ os) : ∃ p t, v = .int p t := by
  induction h with
  | nil => cases hv
  | cons n t r ih =>
    rcases List.mem_cons.mp hv with rfl | hv
    · exact ⟨_, _, rfl⟩
    · exact ih hv
theorem minIdx5 {a b c d e M : Int} (h1 : M = a ∨ M = b ∨ M = c ∨ M = d ∨ M = e) : M ∈ [a, b, c, d, e] := by
  rcases h1 with h | h | h | h | h <;> subst h <;> simp
theorem minLe5 {a b c d e M : Int} (h1 : M ≤ a ∧ M ≤ b ∧ M ≤ c ∧ M ≤ d ∧ M ≤ e) : ∀ x ∈ [a, b, c, d, e], M ≤ x := by
  obtain ⟨h0, h1, h2, h3, h4⟩ := h1
  intro x hx
  simp only [List.mem_cons, List.not_mem_nil, or_false] at hx
  rcases hx with h | h | h | h | h <;> subst h <;> assumption
theorem told_item {l0 l1 l2 l3 l4 : Addr} {os0 os1 os2 os3 os4 : List Value} {k0 k1 k2 k3 k4 : Nat} {ks ls : List Int} {n : Nat} {q : Int} {v : Value} (h0 : 0 ≤ q) (h4 : q ≤ 4)
    (i0 : IntsAre os0 (filtL 0 ks ls n)) (i1 : IntsAre os1 (filtL 1 ks ls n)) (i2 : IntsAre os2 (filtL 2 ks ls n)) (i3 : IntsAre os3 (filtL 3 ks ls n)) (i4 : IntsAre os4 (filtL 4 ks ls n))
    (ev : [Value.ref l0, .ref l1, .ref l2, .ref l3, .ref l4][q.toNat]? = some v) : ∃ L os k, v = .ref L ∧ IntsAre os (filtL q ks ls n) ∧ ∀ S : List (Addr × Obj), (l0, listOf os0.toArray k0) ∈ S → (l1, listOf os1.toArray k1) ∈ S → (l2, listOf os2.toArray k2) ∈ S → (l3, listOf os3.toArray k3) ∈ S → (l4, listOf os4.toArray k4) ∈ S → (L, listOf os.toArray k) ∈ S := by
  have hq : q = 0 ∨ q = 1 ∨ q = 2 ∨ q = 3 ∨ q = 4 := by omega
  rcases hq with rfl | rfl | rfl | rfl | rfl
  · exact ⟨l0, os0, k0, (Option.some.inj ev).symm, i0, fun _ a b c d e => a⟩
  · exact ⟨l1, os1, k1, (Option.some.inj ev).symm, i1, fun _ a b c d e => b⟩
  · exact ⟨l2, os2, k2, (Option.some.inj ev).symm, i2, fun _ a b c d e => c⟩
  · exact ⟨l3, os3, k3, (Option.some.inj ev).symm, i3, fun _ a b c d e => d⟩
  · exact ⟨l4, os4, k4, (Option.some.inj ev).symm, i4, fun _ a b c d e => e⟩
theorem mapDue {M : Str → Option Value} {a0 a1 a2 a3 a4 a5 a6 a7 b0 b1 b2 b3 b4 b5 b6 b7 : Option Value} : (fun z => if z = Str.ofString "best" then a0 else if z = Str.ofString "plain" then a1 else if z = Str.ofString "above" then a2 else if z = Str.ofString "chosen" then a3 else if z = Str.ofString "sums" then a4 else if z = Str.ofString "told" then a5 else if z = Str.ofString "octets" then a6 else if z = Str.ofString "row" then a7 else if z = Str.ofString "best" then b0 else if z = Str.ofString "plain" then b1 else if z = Str.ofString "above" then b2 else if z = Str.ofString "chosen" then b3 else if z = Str.ofString "sums" then b4 else if z = Str.ofString "told" then b5 else if z = Str.ofString "octets" then b6 else if z = Str.ofString "row" then b7 else M z) = fun z => if z = Str.ofString "best" then a0 else if z = Str.ofString "plain" then a1 else if z = Str.ofString "above" then a2 else if z = Str.ofString "chosen" then a3 else if z = Str.ofString "sums" then a4 else if z = Str.ofString "told" then a5 else if z = Str.ofString "octets" then a6 else if z = Str.ofString "row" then a7 else M z := by
  funext z
  by_cases c0 : z = Str.ofString "best"
  · simp only [if_pos c0]
  by_cases c1 : z = Str.ofString "plain"
  · simp only [if_neg c0, if_pos c1]
  by_cases c2 : z = Str.ofString "above"
  · simp only [if_neg c0, if_neg c1, if_pos c2]
  by_cases c3 : z = Str.ofString "chosen"
  · simp only [if_neg c0, if_neg c1, if_neg c2, if_pos c3]
  by_cases c4 : z = Str.ofString "sums"
  · simp only [if_neg c0, if_neg c1, if_neg c2, if_neg c3, if_pos c4]
  by_cases c5 : z = Str.ofString "told"
  · simp only [if_neg c0, if_neg c1, if_neg c2, if_neg c3, if_neg c4, if_pos c5]
  by_cases c6 : z = Str.ofString "octets"
  · simp only [if_neg c0, if_neg c1, if_neg c2, if_neg c3, if_neg c4, if_neg c5, if_pos c6]
  by_cases c7 : z = Str.ofString "row"
  · simp only [if_neg c0, if_neg c1, if_neg c2, if_neg c3, if_neg c4, if_neg c5, if_neg c6, if_pos c7]
  simp only [if_neg c0, if_neg c1, if_neg c2, if_neg c3, if_neg c4, if_neg c5, if_neg c6, if_neg c7]
theorem dueEnd {g h' : Heap} {L Db Dp Da : Addr} {rws : List Cols} {news own all : List (Addr × Obj)} {wd i : Nat} {k : Int} {M : Str → Option Value} {s s' : Shared} {vb vp va : List Value} {bl pl al : List Int} {kb kp ka tk' : Nat} {x1 x2 x3 x4 x5 b0 b1 b2 b3 b4 b5 b6 b7 : Option Value}
    (F : Fr g L h' (fun z => if z = Str.ofString "best" then some (.ref Db) else if z = Str.ofString "plain" then some (.ref Dp) else if z = Str.ofString "above" then some (.ref Da) else if z = Str.ofString "chosen" then x1 else if z = Str.ofString "sums" then x2 else if z = Str.ofString "told" then x3 else if z = Str.ofString "octets" then x4 else if z = Str.ofString "row" then x5 else if z = Str.ofString "best" then b0 else if z = Str.ofString "plain" then b1 else if z = Str.ofString "above" then b2 else if z = Str.ofString "chosen" then b3 else if z = Str.ofString "sums" then b4 else if z = Str.ofString "told" then b5 else if z = Str.ofString "octets" then b6 else if z = Str.ofString "row" then b7 else M z)) (N : News g L h' all) (m1 : (Da, listOf va.toArray ka) ∈ all) (m2 : (Dp, listOf vp.toArray kp) ∈ all) (m3 : (Db, listOf vb.toArray kb) ∈ all) (m4 : ∀ p ∈ news, p ∈ all) (m5 : ∀ p ∈ own, p ∈ all)
    (ib : IntsAre vb bl) (ip : IntsAre vp pl) (ia : IntsAre va al) (q1 : ∀ q ∈ own, Da ≠ q.1) (q2 : ∀ q ∈ own, Dp ≠ q.1) (q3 : ∀ q ∈ own, Db ≠ q.1) (q4 : ∀ p ∈ news, ∀ q ∈ own, p.1 ≠ q.1)
    (hal : al.length = 4 * wd) (hbl : bl.length ≤ 100 * (i + 1)) (hpl : pl.length ≤ 100 * (i + 1)) (e1 : bl ++ rowsL bestL (rws.drop (i + 1)) al = rowsL bestL rws (List.replicate (4 * wd) 0)) (e2 : pl ++ rowsL (kindL k) (rws.drop (i + 1)) al = rowsL (kindL k) rws (List.replicate (4 * wd) 0)) (hs : s' = { s with heap := h', toks := tk' }) :
    TurnG g L own (DueInv news rws wd k M (i + 1)) s .next s' := by
  refine ⟨rfl, h', tk', _, (Da, listOf va.toArray ka) :: (Dp, listOf vp.toArray kp) :: (Db, listOf vb.toArray kb) :: news, hs, F, newsSub N ?_, ?_, bl, pl, al, Db, Dp, Da, vb, vp, va, kb, kp, ka, x1, x2, x3, x4, x5, ib, ip, ia, hal, hbl, hpl, e1, e2, mapDue, rfl⟩
  · intro p hp
    rcases List.mem_cons.mp hp with e | hp
    · exact e ▸ m1
    rcases List.mem_cons.mp hp with e | hp
    · exact e ▸ m2
    rcases List.mem_cons.mp hp with e | hp
    · exact e ▸ m3
    rcases List.mem_append.mp hp with hp | hp
    · exact m4 p hp
    · exact m5 p hp
  · intro p hp q hq
    rcases List.mem_cons.mp hp with e | hp
    · rw [e]; exact q1 q hq
    rcases List.mem_cons.mp hp with e | hp
    · rw [e]; exact q2 q hq
    rcases List.mem_cons.mp hp with e | hp
    · rw [e]; exact q3 q hq
    · exact q4 p hp q hq
theorem nameH {g H : Heap} {L : Addr} {m : Str → Option Value} (_ : Fr g L H m) : ∃ H', H' = H := ⟨H, rfl⟩
theorem paired5_int {f : Value → Int} {a b c d e : Value} {ys : List Value} {G : Prop} (h : Paired (fun v y => Lock (∃ t, y = Value.int (f v) t)) [a, b, c, d, e] ys)
    (kk : ∀ t0 t1 t2 t3 t4, ys = [Value.int (f a) t0, Value.int (f b) t1, Value.int (f c) t2, Value.int (f d) t3, Value.int (f e) t4] → G) : G := by
  obtain ⟨y0, y1, y2, y3, y4, rfl, ⟨t0, rfl⟩, ⟨t1, rfl⟩, ⟨t2, rfl⟩, ⟨t3, rfl⟩, ⟨t4, rfl⟩⟩ := paired5 h
  exact kk t0 t1 t2 t3 t4 rfl
theorem told_item_k {l0 l1 l2 l3 l4 : Addr} {os0 os1 os2 os3 os4 : List Value} {k0 k1 k2 k3 k4 : Nat} {ks ls : List Int} {n : Nat} {q : Int} {v : Value} {G : Prop} (h0 : 0 ≤ q) (h4 : q ≤ 4)
    (i0 : IntsAre os0 (filtL 0 ks ls n)) (i1 : IntsAre os1 (filtL 1 ks ls n)) (i2 : IntsAre os2 (filtL 2 ks ls n)) (i3 : IntsAre os3 (filtL 3 ks ls n)) (i4 : IntsAre os4 (filtL 4 ks ls n))
    (ev : [Value.ref l0, .ref l1, .ref l2, .ref l3, .ref l4][q.toNat]? = some v)
    (kk : ∀ L os k, IntsAre os (filtL q ks ls n) → (∀ S : List (Addr × Obj), (l0, listOf os0.toArray k0) ∈ S → (l1, listOf os1.toArray k1) ∈ S → (l2, listOf os2.toArray k2) ∈ S → (l3, listOf os3.toArray k3) ∈ S → (l4, listOf os4.toArray k4) ∈ S → (L, listOf os.toArray k) ∈ S) → v = .ref L → G) : G := by
  obtain ⟨L, os, k, e, h1, h2⟩ := told_item (k0 := k0) (k1 := k1) (k2 := k2) (k3 := k3) (k4 := k4) h0 h4 i0 i1 i2 i3 i4 ev
  exact kk L os k h1 h2 e
theorem exList {h₀ h : Heap} {L : Addr} {v : Value} {G : Prop} (hE : ∃ L9 os ks kq, v = .ref L9 ∧ News h₀ L h [(L9, listOf os.toArray kq)] ∧ IntsAre os ks ∧ ks.length ≤ 1000)
    (kk : ∀ L9 os ks kq, News h₀ L h [(L9, listOf os.toArray kq)] → IntsAre os ks → ks.length ≤ 1000 → v = .ref L9 → G) : G := by
  obtain ⟨L9, os, ks, kq, e, h1, h2, h3⟩ := hE
  exact kk L9 os ks kq h1 h2 h3 e
theorem due_c (w : World) (R : Addr) (n : Nat) (vs : List Value) (rws : List Cols) (news) (hR : (R, listOf vs.toArray n) ∈ news) (hrows : RowsAt news vs rws) (k : Int) (tk tw : Tok) (wd : Nat) (hw0 : 1 ≤ wd) (hw1 : wd ≤ 2) (hl : rws.length ≤ 8)
    (hwd : ∀ r ∈ rws, r.length = wd) (hdr : ∀ r ∈ rws, ∀ c ∈ r, Drawn c.1 c.2.1 c.2.2.1 c.2.2.2) (hk0 : 0 ≤ k) (hk4 : k ≤ 4) :
    Claims w 155 12 200 [.ref R, .int wd tw, .int k tk] news (fun r news' => ∃ T t1 t2 kt, r = .ref T ∧ news' = (T, tupO [.bytes (byteArr (rowsL bestL rws (List.replicate (4 * wd) 0))) t1, .bytes (byteArr (rowsL (kindL k) rws (List.replicate (4 * wd) 0))) t2] kt) :: news ∧ NeAll T news) := by
  unfold Claims
  k_fill
  intro dp un gd cn cs a' ccd cl outer A₀ base h₀ L m mean mg mb s Q E B F X N T hk hd hu hret
  refine wpAny_call ?_
  k_dflt ktr_enter
  k_steps
  refine Lock.open ?_
  refine wpAny_execs_cons ?_
  refine wpAny_For ?_ (fun _ => rfl)
  k_steps
  with_reducible rename Fr _ _ _ _ => F2
  with_reducible rename News _ _ _ _ => N2
  rename IntsAre (List.flatten _) _ => ha0
  have N3 : News _ _ _ ((_, listOf (List.flatten _).toArray _) :: (_, listOf ([] : List Value).toArray _) :: (_, listOf ([] : List Value).toArray _) :: news) := newsSub N2 fun p hp => by
    rcases List.mem_cons.mp hp with e | hp
    · exact e ▸ .tail _ (.head _)
    · exact .tail _ (.tail _ (.tail _ hp))
  clear N2
  refine code_forl (od := listOf vs.toArray n) (fun i m led => DueInv news rws wd k _ i m led) rfl (N3.isList (.tail _ (.tail _ (.tail _ hR)))) (N3.ne (.tail _ (.tail _ (.tail _ hR)))) (.inr ⟨_, fun _ _ _ hI => hI.mem hR⟩) (.inl fun _ _ => rfl) F2 N3 (DueInv.start rfl rfl rfl ha0 ?_) ?_ ?_
  · rw [show ((4 : Int) * (wd : Int)).toNat = 4 * wd by omega]
    clear F2 N3 ha0
    simp
  · intro i v m₁ led h tk own hi hv hI
    refine RowsAt.elim hrows hv ?_
    intro Ri ni us c hc hRi hrow ev
    subst ev
    refine DueInv.elim hI ?_
    clear hI
    intro bl pl al Db Dp Da vb vp va kb kp ka o1 o2 o3 o4 o5 ib ip ia hal hbl hpl hsb hsp em el
    subst em
    subst el
    intro hne F3 N3'
    have hcl := hwd c (List.mem_of_getElem? hc)
    have hcd := hdr c (List.mem_of_getElem? hc)
    clear N3 F2 ha0
    k_steps
    refine Lock.open ?_
    with_reducible rename Fr _ _ _ _ => F2
    with_reducible rename News _ _ _ _ => N2
    refine octets_k w Ri ni us c _ (.tail _ (.tail _ (.tail _ (List.mem_append_left _ hRi)))) (hrow.mono fun p hp => .tail _ (.tail _ (.tail _ (List.mem_append_left _ hp)))) hcd (by omega) (by k_asm) F2 (by k_asm) N2 (by k_asm) rfl (by ktr_room) (by ktr_units) ?_
    intro D8 os8 k8 h8 tk8 hos8 hD8 F8 N8
    clear F2 N2
    dsimp only
    k_steps
    refine Lock.open ?_
    rw [← straightL_oct hcd] at hos8
    have hsl := straightL_len c
    have hslIn := straightL_in hcd
    with_reducible rename Fr _ _ _ _ => F2
    with_reducible rename News _ _ _ _ => N2
    refine told_k w D8 Da k8 ka os8 va (straightL c) al _ (.head _) (.tail _ (.head _)) hos8 ia (by omega) (by omega) (by k_asm) F2 (by k_asm) N2 (by k_asm) rfl (by ktr_room) (by ktr_units) ?_
    intro D9 l0 l1 l2 l3 l4 os0 os1 os2 os3 os4 k0 k1 k2 k3 k4 nd h9 tk9 i0 i1 i2 i3 i4 F9 N9
    clear F2 N2
    dsimp only
    k_steps
    refine Lock.open ?_
    have hw1 := filtL_length 1 (straightL c) al (straightL c).length
    have hf9 : ∀ q, (filtL q (straightL c) al (straightL c).length).length ≤ 1000 := fun q => by rw [filtL_length]; omega
    with_reducible rename Fr _ _ _ _ => F2
    with_reducible rename News _ _ _ _ => N2
    obtain ⟨H9, hH9⟩ := nameH F2
    refine compA_list (P := fun v y => Lock (∃ t, y = .int (heapW H9 v) t)) rfl rfl rfl (by decide) rfl (by decide) rfl rfl rfl (fun _ => rfl) ?_
    k_steps
    refine Lock.open ?_
    with_reducible rename Fr _ _ _ _ => F6
    with_reducible rename News _ _ _ _ => N6
    subst hH9
    refine ⟨_, _, _, _, _, rfl, N6.isList (.head _), (by show 5 ≤ sizeLine; rw [sizeLine_eq]; decide), F6, N6, ?_, ?_⟩
    · intro C v s₂ m₂ E' hC hv hn hm hk
      obtain hE9 : ∃ L9 os ks kq, v = .ref L9 ∧ News _ _ _ [(L9, listOf os.toArray kq)] ∧ IntsAre os ks ∧ ks.length ≤ 1000 := by
        rcases List.mem_cons.mp hv with rfl | hv
        · exact ⟨l0, os0, _, k0, rfl, newsSub N6 (fun p hp => by rw [List.mem_singleton.mp hp]; k_dflt k_mem), i0, hf9 _⟩
        rcases List.mem_cons.mp hv with rfl | hv
        · exact ⟨l1, os1, _, k1, rfl, newsSub N6 (fun p hp => by rw [List.mem_singleton.mp hp]; k_dflt k_mem), i1, hf9 _⟩
        rcases List.mem_cons.mp hv with rfl | hv
        · exact ⟨l2, os2, _, k2, rfl, newsSub N6 (fun p hp => by rw [List.mem_singleton.mp hp]; k_dflt k_mem), i2, hf9 _⟩
        rcases List.mem_cons.mp hv with rfl | hv
        · exact ⟨l3, os3, _, k3, rfl, newsSub N6 (fun p hp => by rw [List.mem_singleton.mp hp]; k_dflt k_mem), i3, hf9 _⟩
        rcases List.mem_cons.mp hv with rfl | hv
        · exact ⟨l4, os4, _, k4, rfl, newsSub N6 (fun p hp => by rw [List.mem_singleton.mp hp]; k_dflt k_mem), i4, hf9 _⟩
        cases hv
      refine exList hE9 ?_
      clear hE9
      intro L9 os ks kq hL9 hos hks eL
      subst eL
      have FC := frInComp hn hk hC
      have hW := heapW_of (hL9 _ (.head _)).1 hos
      have hLs := FC.lst (hL9.isList (.head _))
      have hosl := hos.length
      clear i0 i1 i2 i3 i4
      k_steps
      refine Lock.open ?_
      refine compK_list (P := fun v y => Lock (∀ p t, v = .int p t → ∃ t', y = .int (mn p) t')) rfl rfl (by decide) rfl (by decide) rfl (fun _ => rfl) ?_
      k_steps
      refine Lock.open ?_
      refine ⟨L9, os, rfl, hLs, (by rw [sizeLine_eq]; omega), ?_, ?_⟩
      · intro C₂ v₂ s₃ m₃ E₃ hC₂ hv₂ hn₂ hm₂ hk₂
        obtain ⟨p, t, rfl⟩ := intsAre_mem hos hv₂
        have FC₂ := frInComp hn₂ hk₂ hC₂
        k_steps
        refine Lock.open ?_
        refine min_two_ints rfl fun h7 tk7 hk7 => ?_
        dsimp only
        split
        all_goals (
          k_steps
          · refine Lock.open ?_
            intro p' t' e
            cases e
            refine ⟨_, congrArg (Value.int · _) ?_⟩
            unfold mn
            (repeat' split) <;> omega
          · exact ⟨_, _, rfl, fun b o e => hk7 _ _ e⟩)
      · intro D ys h' tk hkeep hD hP
        have hys := paired_mn hos hP
        k_steps
        refine Lock.open ?_
        refine sum_keep rfl hD hys fun h4 tk4 t4 hk4 => ?_
        k_steps
        · refine Lock.open ?_
          dsimp only at hW
          exact ⟨t4, by rw [hW, weight_mn]⟩
        · exact ⟨_, _, rfl, fun b o e => hk4 _ _ (hkeep _ _ e)⟩
    · intro D' ys n' h' tk F7 N7 hap hP
      have e0 : heapW H9 (.ref l0) = WK (straightL c) al 0 := heapW_of (N6 (l0, listOf os0.toArray k0) (by k_dflt k_mem)).1 i0
      have e1 : heapW H9 (.ref l1) = WK (straightL c) al 1 := heapW_of (N6 (l1, listOf os1.toArray k1) (by k_dflt k_mem)).1 i1
      have e2 : heapW H9 (.ref l2) = WK (straightL c) al 2 := heapW_of (N6 (l2, listOf os2.toArray k2) (by k_dflt k_mem)).1 i2
      have e3 : heapW H9 (.ref l3) = WK (straightL c) al 3 := heapW_of (N6 (l3, listOf os3.toArray k3) (by k_dflt k_mem)).1 i3
      have e4 : heapW H9 (.ref l4) = WK (straightL c) al 4 := heapW_of (N6 (l4, listOf os4.toArray k4) (by k_dflt k_mem)).1 i4
      refine paired5_int hP ?_
      intro t0 t1 t2 t3 t4 ey
      subst ey
      rw [e0, e1, e2, e3, e4] at N7
      clear hP F6 N6 e0 e1 e2 e3 e4 hap
      k_steps
      refine Lock.open ?_
      with_reducible rename Fr _ _ _ _ => F2
      with_reducible rename News _ _ _ _ => N2
      rename (_ ∨ _ ∨ _ ∨ _ ∨ _) => hM1
      rename (_ ≤ _ ∧ _ ≤ _ ∧ _ ≤ _ ∧ _ ≤ _ ∧ _ ≤ _) => hM2
      have hmem := minIdx5 hM1
      refine index_any N2 (by k_dflt k_mem) (.cons _ _ (.cons _ _ (.cons _ _ (.cons _ _ (.cons _ _ .nil))))) (by show 5 ≤ 1000; decide) hmem ?_
      rw [idxOf_best (bestK_best (straightL c) al) hmem (minLe5 hM2)]
      have hbk := bestK_in (straightL c) al
      clear hM1 hM2 hmem
      obtain ⟨bk, hbkE⟩ : ∃ bk, bk = bestK (straightL c) al := ⟨_, rfl⟩
      rw [← hbkE] at hbk ⊢
      obtain ⟨hbk0, hbk4⟩ := hbk
      have hi8 : i < 8 := by have := hrows.1; omega
      have hbll := ib.length
      have hpll := ip.length
      k_steps
      refine Lock.open ?_
      with_reducible rename Fr _ _ _ _ => Fa
      with_reducible rename News _ _ _ _ => Na
      refine kmk_add_ints Fa Na (Na.isList (by k_dflt k_mem)) (Na.isList (by k_dflt k_mem)) ib (.cons _ _ .nil) (fun A11 us11 h11 F11 N11 lt11 hi11 => ?_) (by rw [sizeLine_eq]; simp only [List.length_cons, List.length_nil, List.length_append]; omega)
      clear Fa Na
      k_steps
      refine Lock.open ?_
      with_reducible rename Fr _ _ _ _ => Fa
      with_reducible rename News _ _ _ _ => Na
      refine item_any (vs := [.ref l0, .ref l1, .ref l2, .ref l3, .ref l4]) Na (by k_dflt k_mem) hbk0 (by show bk < 5; omega) (by show 5 ≤ 1000; decide) fun v hv ev => ?_
      refine told_item_k (k0 := k0) (k1 := k1) (k2 := k2) (k3 := k3) (k4 := k4) hbk0 hbk4 i0 i1 i2 i3 i4 ev ?_
      intro Lb osb kb hib hmb eL
      subst eL
      clear ev hv
      k_steps
      refine Lock.open ?_
      with_reducible rename Fr _ _ _ _ => Fa
      with_reducible rename News _ _ _ _ => Na
      refine kmk_add_ints Fa Na (Na.isList (by k_dflt k_mem)) (Na.isList (hmb _ (by k_dflt k_mem) (by k_dflt k_mem) (by k_dflt k_mem) (by k_dflt k_mem) (by k_dflt k_mem))) hi11 hib (fun A12 us12 h12 F12 N12 lt12 hi12 => ?_) (by have := hf9 bk; rw [sizeLine_eq]; simp only [List.length_cons, List.length_nil, List.length_append] at *; omega)
      clear Fa Na
      k_steps
      refine Lock.open ?_
      with_reducible rename Fr _ _ _ _ => Fa
      with_reducible rename News _ _ _ _ => Na
      refine kmk_add_ints Fa Na (Na.isList (by k_dflt k_mem)) (Na.isList (by k_dflt k_mem)) ip (.cons _ _ .nil) (fun A13 us13 h13 F13 N13 lt13 hi13 => ?_) (by rw [sizeLine_eq]; simp only [List.length_cons, List.length_nil, List.length_append]; omega)
      clear Fa Na
      k_steps
      refine Lock.open ?_
      with_reducible rename Fr _ _ _ _ => Fa
      with_reducible rename News _ _ _ _ => Na
      refine item_any (vs := [.ref l0, .ref l1, .ref l2, .ref l3, .ref l4]) Na (by k_dflt k_mem) hk0 (by show k < 5; omega) (by show 5 ≤ 1000; decide) fun v hv ev => ?_
      refine told_item_k (k0 := k0) (k1 := k1) (k2 := k2) (k3 := k3) (k4 := k4) hk0 hk4 i0 i1 i2 i3 i4 ev ?_
      intro Lc osc kc hic hmc eL
      subst eL
      clear ev hv
      k_steps
      refine Lock.open ?_
      with_reducible rename Fr _ _ _ _ => Fa
      with_reducible rename News _ _ _ _ => Na
      refine kmk_add_ints Fa Na (Na.isList (by k_dflt k_mem)) (Na.isList (hmc _ (by k_dflt k_mem) (by k_dflt k_mem) (by k_dflt k_mem) (by k_dflt k_mem) (by k_dflt k_mem))) hi13 hic (fun A14 us14 h14 F14 N14 lt14 hi14 => ?_) (by have := hf9 k; rw [sizeLine_eq]; simp only [List.length_cons, List.length_nil, List.length_append] at *; omega)
      clear Fa Na
      k_steps
      with_reducible rename Fr _ _ _ _ => Fa
      with_reducible rename News _ _ _ _ => Na
      have hd9 : rws.drop i = c :: rws.drop (i + 1) := by
        obtain ⟨hlt9, e9⟩ := List.getElem?_eq_some_iff.mp hc
        rw [← e9]; exact List.drop_eq_getElem_cons hlt9
      have hfb := filtL_length bk (straightL c) al (straightL c).length
      have hfk := filtL_length k (straightL c) al (straightL c).length
      refine dueEnd Fa Na (by k_dflt k_mem) (by k_dflt k_mem) (by k_dflt k_mem) (fun p hp => (by k_dflt (repeat first | exact List.mem_append_left _ hp | refine List.Mem.tail _ ?_))) (fun q hq => (by k_dflt (repeat first | exact List.mem_append_right _ hq | refine List.Mem.tail _ ?_))) hi12 hi14 hos8 (fun q hq => (hD8.at q (.tail _ (.tail _ (.tail _ (List.mem_append_right _ hq))))).symm) (fun q hq => Nat.ne_of_gt (lt14 q (by k_dflt (repeat first | exact List.mem_append_right _ hq | refine List.Mem.tail _ ?_)))) (fun q hq => Nat.ne_of_gt (lt12 q (by k_dflt (repeat first | exact List.mem_append_right _ hq | refine List.Mem.tail _ ?_)))) (fun p hp q hq => hne p (.tail _ (.tail _ (.tail _ hp))) q hq) (by omega) ?_ ?_ ?_ ?_ rfl
      · simp only [List.length_append, List.length_cons, List.length_nil, hfb]; omega
      · simp only [List.length_append, List.length_cons, List.length_nil, hfk]; omega
      · rw [← hsb, hd9, hbkE]; simp [rowsL, bestL]
      · rw [← hsp, hd9]; simp [rowsL, kindL]
  · intro h tk m' led' F3 N3' hI
    revert F3 N3'
    refine DueInv.elim hI ?_
    clear hI
    intro bl pl al Db Dp Da vb vp va kb kp ka o1 o2 o3 o4 o5 ib ip ia hal hbl hpl hsb hsp em el
    subst em
    subst el
    intro F3 N3'
    rw [hrows.1, List.drop_length] at hsb hsp
    have hbE : bl = rowsL bestL rws (List.replicate (4 * wd) 0) := by rw [← hsb]; exact (List.append_nil _).symm
    have hpE : pl = rowsL (kindL k) rws (List.replicate (4 * wd) 0) := by rw [← hsp]; exact (List.append_nil _).symm
    have hvl := hrows.1
    have hbll := ib.length
    have hpll := ip.length
    clear F2 N3 ha0
    k_steps
    refine Lock.open ?_
    with_reducible rename Fr _ _ _ _ => Fa
    with_reducible rename News _ _ _ _ => Na
    refine call_bytes_ints (Na.isList (by k_dflt k_mem)) ib (hbE ▸ rowsL_in bestL_in rws _) (by rw [sizeLine_eq]; omega) rfl fun h1 t1 k1 hk1 => ?_
    have F7 := Fa.keeps hk1
    have N7 := Na.grown hk1
    clear Fa Na hk1
    k_steps
    refine Lock.open ?_
    with_reducible rename Fr _ _ _ _ => Fa
    with_reducible rename News _ _ _ _ => Na
    refine call_bytes_ints (Na.isList (by k_dflt k_mem)) ip (hpE ▸ rowsL_in (kindL_in hk0 hk4) rws _) (by rw [sizeLine_eq]; omega) rfl fun h2 t2 k2 hk2 => ?_
    have F8 := Fa.keeps hk2
    have N8 := Na.grown hk2
    clear Fa Na hk2
    k_steps
    with_reducible rename News h₀ L _ _ => N6
    with_reducible rename Fr h₀ L _ _ => F6
    rw [hbE, hpE] at N6
    rename (_ ∧ _ ∧ _ ∧ AllLt _ news) => lz
    exact hret _ _ _ _ ⟨_, _, _, _, rfl, rfl, neAll_of fun q hq => neOfAllLt lz.2.2.2 (Nat.le_refl _) q hq⟩ F6 (newsSub N6 fun p hp => (by k_dflt (first | (rcases List.mem_cons.mp hp with e | hp; (exact e ▸ List.Mem.head _); exact .tail _ (.tail _ (.tail _ (.tail _ hp)))))))
end Mine
end
section
open PySem PySem.W PySem.Calls PyProof.Rows
namespace Mine
abbrev excTup (rest : List Value) : Obj := { cls := .type "tuple", data := .seq rest.toArray }
abbrev excObj (C t : Addr) : Obj := { cls := .ref C, data := .fields #[.ref t, .none, .none, .none, .bool false, .none] }
section
variable {prog : Program} {w : World} {A : Around} {E : Value → Shared → Prop} {R : Result → Shared → Prop} {h : Heap} {g : Array GenState} {d : PySem.Drawn} {t : Nat} {os : OsState}
variable {nm q : Str} {C N fI : Addr} {bs bm : List Value} {hdct : Bool} {sn : List Str} {sub : List Value} {ab : Bool} {col : Option Bool} {dd : Option Addr} {k0 k1 k2 k3 k5 : Option Value} {rest : List Value}
/-- an own exception class below another own one: the bare object -/
theorem fault_new (hC : h.get? C = some (excClassObj nm q C N bs bm hdct sn sub ab col dd k0 k1 k2 k3 k5 "Exception.__new__"))
    (hB : (Value.ref C :: bm).contains (.type "Exception") = true) (hA : (Value.ref C :: bm).contains (.type "AttributeError") = false) (hN : (Value.ref C :: bm).contains (.type "NameError") = false) (hrest : rest.length ≤ sizeLine)
    (hq : R (.ok (.ret (.ref (h.objs.size + 1)))) ⟨(h.push (excTup rest)).push (excObj C h.objs.size), g, d, t, os⟩) :
    codeAny (model prog w) A (.call (.builtin "Exception.__new__") ⟨.ref C :: rest, []⟩) R ⟨h, g, d, t, os⟩ := by
  have F := PySem.F.excBase_Exception
  have hstar := F.noStar
  have hends := F.ends
  refine codeAny_call_builtin_code (Code.quiet_builtin _ F.quiet) ?_
  simp only [checkBuiltinCall, F.newKind, F.newSplit, F.newRow]
  repeat (first | refine wpAny_loadPart_at hC ?_ | (refine wpAny_isSubtype_exc hC ?_; rw [hB]) | refine wpAny_staticBase_exc hC ?_ | refine wpAny_madeBy_exc hC ?_ | simp only [bne_self_eq_false, Bool.false_eq_true, if_false] | wp_step)
  refine codeAny_builtinAt F.entry ?_
  unfold Builtin.«BaseException.__new__»
  refine PySem.wpAt_bind ?_
  show PySem.wpAt _ _ _ (stack >>= _) _ _ _
  refine PySem.wpAt_bind (PySem.wpAt_stack fun p below => PySem.wpAt_of_wpAny ?_)
  wp_walk
  refine PySem.wpAt_of_wpAny ?_
  rw [F.owner]
  repeat (first | with_reducible refine wpAny_madeHere_exc F.canon hC ?_ | with_reducible refine wpAny_loadPart_at hC ?_ | (with_reducible refine wpAny_isSubtype_exc hC ?_; first | rw [hB] | rw [hA] | rw [hN]) | wp_step)
  show R _ _
  rw [Heap.size_push]
  exact hq
theorem fault_core {K : Frag} (X : K.In h) (hC : h.get? C = some (excClassObj nm q C N bs bm hdct sn sub ab col dd k0 k1 k2 k3 k5 "Exception.__new__"))
    (hB : (Value.ref C :: bm).contains (.type "Exception") = true) (hA : (Value.ref C :: bm).contains (.type "AttributeError") = false) (hN : (Value.ref C :: bm).contains (.type "NameError") = false) (hrest : rest.length ≤ sizeLine)
    (c1 : specialIn K (.ref C) "__call__" = some (some (.builtin "type.__call__"))) (c2 : instIn K (.ref C) (.type "type") = some true) (c3 : findIn K (.ref C) "__init__" = some (some (.ref fI))) (c4 : typeIn K (.ref fI) = some (.type "function"))
    (hq : codeAny (model prog w) (A.under (.builtin "type.__call__" ⟨.ref C :: rest, []⟩)) (.call (.ref fI) ⟨.ref (h.objs.size + 1) :: rest, []⟩) (InitBack (h.objs.size + 1) R) ⟨(h.push (excTup rest)).push (excObj C h.objs.size), g, d, t, os⟩) :
    codeAny (model prog w) A (.call (.ref C) ⟨rest, []⟩) R ⟨h, g, d, t, os⟩ := by
  have call := looks_specialIn (M := model prog w) X c1
  have typ := looks_instIn (M := model prog w) X c2
  have hi := looks_findIn (M := model prog w) X c3
  refine codeAny_of_tree ?_
  show wpAny _ _ (callAny (.ref C) _) _ _ _
  refine nd_load hC ?_
  show wpAny _ _ (callAny.viaDunder (.ref C) _) _ _ _
  unfold callAny.viaDunder
  refine wpAny_bind (call.at ?_)
  dsimp only
  rw [tc_bind]
  refine wpAny_bind (wpAny_pure (wpAny_bind (wpAny_pure ?_)))
  refine wpAny_pure (a := Fin.again (.call (.builtin "type.__call__") ⟨.ref C :: rest, []⟩)) (And.intro rfl ?_)
  refine codeAny_call_builtin_at (Code.quiet_builtin _ (by decide +kernel)) entry_typeCall (check_slot tc_kind tc_split typ (tc_args _ _ _) ?_)
  unfold Builtin.«type.__call__»
  have hm : Looks (model prog w) h (mroOf (.ref C)) (.ref C :: bm) := ((Looks.ld (part := none) hC).andThen .now).andThen .now
  have made : Looks (model prog w) h (Bind.madeBy (.ref C)) (some "Exception.__new__") := fun A Q E s k q => by
    obtain ⟨hh, g, d, t, os⟩ := s
    exact wpAny_madeBy_exc (k _ _ hC) q
  repeat (first | simp only [List.isEmpty_cons, Bool.false_eq_true, if_false] | with_reducible refine wpAny_call ?_ | lk)
  refine fault_new hC hB hA hN hrest ?_
  have k : ∀ b o, h.get? b = some o → ((h.push (excTup rest)).push (excObj C h.objs.size)).get? b = some o := fun b o e => Heap.get?_push_of_some _ (Heap.get?_push_of_some _ e)
  have hx : ((h.push (excTup rest)).push (excObj C h.objs.size)).get? (h.objs.size + 1) = some (excObj C h.objs.size) := by heap_get
  have t1 : Looks (model prog w) ((h.push (excTup rest)).push (excObj C h.objs.size)) (typeOf (.ref (h.objs.size + 1))) (.ref C) := (Looks.ld hx).andThen .now
  have s1 : Looks (model prog w) ((h.push (excTup rest)).push (excObj C h.objs.size)) (isSubtype (.ref C) (.ref C)) true := fun A Q E s k2 q => by
    obtain ⟨hh, g, d, t, os⟩ := s
    refine wpAny_isSubtype_exc (k2 _ _ (k _ _ hC)) ?_
    rw [show (Value.ref C :: bm).contains (.ref C) = true by simp]
    exact q
  have i1 := hi.keeps k
  have b1 := (bind_fn (M := model prog w) X (.ref (h.objs.size + 1)) c4).keeps k
  unfold isInstance callSpecial? specialOf
  repeat (first | with_reducible refine wpAny_call ?_ | lk)
  refine codeAny_mono hq fun r s' z => ?_
  rcases r with e | (v | _ | _ | _) <;> first | exact z | exact z.elim | skip
  obtain ⟨rfl, z⟩ := z
  exact wpAny_pure (wpAny_pure z)
end
end Mine
end
section
open PySem PySem.W PySem.Calls PyProof.Rows
open PySem.Builtin PySem.Builtin.ObjectAttr
namespace Mine
section
variable {prog : Program} {w : World} {A : Around} {E : Value → Shared → Prop} {R : Result → Shared → Prop} {h : Heap} {g : Array GenState} {d : PySem.Drawn} {t : Nat} {os : OsState}
variable {nm q : Str} {C P N e tt : Addr} {bs : List Value} {sn : List Str} {sub : List Value} {ab : Bool} {col : Option Bool} {dd : Option Addr} {k0 k1 k2 k3 k5 : Option Value} {newId : String}
  {name : Str} {v : Value}
theorem fault_store {K : Frag} {tk : Tok} {Q : Fin → Shared → Prop} (X : K.In h) (hC : h.get? C = some (excClassObj nm q C N bs [.ref P, .type "Exception", .type "BaseException", .type "object"] true sn sub ab col dd k0 k1 k2 k3 k5 newId))
    (he : h.get? e = some (excObj C tt)) (c2 : findIn K (.ref C) name = some none)
    (hq : ∀ h' tk' d', (∀ b o, b ≠ e → h.get? b = some o → h'.get? b = some o) → h'.get? e = some { excObj C tt with dict := some d' } → Q (.done (.ret .none)) ⟨h', g, d, tk', os⟩) :
    wpAny (model prog w) A (Builtin.«object.__setattr__» ⟨[.ref e, .str name tk, v], []⟩) Q E ⟨h, g, d, t, os⟩ := by
  have hpass := PySem.F.store_Exception.passes (.ref e)
  have look := looks_findIn (M := model prog w) X c2
  obtain ⟨o, ho⟩ : ∃ o, o = excObj C tt := ⟨_, rfl⟩
  have hc : o.cls = .ref C := by rw [ho]
  have hdn : o.dict = none := by rw [ho]
  have hdt : o.data = .fields #[.ref tt, .none, .none, .none, .bool false, .none] := by rw [ho]
  have hsl : o.slots = #[] := by rw [ho]
  rw [← ho] at he
  unfold Builtin.«object.__setattr__»
  repeat (first | rw [refuse_eq] | (rw [refuseLoop_ref, refuseLoop_ref, hpass]) | (with_reducible refine wpAny_loadPart_at he ?_; rw [hc]) | with_reducible refine wpAny_mroOf_exc hC ?_ | with_reducible refine look.at ?_ | wp_step)
  rw [hdn, if_neg (by simp [typeHasDict])]
  rw [hdt]
  dsimp only
  have he₁ : (h.push emptyDict).get? e = some o := Heap.get?_push_of_some _ he
  have hes : e ≠ h.objs.size := Nat.ne_of_lt (Heap.lt_size he)
  refine wpAny_bind (wpAny_alloc' (wpAny_bind (wpAny_update' he₁ (wpAny_pure ?_))))
  have hgd : ((h.push emptyDict).update e fun o => { cls := o.cls, dict := some h.objs.size, data := o.data, slots := o.slots }).get? h.objs.size = some emptyDict :=
    (Heap.get?_update_ne _ _ _ _ hes.symm).trans (Heap.get?_push_at rfl rfl)
  have hnd : ((h.push emptyDict).update e fun o => { cls := o.cls, dict := some h.objs.size, data := o.data, slots := o.slots }).Ns h.objs.size (fun _ => none) :=
    ⟨_, #[], _, hgd, rfl, fun e he => absurd he (by simp), fun _ => rfl⟩
  show wpAny _ _ (storeInDict h.objs.size (.str name tk) name v) _ _ _
  unfold storeInDict newKeyGuard
  refine wpAny_bind (wpAny_pure (wpAny_bind (wpAny_nsSet1 (Heap.Ns1.of_empty hnd) fun h' hn' hs => ?_)))
  obtain ⟨oD, esD, epD, hoD, hdD, hcD⟩ := hn'.count (Within.cons name v Within.nil)
  refine wpAny_bind (wpAny_lookBehind hoD (by rw [hdD]; exact pastItsLine_dict (Nat.le_trans hcD (by rw [List.length_cons, List.length_nil, sizeLine_eq]; omega))) ?_)
  wp_walk
  refine hq h' _ h.objs.size (fun b ob hbe hb => ?_) ?_
  · exact (hs.2 b (Nat.ne_of_lt (Heap.lt_size hb))).trans ((Heap.get?_update_ne _ _ _ _ hbe).trans (Heap.get?_push_of_some _ hb))
  · refine (hs.2 e hes).trans ((Heap.get?_update_self _ he₁ ?_).trans ?_)
    · rw [ho]; rfl
    · rw [ho]
theorem fault_set {K : Frag} {Q : Unit → Shared → Prop} (X : K.In h) (hC : h.get? C = some (excClassObj nm q C N bs [.ref P, .type "Exception", .type "BaseException", .type "object"] true sn sub ab col dd k0 k1 k2 k3 k5 newId))
    (he : h.get? e = some (excObj C tt)) (c1 : findIn K (.ref C) "__setattr__" = some (some (.builtin "object.__setattr__"))) (c2 : findIn K (.ref C) name = some none)
    (hq : ∀ h' tk' d', (∀ b o, b ≠ e → h.get? b = some o → h'.get? b = some o) → h'.get? e = some { excObj C tt with dict := some d' } → Q () ⟨h', g, d, tk', os⟩) :
    wpAny (model prog w) A (setAttr (.ref e) name v) Q E ⟨h, g, d, t, os⟩ := by
  have f3 := PySem.F.store_Exception.slot.bind (.ref e)
  have l1 := looks_findIn (M := model prog w) X c1
  unfold setAttr callSpecial? specialOf
  repeat (any_goals (first | assumption | with_reducible refine wpAny_loadPart_at he ?_ | with_reducible refine l1.at ?_ | wp_step))
  show codeAny _ _ (.call (.builtin "object.__setattr__") ⟨[.ref e, .str name t, v], []⟩) _ _
  have t1 : Looks (model prog w) h (typeOf (.ref e)) (.ref C) := (Looks.ld he).andThen .now
  have s1 : Looks (model prog w) h (isSubtype (.ref C) (.type "object")) true := fun A Q E s k q => by
    obtain ⟨hh, g, d, t, os⟩ := s
    refine wpAny_isSubtype_exc (k _ _ hC) ?_
    rw [show (Value.ref C :: [.ref P, .type "Exception", .type "BaseException", .type "object"]).contains (.type "object") = true by rfl]
    exact q
  have i1 : Looks (model prog w) h (isInstance (.ref e) (.type "object")) true := t1.andThen s1
  refine codeAny_call_builtin PySem.F.store_Exception.slot.plain PySem.F.store_Exception.entry ?_
  refine @check_slot (model prog w) _ _ ⟨h, g, d, t + 1, os⟩ "object.__setattr__" "object" "__setattr__" (.ref e) [.str name t, v] [] _ PySem.F.store_Exception.kind PySem.F.store_Exception.split i1 (PySem.F.store_Exception.args _ _ _) ?_
  refine fault_store X hC he c2 fun h' tk' d' k he' => ?_
  exact wpAny_pure (wpAny_pure (hq h' tk' d' k he'))
end
end Mine
end
section
open PySem PySem.W PySem.Calls PyProof.Rows
namespace Mine
/-- a SheetFault has been made -/
def Fault (h h' : Heap) (e : Addr) : Prop := (∀ b o, h.get? b = some o → h'.get? b = some o) ∧ h.get? e = none ∧ ∃ tp d', h'.get? e = some { excObj 44 tp with dict := some d' }
theorem in_class {h : Heap} {w : World} (X : (hd.heap_1 w.params).In h) : ∃ nm q N bs sn sub ab col dd k0 k1 k2 k3 k5, h.get? 44 = some (excClassObj nm q 44 N bs [.ref 31, .type "Exception", .type "BaseException", .type "object"] true sn sub ab col dd k0 k1 k2 k3 k5 "Exception.__new__") :=
  ⟨_, _, _, _, _, _, _, _, _, _, _, _, _, _, X 44 _ rfl⟩
section
variable {w : World} {A : Around} {E : Value → Shared → Prop} {s : Shared} {h₀ : Heap} {L : Addr} {m : Str → Option Value} {mean : ExcName → Option Value} {mg mb : Str → Option Value}
theorem fault_call {mv : Str} {tm : Tok} {R : Result → Shared → Prop} (F : Fr h₀ L s.heap m) (X₀ : (hd.heap_1 w.params).In h₀) (T : TopQ mean mg mb h₀) (hroom : A.depth + 1 < recursionLimit)
    (h : ∀ h' tk' e, Fault s.heap h' e → R (.ok (.ret (.ref e))) { s with heap := h', toks := tk' }) :
    codeAny (model Challenge.rw_xm0716_01.row.prog w) A (.call (.ref 44) ⟨[.str mv tm], []⟩) R s := by
  have X := X₀.keeps F.keep
  obtain ⟨nm, q, N, bs, sn, sub, ab, col, dd, k0, k1, k2, k3, k5, hC⟩ := in_class X
  obtain ⟨hh, g, d, t, os⟩ := s
  dsimp only at X hC F h
  refine fault_core X hC rfl rfl rfl (by rw [sizeLine_eq]; show 1 ≤ 16777216; decide) rfl rfl rfl rfl ?_
  have k : ∀ b o, hh.get? b = some o → ((hh.push (excTup [.str mv tm])).push (excObj 44 hh.objs.size)).get? b = some o := fun b o e => Heap.get?_push_of_some _ (Heap.get?_push_of_some _ e)
  have X2 := X.keeps k
  have hx : ((hh.push (excTup [.str mv tm])).push (excObj 44 hh.objs.size)).get? (hh.objs.size + 1) = some (excObj 44 hh.objs.size) := by heap_get
  have hnew : hh.get? (hh.objs.size + 1) = none := Heap.get?_none_of_le (Nat.le_succ _)
  refine codeAny_call_def hroom (X2 28 _ rfl) rfl (T.nolimit.keeps fun b o e => k _ _ (F.keep _ _ e)) (codeRec_of X2 rfl) rfl (BindsTo.of_eq rfl) (by decide) (locs rfl) (fun h₃ hns hk₃ => ?_)
  have k3 : ∀ b o, hh.get? b = some o → h₃.get? b = some o := fun b o e => hk₃ _ _ (k _ _ e)
  refine wpAny_execs_cons (plainObj_wpAny_Assign_Attribute (wpAny_Name (wpAny_loadName_local rfl rfl hns rfl (wpAny_Name (wpAny_loadName_local rfl rfl hns rfl ?_)))) rfl)
  refine fault_set (X.keeps k3) (k3 _ _ hC) (hk₃ _ _ hx) rfl rfl fun h' tk' d' kk he' => wpAny_execs_nil ⟨rfl, h h' tk' _ ⟨fun b o e => ?_, hnew, _, d', he'⟩⟩
  exact kk b o (fun q => by rw [q, hnew] at e; cases e) (k3 _ _ e)
theorem raise_fault {M : Model} {x : Sem Value} {env : Env} {Q : Flow → Shared → Prop} (hh : A.handled = none)
    (h : wpAny M A x (fun v s₁ => ∃ e tp d', v = .ref e ∧ (hd.heap_1 w.params).In s₁.heap ∧ s₁.heap.get? e = some { excObj 44 tp with dict := some d' } ∧ E (.ref e) s₁) E s) :
    wpAny M A (raiseStmt env (some x) none) Q E s := by
  unfold raiseStmt
  refine wpAny_bind (wpAny_mono h (fun v s₁ h₁ => ?_) fun _ _ x => x)
  obtain ⟨e, tp, d', rfl, X, he, hE⟩ := h₁
  obtain ⟨nm, q, N, bs, sn, sub, ab, col, dd, k0, k1, k2, k3, k5, hC⟩ := in_class X
  have hcB : (Value.ref 44 :: [.ref 31, .type "Exception", .type "BaseException", .type "object"]).contains (.type "BaseException") = true := rfl
  obtain ⟨hp, g, d, tk, os⟩ := s₁
  repeat (first | with_reducible refine wpAny_loadPart_at he ?_ | with_reducible refine wpAny_loadPart_at hC ?_ | (with_reducible refine wpAny_isSubtype_exc hC ?_; rw [hcB]) | wp_step)
  exact wpAny_raiseNew_none hh hE
theorem Raise_fault {prog : Program} {x : Expr} {env : Env} {pos : Pos} {Q : Flow → Shared → Prop} (hh : A.handled = none)
    (h : wpAny (model prog w) A (eval x env) (fun v s₁ => ∃ e tp d', v = .ref e ∧ (hd.heap_1 w.params).In s₁.heap ∧ s₁.heap.get? e = some { excObj 44 tp with dict := some d' } ∧ E (.ref e) s₁) E s) :
    wpAny (model prog w) A (exec (.Raise (some x) none pos) env) Q E s := by
  show wpAny (model prog w) A (do standAt pos; raiseStmt env (some (do let v ← eval x env; standAt pos; pure v)) none) Q E s
  exact wpAny_bind (wpAny_standAt (raise_fault hh (wpAny_bind (wpAny_mono h (fun v s₁ h₁ => wpAny_bind (wpAny_standAt (wpAny_pure h₁))) fun _ _ x => x))))
end
section
variable {M : Model} {A : Around} {E : Value → Shared → Prop} {s' : Shared} {base g g₂ h : Heap} {outer : List Env} {L a e t : Addr} {m : Str → Option Value} {name : Str} {scope : Scope} {cd : Value} {Q : Unit → Shared → Prop} {news : List (Addr × Obj)}
/-- the fault leaves the frame that made it -/
theorem leave_fault (K : Below A base outer g) (hx : Fault h s'.heap e) (F : Fr g L h m) (N : News g L h news)
    (hQ : ∀ h', RaisedN base outer e (.ref 44) news h' → g.UpToSlots h' → Q () { s' with heap := h' }) (hk : scope.kind = .function := by rfl) :
    wpAny M (A.deeper (envOf name scope L a cd)) (leaving (envOf name scope L a cd) (.ref e)) Q E s' := by
  have K' := K.push (name := name) (a := a) (cd := cd) F hk
  let fr := (envOf name scope L a cd :: outer).filterMap (·.frame)
  have hin : ∀ env ∈ (envOf name scope L a cd :: outer), ∀ b, env.frame = some b → b ∈ fr := fun env he b hb => List.mem_filterMap.mpr ⟨env, he, hb⟩
  have st : base.StaysIn (hideAll h fr) := fun b o q => hideAll_get _ (K'.stays b o q) fun hm => by
    rw [(K'.frames.mem hm).1] at q; cases q
  have hl : ∀ q ∈ news, (hideAll h fr).get? q.1 = some q.2 ∧ base.get? q.1 = none := fun q hq => by
    refine ⟨hideAll_get _ (N q hq).1 fun hm => ?_, fresh_of_stays K.stays (N q hq).2.2⟩
    obtain ⟨env, he, hf⟩ := List.mem_filterMap.mp hm
    rcases List.mem_cons.mp he with rfl | he
    · exact (N q hq).2.1 (Option.some.inj hf).symm
    · obtain ⟨o, ho, _⟩ := (K.frames.mem (List.mem_filterMap.mpr ⟨env, he, hf⟩)).2
      rw [(N q hq).2.2] at ho; cases ho
  obtain ⟨keeps, new, tp, d', he⟩ := hx
  have hen : (hideAll h fr).get? e = none := by
    cases q : (hideAll h fr).get? e with
    | none => rfl
    | some o => have := of_hideAll _ q; rw [new] at this; cases this
  refine wpAny_leaving_firstW (a0 := .ref tp) K'.stack ((funFrames_hide K'.frames hin).of_keeps fun b o hb _ => ⟨o, keeps b o hb, rfl⟩) rfl he (fun b o hb => keeps b o (of_hideAll _ hb)) hen rfl rfl rfl fun h' hL => ?_
  obtain ⟨k1, ⟨_, _, k2⟩, k3, k4⟩ := hL
  exact hQ h' ⟨_, .ref tp, st, hl, k1, hen, k2, k3⟩ (((Heap.UpToSlots.of_keeps F.keep).trans (Heap.UpToSlots.of_keeps keeps)).trans k4)
end
end Mine
end
section
open PySem PySem.W PySem.Calls PyProof.Rows
namespace Mine
theorem flush_XE4 : True := by
  w_top off
  trivial
local macro_rules | `(tactic| walk_at "exec Raise some none") => `(tactic| (refine Raise_fault rfl ?_))
local macro_rules | `(tactic| walk_at "call ref") => `(tactic| ((with_reducible show wpAny _ _ (call (Value.ref 44) [Value.str _ _]) _ _ _); refine Lock.of ?_))
/-- the call raises a SheetFault -/
abbrev ClaimsE (w : World) (f : Addr) (dd uu : Nat) (vs : List Value) (news : List (Addr × Obj)) : Prop :=
  ∀ (dp un : Nat) (gd : Option (List Code)) (cn : Str) (cs : Scope) (a : Addr) (ccd : Value) (cl : List (Str × Addr)) (outer : List Env) (A₀ : Around) (base h₀ : Heap) (L : Addr) (m : Str → Option Value)
    (mean : ExcName → Option Value) (mg mb : Str → Option Value) (s : Shared) (Q E : Value → Shared → Prop),
    Below A₀ base outer h₀ → Fr h₀ L s.heap m → (hd.heap_1 w.params).In h₀ → News h₀ L s.heap news → TopQ mean mg mb h₀ → cs.kind = .function → dp + dd < recursionLimit → un + uu < cLine →
    (∀ e g₂ h' tk', RaisedN base (envX cn cs L a ccd cl :: outer) e (.ref 44) news h' → Fr h₀ L g₂ m → g₂.UpToSlots h' → E (.ref e) { s with heap := h', toks := tk' }) →
    wpAny (model Challenge.rw_xm0716_01.row.prog w) (ktrTop dp un gd cn cs L a ccd cl outer) (call (.ref f) vs) Q E s
abbrev ClaimsSE (w : World) (f : Addr) (dd uu : Nat) (vs : List Value) (news : List (Addr × Obj)) : Prop :=
  ∀ (dp un : Nat) (cn : Str) (cs : Scope) (a : Addr) (ccd : Value) (cl : List (Str × Addr)) (outer : List Env) (A₀ : Around) (base h₀ : Heap) (L : Addr) (m : Str → Option Value)
    (mean : ExcName → Option Value) (mg mb : Str → Option Value) (s : Shared) (Q E : Value → Shared → Prop),
    Below A₀ base outer h₀ → Fr h₀ L s.heap m → (hd.heap_1 w.params).In h₀ → News h₀ L s.heap news → TopQ mean mg mb h₀ → cs.kind = .function → dp + dd < recursionLimit → un + uu < cLine →
    (∀ e g₂ h' tk', RaisedN base (envX cn cs L a ccd cl :: outer) e (.ref 44) news h' → Fr h₀ L g₂ m → g₂.UpToSlots h' → E (.ref e) { s with heap := h', toks := tk' }) →
    WS (model Challenge.rw_xm0716_01.row.prog w) (ktrTop dp un (some []) cn cs L a ccd cl outer) (call (.ref f) vs) Q E s
theorem guess_x (w : World) (k l a c : Int) (tk tl ta tc : Tok) (news) (hk9 : k < 0 ∨ 4 < k) : ClaimsE w 64 4 40 [.int k tk, .int l tl, .int a ta, .int c tc] news := by
  unfold ClaimsE
  k_fill
  intro dp un gd cn cs a' ccd cl outer A₀ base h₀ L m mean mg mb s Q E B F X N T hk hd hu hexc
  refine wpAny_call ?_
  k_dflt ktr_enter
  rcases hk9 with hk9 | hk9
  all_goals (
    k_steps
    all_goals try (exfalso; omega)
    refine Lock.open ?_
    with_reducible rename Fr _ _ _ _ => F2
    with_reducible rename News _ _ _ _ => N2
    refine wpAny_call (fault_call F2 (by k_asm) (by k_asm) (by ktr_room) fun h2 tk2 e hF => ?_)
    dsimp only
    obtain ⟨tp, d', he⟩ := hF.2.2
    refine ⟨e, tp, d', rfl, Frag.In.keeps (by assumption) fun b o q => hF.1 _ _ (F2.keep _ _ q), he, ?_⟩
    refine leave_fault (by assumption) hF F2 N2 (fun h3 hR hU => ?_)
    exact hexc _ _ _ _ hR (by assumption) hU)
end Mine
end
section
open PySem PySem.W PySem.Calls PyProof.Rows
namespace Mine
section
variable {prog : Program} {w : World} {A : Around} {s : Shared} {env : Env} {h₀ : Heap} {R : Result → Shared → Prop}
theorem cs_for_pairX {xi xc : Str} {pk pv pt : Pos} {x1 : Nat} {body : List Stmt} {I : Addr} {fp wr : List Addr} {n : Nat} {Pt : Nat → Array Value → Prop} {St : Nat → Heap → Prop} {Mid : Nat → Addr → Heap → Prop} {P2 : Nat → Value → Value → Prop} {m : Str → Option Value} (led : Nat → List (Addr × Obj)) (J : Nat → (Str → Option Value) → Prop)
    (hh : A.handled = none) (W : WalksT prog w A I fp wr n Pt St Mid) (h2 : ∀ i vals, Pt i vals → ∃ v0 v1, vals = #[v0, v1] ∧ P2 i v0 v1) (hxi : env.kindOf xi = some .local) (hxc : env.kindOf xc = some .local) (hp : (env.scope.kind == .class || (env.scope.kind == .module && env.locals != env.globals)) = false)
    (hLf : env.locals ∉ fp) (hwr : ∀ b ∈ wr, h₀.get? b = none) (X : Fixed h₀ fp wr led) (hoff : ∀ i, ∀ p ∈ led i, p.1 ∉ wr)
    (hst : St 0 s.heap) (F : Fr h₀ env.locals s.heap m) (N : News h₀ env.locals s.heap (led 0)) (h0 : J 0 m)
    (turn : ∀ i v0 v1 m₁ h tk own, i < n → P2 i v0 v1 → J i m₁ → (∀ p ∈ own, p.1 ∈ wr) → (∀ p ∈ own, ∀ q ∈ led i, p.1 ≠ q.1) → Fr h₀ env.locals h (fun y => if y = xc then some v1 else if y = xi then some v0 else m₁ y) → News h₀ env.locals h (led i ++ own) →
      WS (model prog w) A (execs body env) (TurnS h₀ env.locals (led (i + 1)) own (J (i + 1)) { s with heap := h, toks := tk }) (notedBy (model prog w) A env fun e s' => R (.error e) s') { s with heap := h, toks := tk })
    (done : ∀ h' tk m', Fr h₀ env.locals h' m' → News h₀ env.locals h' (led n) → J n m' → R (.ok .next) { s with heap := h', toks := tk }) :
    CS (model prog w) A (.forLoop (.Tuple [.Name xi pk, .Name xc pv] x1 pt) (.ref I) body [] env) R s := by
  have hLw : env.locals ∉ wr := fun h => hLf (W.sub _ h)
  have old : ∀ b o, h₀.get? b = some o → b ∉ wr := fun b o e hb => by rw [hwr b hb] at e; cases e
  refine cs_forLoop
    (fun k s' => ∃ h' tk m' i, s' = { s with heap := h', toks := tk } ∧ St i h' ∧ Fr h₀ env.locals h' m' ∧ News h₀ env.locals h' (led i) ∧ J i m' ∧ i ≤ n ∧ k = n + 1 - i) ?_ (n + 1)
    ⟨s.heap, s.toks, m, 0, rfl, hst, F, N, h0, Nat.zero_le _, rfl⟩
  rintro k s' ⟨H, tk, m', i, rfl, hst', F', N', hJ, hi, rfl⟩
  have next : ∀ h₁ : Heap, (∀ b o, b ∉ wr → H.get? b = some o → h₁.get? b = some o) → Fr h₀ env.locals h₁ m' ∧ News h₀ env.locals h₁ (led i) := fun h₁ hk₁ =>
    ⟨⟨F'.ns.at' fun o e => hk₁ _ o hLw e, fun b o e => hk₁ b o (old b o e) (F'.keep b o e), F'.above⟩, fun p hp => ⟨hk₁ _ _ (hoff i p hp) (N' p hp).1, (N' p hp).2⟩⟩
  by_cases hlt : i < n
  · refine W.item i _ _ _ hlt hst' fun T vals h₁ tk₁ hPt _ hT hMid hk₁ => ?_
    obtain ⟨v0, v1, rfl, hP2⟩ := h2 i vals hPt
    refine W.go _ x1 pt i T _ _ _ hMid fun h₂ hst₂ hk₂ => ?_
    have ht₂ : h₂.IsTuple T #[v0, v1] := hT.at fun o e => hk₂ T o (W.apart i T h₁ hMid) e
    refine wpAny_assign_Tuple hh ht₂ rfl rfl fun h₃ hx₃ => ?_
    replace hx₃ : Heap.ExtBut h₂.objs.size h₂ h₃ := hx₃
    have up₃ : ∀ b o, h₂.get? b = some o → h₃.get? b = some o := fun b o x => hx₃ b o (Nat.ne_of_lt (Heap.lt_size x)) x
    obtain ⟨F₃, N₃⟩ := next h₃ fun b o hb x => up₃ b o (hk₂ b o hb (hk₁ b o hb x))
    show wpAny _ A (do holding [v1] (assign (.Name xi pk) env v0); do holding [] (assign (.Name xc pv) env v1); pure ()) _ _ _
    refine wpAny_bind (wpAny_holding (wpAny_assign_Name (wpAny_storeName_local hxi F₃.ns (fun h₄ hn₄ hs₄ => ?_) hp)))
    replace hs₄ : Heap.SameBut env.locals h₃ h₄ := hs₄
    have F₄ := F₃.set hn₄ hs₄
    refine wpAny_bind (wpAny_holding (wpAny_assign_Name (wpAny_storeName_local hxc F₄.ns (fun h₅ hn₅ hs₅ => wpAny_pure ?_) hp)))
    replace hs₅ : Heap.SameBut env.locals h₄ h₅ := hs₅
    have F₅ := F₄.set hn₅ hs₅
    have N₅ : News h₀ env.locals h₅ (led i) := (N₃.set hs₄).set hs₅
    have hst₅ : St (i + 1) h₅ := W.frame _ _ _ hst₂ fun b hb o e => hs₅.extBut b o (fun q => hLf (q ▸ hb)) (hs₄.extBut b o (fun q => hLf (q ▸ hb)) (up₃ b o e))
    refine ws_mono (turn i v0 v1 m' h₅ _ (ownOf h₀ wr h₅) hlt hP2 hJ (fun p hp => own_in hp) (fun p hp q hq e => hoff i q hq (e ▸ own_in hp)) F₅ (N₅.append (news_ownOf hLw))) (fun f s₃ h₆ => ?_) fun _ _ e => e
    obtain ⟨rfl, h₆', tk₆, m₆, rfl, F₆, N₆, hJ₆⟩ := h₆
    refine ⟨n + 1 - (i + 1), by omega, h₆', tk₆, m₆, i + 1, rfl, ?_, F₆, newsSub N₆ fun p hp => List.mem_append_left _ hp, hJ₆, hlt, rfl⟩
    exact W.frame _ _ _ hst₅ (frame_up X F₅ F₆ N₅ N₆ hwr rfl)
  · have hin : i = n := by omega
    subst hin
    refine W.done _ _ _ hst' fun h₁ tk₁ hk₁ => wpAny_execs_nil ?_
    obtain ⟨F₁, N₁⟩ := next h₁ hk₁
    exact done h₁ tk₁ m' F₁ N₁ hJ
theorem for_enumBX {E : Value → Shared → Prop} {xi xc : Str} {pk pv pt : Pos} {x1 : Nat} {body : List Stmt} {b : Array UInt8} {tb : Tok} {m : Str → Option Value} (led : Nat → List (Addr × Obj)) (J : Nat → (Str → Option Value) → Prop) (keys : List Addr)
    (hh : A.handled = none) (hxi : env.kindOf xi = some .local) (hxc : env.kindOf xc = some .local) (hp : (env.scope.kind == .class || (env.scope.kind == .module && env.locals != env.globals)) = false)
    (hkeys : ∀ i, (led i).map (·.1) = keys) (F : Fr h₀ env.locals s.heap m) (N : News h₀ env.locals s.heap (led 0)) (h0 : J 0 m)
    (turn : ∀ i c t u m₁ h tk own, i < b.size → b[i]? = some c → J i m₁ → (∀ p ∈ own, ∀ q ∈ led i, p.1 ≠ q.1) → Fr h₀ env.locals h (fun y => if y = xc then some (.int (c.toNat : Int) u) else if y = xi then some (.int i t) else m₁ y) → News h₀ env.locals h (led i ++ own) →
      WS (model prog w) A (execs body env) (TurnS h₀ env.locals (led (i + 1)) own (J (i + 1)) { s with heap := h, toks := tk }) (notedBy (model prog w) A env fun e s' => R (.error e) s') { s with heap := h, toks := tk })
    (done : ∀ h' tk m', Fr h₀ env.locals h' m' → News h₀ env.locals h' (led b.size) → J b.size m' → R (.ok .next) { s with heap := h', toks := tk }) :
    wpAny (model prog w) A (call (.type "enumerate") [.bytes b tb]) (fun x s₁ => wpAny (model prog w) A (pyIter x) (fun it s₂ =>
      CS (model prog w) A (.forLoop (.Tuple [.Name xi pk, .Name xc pv] x1 pt) it body [] env) R s₂) E s₁) E s := by
  refine call_enumB fun h' he hit hsz hk => ?_
  refine wpAny_pyIter_enum he ?_
  have hL := F.ns.lt
  have W := WalksT.enumerateD (drawsBytes (prog := prog) (w := w) (A := A.in1) hh s.heap.objs.size b tb) (s.heap.objs.size + 1) (Nat.ne_of_gt (Nat.lt_succ_self _)) (by simp) (by simp)
  have key : ∀ i, ∀ p ∈ led i, p.1 < s.heap.objs.size := fun i p hpi => by
    have h1 : p.1 ∈ (led 0).map (·.1) := by rw [hkeys 0, ← hkeys i]; exact List.mem_map_of_mem hpi
    obtain ⟨q, hq, e⟩ := List.mem_map.mp h1
    rw [← e]; exact Heap.lt_size (N q hq).1
  have none_ : ∀ x, s.heap.objs.size ≤ x → h₀.get? x = none := fun x hx => by
    cases hq : h₀.get? x with
    | none => rfl
    | some o => exact absurd (Heap.lt_size (F.keep _ _ hq)) (Nat.not_lt.mpr hx)
  refine cs_for_pairX (s := { s with heap := h' }) (P2 := fun i v0 v1 => ∃ t c u, v0 = .int i t ∧ b[i]? = some c ∧ v1 = .int (c.toNat : Int) u) led J hh W ?_ hxi hxc hp ?_ ?_ ?_ ?_ ⟨⟨_, he⟩, hit⟩ (F.keeps hk) (N.keeps hk) h0 ?_ ?_
  · rintro i vals ⟨t, x, ⟨c, u, hc, rfl⟩, rfl⟩
    exact ⟨_, _, rfl, t, c, u, rfl, hc, rfl⟩
  · exact pair_ne hL
  · intro x hm
    exact none_ x (pair_ge hm)
  · intro x hm
    exact .inl hm
  · intro i p hpi
    exact pair_ne (key i p hpi)
  · rintro i v0 v1 m₁ h tk own hi ⟨t, c, u, rfl, hc, rfl⟩ hJ _ hown F₁ N₁
    exact turn i c t u m₁ h tk own hi hc hJ hown F₁ N₁
  · exact done
theorem cs_forX {target : Expr} {body : List Stmt} {I : Addr} {fp wr : List Addr} {n : Nat} {P : Nat → Value → Prop} {St : Nat → Heap → Prop} {m : Str → Option Value} {led : List (Addr × Obj)} (Inv : Nat → (Str → Option Value) → List (Addr × Obj) → Prop)
    (W : Walks prog w A I fp wr n P St) (hgo : ∀ i (s : Shared) v (Q : Unit → Shared → Prop) (E : Value → Shared → Prop), P i v → St (i + 1) s.heap → Q () s → wpAny (model prog w) A (letOwnedTupleGo target (.ref I) v) Q E s)
    (hlive : ∀ i h, St i h → ∀ b ∈ wr, ∃ o, h.get? b = some o) (hLf : env.locals ∉ fp) (hwr : ∀ b ∈ wr, h₀.get? b = none)
    (X : ∀ b ∈ fp, b ∈ wr ∨ (∃ o, h₀.get? b = some o) ∨ ∃ o, ∀ j m' led', Inv j m' led' → (b, o) ∈ led')
    (hst : St 0 s.heap) (F : Fr h₀ env.locals s.heap m) (N : News h₀ env.locals s.heap led) (hoff : ∀ p ∈ led, p.1 ∉ wr) (h0 : Inv 0 m led)
    (turn : ∀ i v m₁ led h tk own, i < n → P i v → Inv i m₁ led → (∀ p ∈ own, p.1 ∈ wr) → (∀ p ∈ led, ∀ q ∈ own, p.1 ≠ q.1) → Fr h₀ env.locals h m₁ → News h₀ env.locals h (led ++ own) →
      wpAny (model prog w) A (assign target env v) (fun _ s₂ => WS (model prog w) A (execs body env) (TurnG h₀ env.locals own (Inv (i + 1)) { s with heap := h, toks := tk }) (notedBy (model prog w) A env fun e s' => R (.error e) s') s₂) (fun _ _ => False) { s with heap := h, toks := tk })
    (done : ∀ h' tk m' led', Fr h₀ env.locals h' m' → News h₀ env.locals h' led' → Inv n m' led' → R (.ok .next) { s with heap := h', toks := tk }) :
    CS (model prog w) A (.forLoop target (.ref I) body [] env) R s := by
  have hLw : env.locals ∉ wr := fun h => hLf (W.sub _ h)
  have old : ∀ b o, h₀.get? b = some o → b ∉ wr := fun b o e hb => by rw [hwr b hb] at e; cases e
  refine cs_forLoop
    (fun k s' => ∃ h' tk m' led' i, s' = { s with heap := h', toks := tk } ∧ St i h' ∧ Fr h₀ env.locals h' m' ∧ News h₀ env.locals h' led' ∧ (∀ p ∈ led', p.1 ∉ wr) ∧ Inv i m' led' ∧ i ≤ n ∧ k = n + 1 - i) ?_ (n + 1)
    ⟨s.heap, s.toks, m, led, 0, rfl, hst, F, N, hoff, h0, Nat.zero_le _, rfl⟩
  rintro k s' ⟨H, tk, m', led', i, rfl, hst', F', N', hoff', hJ, hi, rfl⟩
  have next : ∀ h₁ : Heap, (∀ b o, b ∉ wr → H.get? b = some o → h₁.get? b = some o) → Fr h₀ env.locals h₁ m' ∧ News h₀ env.locals h₁ led' := fun h₁ hk₁ =>
    ⟨⟨F'.ns.at' fun o e => hk₁ _ o hLw e, fun b o e => hk₁ b o (old b o e) (F'.keep b o e), F'.above⟩, fun p hp => ⟨hk₁ _ _ (hoff' p hp) (N' p hp).1, (N' p hp).2⟩⟩
  by_cases hlt : i < n
  · refine W.item i _ _ _ hlt hst' fun v h₁ tk₁ hP hst₁ hk₁ => ?_
    obtain ⟨F₁, N₁⟩ := next h₁ hk₁
    refine hgo i _ v _ _ hP hst₁ ?_
    have hown : ∀ p ∈ ownOf h₀ wr h₁, p.1 ∈ wr := fun p hp => own_in hp
    refine wpAny_mono (turn i v m' led' h₁ tk₁ (ownOf h₀ wr h₁) hlt hP hJ hown (fun p hp q hq e => hoff' p hp (e ▸ own_in hq)) F₁ (N₁.append (news_ownOf hLw))) (fun _ s₂ h₂ => ?_) fun _ _ e => e.elim
    refine ws_mono h₂ (fun f s₃ h₃ => ?_) fun _ _ e => e
    obtain ⟨rfl, h₄, tk₄, m₄, led₄, rfl, F₄, N₄, hne₄, hJ₄⟩ := h₃
    refine ⟨n + 1 - (i + 1), by omega, h₄, tk₄, m₄, led₄, i + 1, rfl, ?_, F₄, newsSub N₄ fun p hp => List.mem_append_left _ hp, ?_, hJ₄, hlt, rfl⟩
    · refine W.frame _ _ _ hst₁ fun b hb o e => ?_
      rcases X b hb with hx | ⟨o₀, hx⟩ | ⟨o₀, hx⟩
      · exact (N₄ _ (List.mem_append_right _ (mem_ownOf hx (hwr b hx) e))).1
      · have h1 := F₁.keep b o₀ hx
        rw [e] at h1
        cases h1
        exact F₄.keep b o hx
      · have h1 := (N₁ _ (hx _ _ _ hJ)).1
        rw [e] at h1
        cases h1
        exact (N₄ _ (List.mem_append_left _ (hx _ _ _ hJ₄))).1
    · intro p hp hb
      obtain ⟨o, e⟩ := hlive _ _ hst₁ p.1 hb
      exact hne₄ p hp _ (mem_ownOf hb (hwr _ hb) e) rfl
  · have hin : i = n := by omega
    subst hin
    refine W.done _ _ _ hst' fun h₁ tk₁ hk₁ => wpAny_execs_nil ?_
    obtain ⟨F₁, N₁⟩ := next h₁ hk₁
    exact done h₁ tk₁ m' led' F₁ N₁ hJ
theorem cs_forlX {target : Expr} {body : List Stmt} {D : Addr} {od : Obj} {vs : List Value} {m : Str → Option Value} {led : List (Addr × Obj)} {E : Value → Shared → Prop} (Inv : Nat → (Str → Option Value) → List (Addr × Obj) → Prop)
    (hh : A.handled = none) (hD : s.heap.IsList D vs.toArray) (hLD : D ≠ env.locals) (X : (∃ o, h₀.get? D = some o) ∨ ∃ o, ∀ j m' led', Inv j m' led' → (D, o) ∈ led')
    (htg : (∀ it v, letOwnedTupleGo target it v = pure ()) ∨ ∃ elts x1 pos, target = .Tuple elts x1 pos ∧ ∀ v ∈ vs, ∃ T, v = .ref T)
    (F : Fr h₀ env.locals s.heap m) (N : News h₀ env.locals s.heap led) (h0 : Inv 0 m led)
    (turn : ∀ i v m₁ led h tk own, i < vs.length → vs[i]? = some v → Inv i m₁ led → (∀ p ∈ led, ∀ q ∈ own, p.1 ≠ q.1) → Fr h₀ env.locals h m₁ → News h₀ env.locals h (led ++ own) →
      wpAny (model prog w) A (assign target env v) (fun _ s₂ => WS (model prog w) A (execs body env) (TurnG h₀ env.locals own (Inv (i + 1)) { s with heap := h, toks := tk }) (notedBy (model prog w) A env fun e s' => R (.error e) s') s₂) (fun _ _ => False) { s with heap := h, toks := tk })
    (done : ∀ h' tk m' led', Fr h₀ env.locals h' m' → News h₀ env.locals h' led' → Inv vs.length m' led' → R (.ok .next) { s with heap := h', toks := tk }) :
    wpAny (model prog w) A (pyIter (.ref D)) (fun it s₂ => CS (model prog w) A (.forLoop target it body [] env) R s₂) E s := by
  have hlt : D < s.heap.objs.size := by obtain ⟨_, e, _⟩ := hD; exact Heap.lt_size e
  refine wpAny_pyIter_list hD ?_
  have W := Walks.list (prog := prog) (w := w) hh s.heap.objs.size D (Nat.ne_of_lt hlt) vs.toArray
  have none_ : h₀.get? s.heap.objs.size = none := F.fresh
  refine cs_forX (s := { s with heap := s.heap.push _ }) Inv W ?_ ?_ ?_ ?_ ?_ ⟨⟨_, Heap.get?_push_size _ rfl, rfl, rfl⟩, hD.push _⟩ (F.push _) (N.pushKeep _) ?_ h0 ?_ ?_
  · intro i s' v Q E hP hst hQ
    rcases htg with h | ⟨elts, x1, pos, rfl, h⟩
    · exact wpAny_of_eq (h _ _) hQ
    · have hv : vs[i]? = some v := by simpa using hP
      obtain ⟨T, rfl⟩ := h v (List.mem_of_getElem? hv)
      exact wpAny_letOwnedTupleGo_listiter hst.1 hQ
  · intro i h st b hb
    rw [List.mem_singleton.mp hb]
    obtain ⟨o, ho, _⟩ := st.1
    exact ⟨o, ho⟩
  · intro hm
    rcases List.mem_cons.mp hm with e | hm
    · exact Nat.lt_irrefl _ (e ▸ F.ns.lt)
    · exact hLD (List.mem_singleton.mp hm).symm
  · intro b hb
    rw [List.mem_singleton.mp hb]; exact none_
  · intro b hb
    rcases List.mem_cons.mp hb with rfl | hb
    · exact .inl (List.mem_singleton.mpr rfl)
    · rw [List.mem_singleton.mp hb]; exact .inr X
  · intro p hp hm
    exact Nat.ne_of_lt (Heap.lt_size (N p hp).1) (List.mem_singleton.mp hm)
  · intro i v m₁ led h tk own hi hP hJ _ hne F₁ N₁
    exact turn i v m₁ led h tk own (by simpa using hi) (by simpa using hP) hJ hne F₁ N₁
  · intro h' tk m' led' F' N' hJ
    exact done h' tk m' led' F' N' (by simpa using hJ)
end
end Mine
end
section
open PySem PySem.W PySem.Calls PyProof.Rows
namespace Mine
/-- a raised exception that the frame L holds: raised in a loop of that frame -/
def HeldN (base : Heap) (l : List Env) (e : Addr) (cls : Value) (L : Addr) (news : List (Addr × Obj)) (h : Heap) : Prop :=
  ∃ B a0, base.StaysIn B ∧ (∀ q ∈ news, B.get? q.1 = some q.2 ∧ base.get? q.1 = none) ∧ Heap.HeldW B l e cls a0 L h
section
variable {M : Model} {A : Around} {E : Value → Shared → Prop} {s' : Shared} {base g g₂ h : Heap} {outer : List Env} {L a e : Addr} {m : Str → Option Value} {name : Str} {scope : Scope} {cd : Value} {Q : Unit → Shared → Prop} {news : List (Addr × Obj)} {cls : Value} {env : Env}
theorem noted_N (hfr : A.frames = some (env :: outer)) (hf : env.frame = some L) (R : RaisedN base (env :: outer) e cls news s'.heap)
    (hQ : ∀ h', HeldN base (env :: outer) e cls L news h' → s'.heap.UpToSlots h' → E (.ref e) { s' with heap := h' }) : notedBy M A env E (.ref e) s' := by
  obtain ⟨B, a0, hB, hl, hfl⟩ := R
  exact wpAny_looks_onW hfr hf hfl fun h' hh hU => hQ h' ⟨B, a0, hB, hl, hh⟩ hU
theorem came_N (hf : env.frame = some L) (H : HeldN base (env :: outer) e cls L news s'.heap)
    (hQ : ∀ h', HeldN base (env :: outer) e cls L news h' → s'.heap.UpToSlots h' → E (.ref e) { s' with heap := h' }) : cameBackBy M A env E (.ref e) s' := by
  obtain ⟨B, a0, hB, hl, hkb, hen, hfu, oe, vs, T, oT, ts, he, hcls, hd, h1, hnT, hTe, hT, hdT, h3⟩ := H
  have hsz3 : 3 < ts.size := (Array.getElem?_eq_some_iff.mp h3).1
  have other : ∀ b, b ≠ T → (s'.heap.update T (Obj.mapFields (·.setIfInBounds 3 (rawInt L)))).get? b = s'.heap.get? b := fun b hb => Heap.get?_update_other _ _ (Ne.symm hb)
  have noRecord : ∀ b o, s'.heap.get? b = some o → (∀ vs, o.data ≠ .fields vs) → b ≠ T := fun b o hb hnf q => by
    rw [q, hT] at hb; injection hb with hb; subst hb; exact hnf ts hdT
  show wpAny M A (do
    if (← field (.ref e) 1) == .none then unsupported "frame.own-activation:exception-without-traceback"
    setFlight (.ref e) env.frame) _ _ _
  rw [hf]
  refine wpAny_bind (wpAny_field he hd h1 ?_)
  rw [if_neg (show ¬ ((Value.ref T == Value.none) = true) from by simp)]
  unfold setFlight
  refine wpAny_bind (wpAny_field he hd h1 ?_)
  rw [if_pos (show (Value.ref T != Value.none) = true from by simp)]
  refine wpAny_setField hT hdT hsz3 (hQ _ ⟨B, a0, hB, hl, fun b o hbo => (other b fun q => by rw [q, hnT] at hbo; cases hbo).trans (hkb b o hbo), hen,
    hfu.of_keeps fun b o hb hnf => ⟨o, (other b (noRecord b o hb hnf)).trans hb, rfl⟩, oe, vs, T, _, _, (other e (Ne.symm hTe)).trans he, hcls, hd, h1, hnT, hTe,
    Heap.get?_update_self _ hT (Obj.isFreed_of_fields (Obj.data_mapFields hdT _)), Obj.data_mapFields hdT _, by simp [hsz3]⟩ fun b o hb hnf => ⟨o.slots, (other b (noRecord b o hb hnf)).trans hb⟩)
theorem leave_held (K : Below A base outer g) (F : Fr g L g₂ m) (H : HeldN base (envOf name scope L a cd :: outer) e cls L news s'.heap) (hsm : g₂.UpToSlots s'.heap)
    (hQ : ∀ h', RaisedN base outer e cls news h' → g.UpToSlots h' → Q () { s' with heap := h' }) :
    wpAny M (A.deeper (envOf name scope L a cd)) (leaving (envOf name scope L a cd) (.ref e)) Q E s' := by
  obtain ⟨B, a0, hB, hl, hh⟩ := H
  unfold leaving
  refine wpAny_bind (wpAny_noteFrame_againW (L := L) rfl hh.2.2.2 ?_)
  refine wpAny_landsW hh fun h' hfl hU => ?_
  obtain ⟨k1, k2, ⟨_, _, k3⟩, k4⟩ := hfl
  exact hQ h' ⟨B, a0, hB, hl, k1, k2, k3, k4⟩ ((Heap.UpToSlots.of_keeps F.keep).trans (hsm.trans hU))
end
end Mine
end
section
open PySem PySem.W PySem.Calls PyProof.Rows
namespace Mine
theorem flush_XE6 : True := by
  w_top off
  trivial
local macro_rules | `(tactic| walk_at "call ref") => `(tactic| ((with_reducible show wpAny _ _ (call (Value.ref 64) [Value.int _ _, Value.int _ _, Value.int _ _, Value.int _ _]) _ _ _); refine Lock.of ?_))
theorem raisedSub {base h : Heap} {l : List Env} {e : Addr} {cls : Value} {a b : List (Addr × Obj)} (R : RaisedN base l e cls a h) (hs : ∀ p ∈ b, p ∈ a) : RaisedN base l e cls b h := by
  obtain ⟨B, a0, x, y, z⟩ := R
  exact ⟨B, a0, x, fun q hq => y q (hs q hq), z⟩
theorem filtered_x (w : World) (k : Int) (b ab : Array UInt8) (ks ls : List Int) (hb : KBw.bInts b = ks) (ha : KBw.bInts ab = ls) (tk tb ta t4 : Tok) (news) (hk9 : k < 0 ∨ 4 < k) (hpos : 0 < ks.length) (hab : ks.length ≤ ls.length) (hz : ls.length ≤ 1000) :
    ClaimsSE w 71 8 60 [.int k tk, .bytes b tb, .bytes ab ta, .int 4 t4] news := by
  unfold ClaimsSE
  k_fill
  intro dp un cn cs a' ccd cl outer A₀ base h₀ L m mean mg mb s Q E B F X N T hk hd hu hexc
  refine ws_call ?_
  k_dflt (refine' cs_def ?k1 ?k2 ?k3 ?k4 ?k5 ?kA ?kF ?kK ?k6 ?k7 ?k8 ?k9 ?kB ?_ ?c2 ?c3 ?c4 ?c5; (case kA => exact rfl); (case kF => exact rfl); (case kK => assumption); (case k1 => k_asm); (case k2 => k_asm); (case k3 => k_asm); (case k4 => k_asm); (case k5 => k_asm); (case k6 => k_is); (case k7 => k_is); (case k8 => ktr_room); (case k9 => exact BindsTo.of_eq rfl); (case c5 => decide); (case kB => exact locs rfl); (case c2 => exact rfl); (case c3 => exact rfl); (case c4 => exact rfl); intro g' L' h' FG' F' N' B' X' T' hlt; (try dsimp only); (try k_fold))
  refine ws_execs_cons (ws_Assign_Name (ws_Call_Name ?_))
  k_steps
  refine ws_callWith_type0 (ba_newX rfl (by assumption) (by assumption) fun ba h1 F1 N1 hapN => ?_)
  dsimp only
  k_steps
  refine ws_execs_cons (ws_For ?_ fun _ => rfl)
  k_steps
  with_reducible rename Fr _ _ _ _ => F2
  with_reducible rename News _ _ _ _ => N2
  refine for_enumBX (fun i => (ba, baOf (byteArr [])) :: news) (fun i m₁ => i = 0 ∧ over2 (Str.ofString "corner") (Str.ofString "left") (Str.ofString "octet") (Str.ofString "at") _ m₁) (ba :: news.map (·.1)) rfl rfl rfl rfl (fun i => rfl) F2 N2 ⟨rfl, over2_refl⟩ ?_ ?_
  · rintro i c t u m₁ h tk own hi hc ⟨rfl, hJ⟩ hown F3 N3
    clear N2 F2
    obtain ⟨o0, o1, o2, o3, rfl⟩ := hJ
    have hks : ks.getD 0 0 = (c.toNat : Int) := by rw [← hb]; simp [KBw.bInts, hc, List.getD_eq_getElem?_getD]
    change Fr g' L' h (fun y => if y = Str.ofString "octet" then _ else if y = Str.ofString "at" then some (.int 0 t) else _) at F3
    refine ws_execs_any ?_
    k_steps
    all_goals (refine ws_execs_any ?_; k_steps)
    all_goals (
      with_reducible rename Fr _ _ _ _ => F4
      with_reducible rename News _ _ _ _ => N4
      refine ws_execs_cons (st_ba ba_slot_append ba_type_append F4 N4 rfl (.head _) rfl rfl (by decide) rfl rfl rfl rfl rfl ?_)
      refine ws_callWith_builtin ?_
      k_steps)
    all_goals (refine Lock.open ?_)
    all_goals (
      with_reducible rename Fr _ _ _ _ => F5
      with_reducible rename News _ _ _ _ => N5)
    all_goals (
      refine guess_x w _ _ _ _ _ _ _ _ _ hk9 _ _ _ _ _ _ _ _ _ _ _ _ _ _ _ _ _ _ _ _ (by k_asm) F5 (by k_asm) N5 (by k_asm) rfl (by ktr_room) (by ktr_units) fun e g₂ h9 tk9 hR hF₂ hU => ?_
      refine noted_N (Around.frames_deeper (Below.stack (by assumption))) rfl (raisedSub (b := news) hR fun p hp => ?_) fun h11 H1 U1 => ?_
      · k_dflt (first | exact .tail _ (List.mem_append_left _ hp))
      refine came_N rfl H1 fun h12 H2 U2 => ?_
      refine leave_held (by assumption) hF₂ H2 ((hU.trans U1).trans U2) fun h13 R3 U3 => ?_
      exact hexc _ _ _ _ R3 FG' U3)
  · rintro h tk m' F3 F3N ⟨h0, hJ⟩
    have hbs : b.size = ks.length := by rw [← hb, KBw.ints_length]
    omega
end Mine
end
section
open PySem PySem.W PySem.Calls PyProof.Rows
namespace Mine
theorem flush_XE7 : True := by
  w_top off
  trivial
theorem rows_x (w : World) (R : Addr) (n : Nat) (vs : List Value) (rws : List Cols) (news) (hR : (R, listOf vs.toArray n) ∈ news) (hrows : RowsAt news vs rws) (k : Int) (tk tw : Tok) (wd : Nat) (hw0 : 1 ≤ wd) (hw1 : wd ≤ 2) (hl : rws.length ≤ 8) (hpos : 0 < rws.length)
    (hwd : ∀ r ∈ rws, r.length = wd) (hdr : ∀ r ∈ rws, ∀ c ∈ r, Drawn c.1 c.2.1 c.2.2.1 c.2.2.2) (hk9 : k < 0 ∨ 4 < k) :
    ClaimsSE w 103 16 140 [.ref R, .int wd tw, .int k tk] news := by
  unfold ClaimsSE
  k_fill
  intro dp un cn cs a' ccd cl outer A₀ base h₀ L m mean mg mb s Q E B F X N T hk hd hu hexc
  refine ws_call ?_
  k_dflt (refine' cs_def ?k1 ?k2 ?k3 ?k4 ?k5 ?kA ?kF ?kK ?k6 ?k7 ?k8 ?k9 ?kB ?_ ?c2 ?c3 ?c4 ?c5; (case kA => exact rfl); (case kF => exact rfl); (case kK => assumption); (case k1 => k_asm); (case k2 => k_asm); (case k3 => k_asm); (case k4 => k_asm); (case k5 => k_asm); (case k6 => k_is); (case k7 => k_is); (case k8 => ktr_room); (case k9 => exact binds_K (by k_in) rfl (by k_is) rfl rfl rfl); (case c5 => decide); (case kB => exact locs rfl); (case c2 => exact rfl); (case c3 => exact rfl); (case c4 => exact rfl); intro g' L' h' FG' F' N' B' X' T' hlt; (try dsimp only); (try k_fold))
  refine ws_execs_cons (ws_Assign_swapped ?_ rfl rfl)
  refine ws_Tuple (ws_spliced_cons ?_)
  change WS _ _ (eval (PySem.Expr.Call _ _ _ _) _) _ _ _
  refine ws_Call_Name ?_
  k_steps
  refine ws_callWith_type0 (ba_newX rfl (by assumption) (by assumption) fun ba h1 F1 N1 hapN => ?_)
  dsimp only
  refine ws_spliced_cons (ws ?_)
  change wpAny _ _ (eval _ _) _ _ _
  k_steps
  refine call_bytes_int (by omega) (by omega) fun t5 k5 => ?_
  refine ws_spliced_nil ?_
  rw [show ((4 : Int) * (wd : Int)).toNat = 4 * wd by omega, byteArr_zeros]
  dsimp only
  k_steps
  with_reducible rename Fr _ _ _ _ => F2
  with_reducible rename News _ _ _ _ => N2
  have N3 : News g' L' _ ((ba, baOf (byteArr [])) :: news) := newsSub N2 fun p hp => .tail _ hp
  clear N2
  refine ws_execs_cons (ws_For ?_ fun _ => rfl)
  k_steps
  with_reducible rename Fr _ _ _ _ => F2
  with_reducible rename News _ _ _ _ => N2
  refine cs_forlX (od := listOf vs.toArray n) (fun i m led => i = 0 ∧ RowsInv ba news (kindL k) rws wd _ 0 m led) rfl (N2.isList (.tail _ hR)) (N2.ne (.tail _ hR)) (.inr ⟨_, fun _ _ _ hI => hI.2.mem hR⟩) (.inl fun _ _ => rfl) F2 N2 ⟨rfl, RowsInv.start rfl⟩ ?_ ?_
  · rintro i v m₁ led h tk own hi hv ⟨rfl, hI⟩ hne F3 N3
    obtain ⟨Ri, ni, us, c, rfl, hc, hRi, hrow⟩ := hrows.2 0 v hv
    obtain ⟨acc, al, ta, o1, o2, o3, hal, hall, hacc, hsum, rfl, rfl⟩ := hI
    have hcl := hwd c (List.mem_of_getElem? hc)
    have hcd := hdr c (List.mem_of_getElem? hc)
    clear N2 F2
    k_steps
    refine ws_execs_cons (ws_Assign_Name (ws_Call_Name ?_))
    k_steps
    refine ws_callWith_K (K := Mine.hd.heap_1 w.params) (by k_is) ?_
    k_steps
    with_reducible rename Fr _ _ _ _ => F2
    with_reducible rename News _ _ _ _ => N2
    refine use_s (straight_row_c w Ri ni us c _ (.tail _ (List.mem_append_left _ hRi)) (hrow.mono fun p hp => .tail _ (List.mem_append_left _ hp)) hcd (by omega)) (by k_asm) F2 (by k_asm) N2 (by k_asm) rfl (by ktr_room) (by ktr_units) ?_
    rintro r8 n8 h8 tk8 ⟨rfl, t8, rfl⟩ F8 N8
    clear F2 N2
    dsimp only
    k_steps
    refine ws_execs_cons (ws_If (ws ?_))
    k_steps
    refine ws_execs_cons (ws_Assign_Name (ws_Tuple (ws_spliced_cons (ws ?_))))
    change wpAny _ _ (eval _ _) _ _ _
    k_steps
    refine ws_spliced_cons ?_
    change WS _ _ (eval (PySem.Expr.Call _ _ _ _) _) _ _ _
    refine ws_Call_Name ?_
    k_steps
    refine ws_callWith_K (K := Mine.hd.heap_1 w.params) (by k_is) ?_
    k_steps
    with_reducible rename Fr _ _ _ _ => F2
    with_reducible rename News _ _ _ _ => N2
    have hsl := straightL_len c
    refine filtered_x w k _ _ (straightL c) al (bInts_byteArr (straightL_in hcd)) (bInts_byteArr hal) _ _ _ _ _ hk9 (by omega) (by omega) (by omega) _ _ _ _ _ _ _ _ _ _ _ _ _ _ _ _ _ _ _ (by k_asm) F2 (by k_asm) N2 (by k_asm) rfl (by ktr_room) (by ktr_units) fun e g₂ h9 tk9 hRN hF₂ hU => ?_
    refine noted_N (Around.frames_deeper (Below.stack (by assumption))) rfl (raisedSub (b := news) hRN fun p hp => ?_) fun h11 H1 U1 => ?_
    · k_dflt (first | exact .tail _ (List.mem_append_left _ hp))
    refine came_N rfl H1 fun h12 H2 U2 => ?_
    refine leave_held (by assumption) hF₂ H2 ((hU.trans U1).trans U2) fun h13 R3 U3 => ?_
    exact hexc _ _ _ _ R3 FG' U3
  · rintro h tk m' led' F3 N3 ⟨h0, hI⟩
    have := hrows.1
    omega
end Mine
end
section
open PySem PySem.W PySem.Calls PyProof.Rows
namespace Mine
section
variable {prog : Program} {w : World} {A₀ A : Around} {s : Shared} {base h₀ : Heap} {outer : List Env} {L : Addr} {m mg mb : Str → Option Value} {env : Env} {news : List (Addr × Obj)} {K : Frag} {p : Program} {loose : List Str} {mean : ExcName → Option Value}
  {R : Result → Shared → Prop} {name qual : Str} {params : Arguments} {body : List Stmt} {scope : Scope} {dV kV doc pm cdv ct oc : Value} {an od : Option Addr} {osl : Array (Option Value)} {f : Addr} {args : Args} {binds : List (Str × Value)}
/-- a def is entered; its end is told at the caller's own post -/
theorem cs_defR (B : Below A₀ base outer h₀) (F : Fr h₀ L s.heap m) (X₀ : K.In h₀) (N : News h₀ L s.heap news) (T : Top p loose mean mg mb h₀) (hA : A.frames = some (env :: outer)) (hf : env.frame = some L) (hke : env.scope.kind = .function)
    (ho : K.lookup f = some ⟨oc, od, .func (fnOf name qual params body scope dV kV doc pm an cdv ct), osl⟩) (hcd : codeIn K cdv qual = true) (hroom : A.depth < recursionLimit)
    (hbind : BindsTo s (fnOf name qual params body scope dV kV doc pm an cdv ct) args binds) (hloc : ∀ y ∈ binds, scope.names.lookup y.1 = some .local)
    (h : ∀ g L' h₁, Fr h₀ L g m → Fr g L' h₁ (fun y => binds.reverse.lookup y) → News g L' h₁ news → Below A base (env :: outer) g → K.In g → Top p loose mean mg mb g → (∀ q ∈ news, q.1 < L') → (∀ v s', LeaveK h₀ L m g R v s' → R (.ok (.ret v)) s') →
      WS (model prog w) (A.deeper (envOf qual scope L' f cdv)) (execs body (envOf qual scope L' f cdv))
        (fun fl s' => R (.ok (.ret (match fl with | .ret v => v | _ => .none))) s')
        (fun e s' => wpAny (model prog w) (A.deeper (envOf qual scope L' f cdv)) (leaving (envOf qual scope L' f cdv) e) (fun _ s'' => R (.error e) s'') (fun e' s'' => R (.error e') s'') s')
        { s with heap := h₁, toks := s.toks + binds.length })
    (hco : scope.isCoroutine = false) (hgen : scope.isGenerator = false) (hk : scope.kind = .function)
    (hcell : ∀ x ∈ scope.names, x.2 ≠ .cell) : CS (model prog w) A (.call (.ref f) args) R s := by
  obtain ⟨FG, BG, st, lv⟩ := groundX (R := R) B F N hA hf hke
  have hlim : s.heap.NoLimit := T.nolimit.keeps F.keep
  have ho' := (X₀.keeps F.keep) _ _ ho
  refine cs_call_function (fd := fnOf name qual params body scope dV kV doc pm an cdv ct) (body := body) hroom ho' rfl hco hgen rfl (codeRec_of (X₀.keeps F.keep) hcd) (hbind _ _ _ _ ?_)
  refine wpAny_newFunctionEnv hcell hloc (fun h₁ hns₀ hsb₀ => ⟨hlim.fresh _ hsb₀, cs_func ?_⟩) hk
  have hk₁ : ∀ b o, s.heap.get? b = some o → h₁.get? b = some o := fun b o e => hsb₀.extBut b o (Nat.ne_of_lt (Heap.lt_size e)) (Heap.get?_push_of_some _ e)
  exact h _ s.heap.objs.size h₁ FG ⟨hns₀, fun b o e => hk₁ b o (of_hideAll _ e), Nat.le_of_eq (hideAll_size _ _)⟩
    (fun q hq => ⟨hk₁ _ _ (N q hq).1, Nat.ne_of_lt (Heap.lt_size (N q hq).1), hideAll_none _ (List.mem_map_of_mem hq)⟩) BG (X₀.keeps st) (T.keeps st) (fun q hq => Heap.lt_size (N q hq).1) lv
end
section
variable {prog : Program} {w : World} {A : Around} {E : Value → Shared → Prop} {s' : Shared} {h₀ hx : Heap} {outer : List Env} {L a e : Addr} {m : Str → Option Value} {name : Str} {scope : Scope} {cd : Value}
  {b₀ : Stmt} {suite : List Stmt} {pos np : Pos} {rest : List ExceptHandler} {Q : Flow → Shared → Prop} {news : List (Addr × Obj)} {mean : ExcName → Option Value} {mg mb : Str → Option Value}
theorem caught_fault (hA : A.frames = some (envOf name scope L a cd :: outer)) (R : RaisedN h₀ (envOf name scope L a cd :: outer) e (.ref 44) news s'.heap) (F : Fr h₀ L hx m) (hsm : hx.UpToSlots s'.heap) (X : (hd.heap_1 w.params).In h₀) (T : TopQ mean mg mb h₀)
    (k : ∀ h₆, h₀.StaysIn h₆ → hx.UpToSlots h₆ → (∀ q ∈ news, h₆.get? q.1 = some q.2 ∧ h₀.get? q.1 = none) →
      wpAny (model prog w) (A.mark (some (.ref e))) (execs (b₀ :: suite) (envOf name scope L a cd)) Q (fun _ _ => False) { s' with heap := h₆ })
    (hk : scope.kind = .function := by rfl) (hkx : (envOf name scope L a cd).kindOf (Str.ofString "SheetFault") = some .globalImplicit := by rfl) :
    wpAny (model prog w) A (noteFrame (.ref e) (envOf name scope L a cd))
      (fun _ s₂ => wpAny (model prog w) A (setFlight (.ref e) none) (fun _ s₃ =>
        wpAny (model prog w) A (handleBy (.ref e) (envOf name scope L a cd) (.ExceptHandler (some (.Name (Str.ofString "SheetFault") np)) none (b₀ :: suite) pos :: rest)) Q E s₃) E s₂) E s' := by
  obtain ⟨hp, g, d, tk, os⟩ := s'
  obtain ⟨B, a0, hB, hl, hfl⟩ := R
  refine wpAny_looks_onW hA rfl hfl fun h₄ hheld₄ hsm₄ => ?_
  refine wpAny_landsW hheld₄ fun h₅ hheld hsm₅ => ?_
  have F₅ : Fr h₀ L h₅ m := F.of_stays (fun b o q => hheld.1 b o (hB b o q)) (hsm.trans (hsm₄.trans hsm₅))
  obtain ⟨ob, hob, hobc⟩ := hheld.there
  obtain ⟨nm, q, N, bs, sn, sub, ab, col, dd, k0, k1, k2, k3, k5, hC⟩ := in_class (X.keeps F₅.keep)
  refine wpAny_handleBy_cons (codeAny_handlers_test (name_K F₅ X (topRead_of T) (v := .ref 44) rfl ?_ hk hkx (by decide))) (by intro q; cases q)
  refine wpAny_excMatches_sub_self hC hob hobc rfl (codeAny_handlers_suite ?_)
  refine lands_againW hheld fun h₆ hfl₆ hsm₆ => ?_
  exact wpAny_noRaise (k h₆ (fun b o q => hfl₆.1 b o (hB b o q)) (hsm.trans (hsm₄.trans (hsm₅.trans hsm₆))) fun q hq => ⟨hfl₆.1 _ _ (hl q hq).1, (hl q hq).2⟩)
end
end Mine
end
section
open PySem PySem.W PySem.Calls PyProof.Rows
namespace Mine
theorem flush_XE9 : True := by
  w_top off
  trivial
local macro_rules | `(tactic| walk_at "no such node") => `(tactic| skip)
theorem rows_e (w : World) (R : Addr) (n : Nat) (news) (hR : (R, listOf ([] : List Value).toArray n) ∈ news) (k : Int) (tk tw : Tok) (wd : Nat) (hw0 : 1 ≤ wd) (hw1 : wd ≤ 2) :
    ClaimsS w 103 16 140 [.ref R, .int wd tw, .int k tk] news (fun r n => n = news ∧ ∃ t, r = .bytes (byteArr []) t) := by
  unfold ClaimsS
  k_fill
  intro dp un cn cs a' ccd cl outer A₀ base h₀ L m mean mg mb s Q E B F X N T hk hd hu hret
  refine ws_call ?_
  k_dflt (refine' cs_def ?k1 ?k2 ?k3 ?k4 ?k5 ?kA ?kF ?kK ?k6 ?k7 ?k8 ?k9 ?kB ?_ ?c2 ?c3 ?c4 ?c5; (case kA => exact rfl); (case kF => exact rfl); (case kK => assumption); (case k1 => k_asm); (case k2 => k_asm); (case k3 => k_asm); (case k4 => k_asm); (case k5 => k_asm); (case k6 => k_is); (case k7 => k_is); (case k8 => ktr_room); (case k9 => exact binds_K (by k_in) rfl (by k_is) rfl rfl rfl); (case c5 => decide); (case kB => exact locs rfl); (case c2 => exact rfl); (case c3 => exact rfl); (case c4 => exact rfl); intro g' L' h' FG' F' N' B' X' T' hlt; (try dsimp only); (try k_fold))
  refine ws_execs_cons (ws_Assign_swapped ?_ rfl rfl)
  refine ws_Tuple (ws_spliced_cons ?_)
  change WS _ _ (eval (PySem.Expr.Call _ _ _ _) _) _ _ _
  refine ws_Call_Name ?_
  k_steps
  refine ws_callWith_type0 (ba_newX rfl (by assumption) (by assumption) fun ba h1 F1 N1 hapN => ?_)
  dsimp only
  refine ws_spliced_cons (ws ?_)
  change wpAny _ _ (eval _ _) _ _ _
  k_steps
  refine call_bytes_int (by omega) (by omega) fun t5 k5 => ?_
  refine ws_spliced_nil ?_
  rw [show ((4 : Int) * (wd : Int)).toNat = 4 * wd by omega, byteArr_zeros]
  dsimp only
  k_steps
  with_reducible rename Fr _ _ _ _ => F2
  with_reducible rename News _ _ _ _ => N2
  have N3 : News g' L' _ ((ba, baOf (byteArr [])) :: news) := newsSub N2 fun p hp => .tail _ hp
  clear N2
  refine ws_execs_cons (ws_For ?_ fun _ => rfl)
  k_steps
  with_reducible rename Fr _ _ _ _ => F2
  with_reducible rename News _ _ _ _ => N2
  refine cs_forl (od := listOf ([] : List Value).toArray n) (fun i m led => RowsInv ba news (kindL k) [] wd _ 0 m led) rfl (N2.isList (.tail _ hR)) (N2.ne (.tail _ hR)) (.inr ⟨_, fun _ _ _ hI => hI.mem hR⟩) (.inl fun _ _ => rfl) F2 N2 (RowsInv.start rfl) ?_ ?_
  · intro i v m₁ led h tk own hi hv hI hne F3 N3
    exact absurd hi (Nat.not_lt_zero _)
  · intro h tk m' led' F3 N3 hI
    obtain ⟨acc, al, ta, o1, o2, o3, hal, hall, hacc, hsum, rfl, rfl⟩ := hI
    obtain rfl : acc = [] := List.length_eq_zero_iff.mp (Nat.le_zero.mp hacc)
    clear N2 F2
    refine ws_execs_any ?_
    k_steps
    refine bytes_baX N3 (.head _) (by rw [byteArr_size, sizeLine_eq]; exact Nat.zero_le _) fun t9 k9 => ?_
    k_steps
    with_reducible rename Fr _ _ _ _ => F5
    with_reducible rename News _ _ _ _ => N5
    exact hret _ _ _ _ ⟨rfl, _, rfl⟩ F5 (newsSub N5 fun p hp => .tail _ hp)
/-- a call from the law's own frame -/
abbrev ClaimsL (w : World) (f : Addr) (dd uu : Nat) (vs : List Value) (news : List (Addr × Obj)) (r : Value) : Prop :=
  ∀ (dp un : Nat) (cn : Str) (cs : Scope) (a : Addr) (ccd : Value) (cl : List (Str × Addr)) (A₀ : Around) (h₀ : Heap) (L : Addr) (m : Str → Option Value)
    (mean : ExcName → Option Value) (mg mb : Str → Option Value) (s : Shared) (Q E : Value → Shared → Prop),
    Below A₀ h₀ [] h₀ → Fr h₀ L s.heap m → (hd.heap_1 w.params).In h₀ → News h₀ L s.heap news → TopQ mean mg mb h₀ → cs.kind = .function → dp + dd < recursionLimit → un + uu < cLine →
    (∀ h' tk', Fr h₀ L h' m → News h₀ L h' news → Q r { s with heap := h', toks := tk' }) →
    WS (model Challenge.rw_xm0716_01.row.prog w) (ktrTop dp un (some []) cn cs L a ccd cl []) (call (.ref f) vs) Q E s
theorem refused_c (w : World) (R : Addr) (n : Nat) (vs : List Value) (rws : List Cols) (news) (hR : (R, listOf vs.toArray n) ∈ news) (hrows : RowsAt news vs rws) (k : Int) (tk tw : Tok) (wd : Nat) (hw0 : 1 ≤ wd) (hw1 : wd ≤ 2) (hl : rws.length ≤ 8)
    (hwd : ∀ r ∈ rws, r.length = wd) (hdr : ∀ r ∈ rws, ∀ c ∈ r, Drawn c.1 c.2.1 c.2.2.1 c.2.2.2) (hk9 : k < 0 ∨ 4 < k) :
    ClaimsL w 162 20 200 [.ref R, .int wd tw, .int k tk] news (.bool (decide (0 < rws.length))) := by
  unfold ClaimsL
  k_fill
  intro dp un cn cs a' ccd cl A₀ h₀ L m mean mg mb s Q E B F X N T hk hd hu hret
  refine ws_call ?_
  k_dflt (refine' cs_defR ?k1 ?k2 ?k3 ?k4 ?k5 ?kA ?kF ?kK ?k6 ?k7 ?k8 ?k9 ?kB ?_ ?c2 ?c3 ?c4 ?c5; (case kA => exact rfl); (case kF => exact rfl); (case kK => assumption); (case k1 => k_asm); (case k2 => k_asm); (case k3 => k_asm); (case k4 => k_asm); (case k5 => k_asm); (case k6 => k_is); (case k7 => k_is); (case k8 => ktr_room); (case k9 => exact BindsTo.of_eq rfl); (case c5 => decide); (case kB => exact locs rfl); (case c2 => exact rfl); (case c3 => exact rfl); (case c4 => exact rfl); intro g' L' h' FG' F' N' B' X' T' hlt lv; (try dsimp only); (try k_fold))
  refine ws_execs_cons (ws_Try_except ?_)
  refine ws_execs_cons (ws_Expr ?_ rfl rfl)
  refine ws_Call_Name ?_
  k_steps
  refine ws_callWith_K (K := Mine.hd.heap_1 w.params) (by k_is) ?_
  k_steps
  with_reducible rename Fr _ _ _ _ => F2
  with_reducible rename News _ _ _ _ => N2
  by_cases hpos : 0 < rws.length
  · rw [decide_eq_true hpos] at hret
    refine rows_x w R n vs rws _ hR hrows k tk tw wd hw0 hw1 hl hpos hwd hdr hk9 _ _ _ _ _ _ _ _ _ _ _ _ _ _ _ _ _ _ _ (by k_asm) F2 (by k_asm) N2 (by k_asm) rfl (by ktr_room) (by ktr_units) fun e g₂ h9 tk9 hRN hF₂ hU => ?_
    have FL : Fr h₀ L' g₂ _ := ⟨hF₂.ns, fun b o e => hF₂.keep b o (FG'.keep b o e), Nat.le_trans FG'.above (Nat.le_trans (Nat.le_of_lt FG'.ns.lt) hF₂.above)⟩
    refine caught_fault (Around.frames_deeper (Below.stack (by assumption))) hRN FL hU X T fun h₆ st hs hn => ?_
    have F7 := FL.of_stays st hs
    k_steps
    exact hret _ _ (FG'.of_stays st ((Heap.UpToSlots.of_keeps hF₂.keep).trans hs)) fun q hq => ⟨(hn q hq).1, (N q hq).2.1, (hn q hq).2⟩
  · have h0 : rws = [] := List.length_eq_zero_iff.mp (by omega)
    subst h0
    obtain rfl : vs = [] := List.length_eq_zero_iff.mp hrows.1
    refine use_s (rows_e w R n _ hR k tk tw wd hw0 hw1) (by k_asm) F2 (by k_asm) N2 (by k_asm) rfl (by ktr_room) (by ktr_units) ?_
    rintro r9 n9 h9 tk9 ⟨rfl, t9, rfl⟩ F9 N9
    clear F2 N2
    dsimp only
    refine ws_execs_nil ?_
    dsimp only
    k_steps
    refine ws_execs_any ?_
    k_steps
    with_reducible rename Fr _ _ _ _ => F5
    with_reducible rename News _ _ _ _ => N5
    exact lv (.bool false) _ (leaveK_ F5 N5 fun F6 N6 => hret _ _ F6 N6)
end Mine
end
section
open PySem PySem.W PySem.Calls PyProof.Rows
namespace Mine
/-- a def with cells, called from without -/
theorem cs_cells {prog : Program} {w : World} {A : Around} {R : Result → Shared → Prop} {s : Shared} {name : Str} {params : Arguments} {body : List Stmt} {scope : Scope}
    {pm cd doc : Value} {a : Addr} {o : Obj} {args : List Value} {binds : List (Str × Value)}
    (hroom : A.depth < recursionLimit) (ho : s.heap.get? a = some o) (hdata : o.data = .func (Calls.docDef name params body scope pm cd doc)) (hlim : s.heap.NoLimit) (hcd : s.heap.CodeRec cd name)
    (hbind : bindArgs (Calls.docDef name params body scope pm cd doc) ⟨args, []⟩ = pure binds)
    (hkind : ∀ x ∈ binds, scope.names.lookup x.1 = some .local ∨ (scope.names.lookup x.1 = some .cell ∧ ((cellsFrom (s.heap.objs.size + 1) scope.names []).lookup x.1).isSome = true))
    (hnd : ((cellsFrom 0 scope.names []).map (·.1)).Nodup)
    (h : ∀ h₁ tk cells, Fr s.heap s.heap.objs.size h₁ (bindL (envOfC name scope s.heap.objs.size a cd).kindOf binds fun _ => none) → News s.heap s.heap.objs.size h₁ cells →
      CellsAre (bindC (envOfC name scope s.heap.objs.size a cd).kindOf binds fun _ => none) (cellsFrom (s.heap.objs.size + 1) scope.names []) cells →
      WS (model prog w) (A.deeper (envOfC name scope s.heap.objs.size a cd)) (execs body (envOfC name scope s.heap.objs.size a cd))
        (fun f s' => R (.ok (.ret (match f with | .ret v => v | _ => .none))) s') (fun _ _ => False) { s with heap := h₁, toks := tk })
    (hco : scope.isCoroutine = false := by rfl) (hgen : scope.isGenerator = false := by rfl) (hk : scope.kind = .function := by rfl) :
    CS (model prog w) A (.call (.ref a) ⟨args, []⟩) R s := by
  refine cs_call_function (fd := Calls.docDef name params body scope pm cd doc) (body := body) hroom ho hdata hco hgen rfl hcd (wpAny_of_eq hbind ?_)
  refine wpAny_newFunctionEnv_cells hk hkind fun env' he s' x => ?_
  subst he
  refine ⟨hlim.keeps x.toInCall.keep, cs_func ?_⟩
  obtain ⟨h₁, tk, rfl, _⟩ := x.done
  obtain ⟨cells, N, Y⟩ := Cl.news (h₀ := s.heap) (Nat.le_refl _) fun n c hm => ⟨x.cell n c (lookup_of_mem_nodup (cellsFrom_names scope.names 0 (s.heap.objs.size + 1) [] [] rfl ▸ hnd) hm), x.above n c hm⟩
  exact ws_mono (h h₁ tk cells ⟨x.toInCall.ns, fun b o e => x.toInCall.keep b o e, Nat.le_refl _⟩ N Y) (fun _ _ q => q) fun _ _ q => q.elim
end Mine
end
section
open PySem PySem.W PySem.Calls PyProof.Rows
namespace Mine
theorem RowAt.nil {news : List (Addr × Obj)} : RowAt news [] [] := ⟨rfl, fun i v h => by simp at h⟩
theorem RowAt.cons {news : List (Addr × Obj)} {us : List Value} {cols : List (Int × Int × Int × Int)} {T : Addr} {o : Obj} {r g b a : Int} (hm : (T, o) ∈ news) (ht : Tup4 o r g b a) (h : RowAt news us cols) : RowAt news (.ref T :: us) ((r, g, b, a) :: cols) := by
  refine ⟨congrArg (· + 1) h.1, fun i v hv => ?_⟩
  cases i with
  | zero => exact ⟨T, o, (r, g, b, a), by simpa using hv.symm, rfl, hm, ht⟩
  | succ i =>
    obtain ⟨T', o', c, e1, e2, e3, e4⟩ := h.2 i v (by simpa using hv)
    exact ⟨T', o', c, e1, by simpa using e2, e3, e4⟩
theorem RowsAt.nil {news : List (Addr × Obj)} : RowsAt news [] [] := ⟨rfl, fun i v h => by simp at h⟩
theorem RowsAt.cons {news : List (Addr × Obj)} {vs us : List Value} {rws : List Cols} {R : Addr} {n : Nat} {c : Cols} (hm : (R, listOf us.toArray n) ∈ news) (hr : RowAt news us c) (h : RowsAt news vs rws) : RowsAt news (.ref R :: vs) (c :: rws) := by
  refine ⟨congrArg (· + 1) h.1, fun i v hv => ?_⟩
  cases i with
  | zero => exact ⟨R, n, us, c, by simpa using hv.symm, rfl, hm, hr⟩
  | succ i =>
    obtain ⟨R', n', us', c', e1, e2, e3, e4⟩ := h.2 i v (by simpa using hv)
    exact ⟨R', n', us', c', e1, by simpa using e2, e3, e4⟩
theorem lit_rows : rowsL (kindL 2) [[(0, 0, 0, 255)], [(0, 0, 0, 255)]] (List.replicate (4 * 1) 0) = [2, 0, 0, 0, 255, 2, 0, 0, 0, 0] := by decide +kernel
theorem lit_drawn : Drawn 0 0 0 255 := ⟨by decide, by decide, by decide, by decide, by decide, by decide, by decide, by decide⟩
theorem colour_u (w : World) (src : Addr) (x y : Int) (n : Nat) (tx ty : Tok) (news g) (U : UpdF src (intL x y tx ty n) news g) (h0 : 0 ≤ x) (h1 : 0 ≤ y) :
    Claims w 131 5 40 [.ref src] news (fun r news' => ColU news g r news') := by
  obtain ⟨post, hap, hn, hg⟩ := splitU U
  intro dp un gd cn cs a' ccd cl outer A₀ base h₀ L m mean mg mb s Q E B F X N T hk hd hu hret
  refine use_c (colour_c w src x y n tx ty post h0 h1 hap) B F X (newsSub N fun p hp => (hn p).mpr hp) T hk hd hu ?_
  rintro v n' h' tk' ⟨T9, r, g', b, al, tr, tg, tb, ta, k, rfl, hd', hT, x', y', tx', ty', m', hx, hy, rfl⟩ F' N'
  refine hret _ _ _ _ ⟨T9, r, g', b, al, tr, tg, tb, ta, k, rfl, hd', neAll_of fun q hq => hT.at q ((hn q).mp hq), x', y', tx', ty', m', hx, hy, rfl⟩ F' (newsSub N' fun p hp => ?_)
  rcases List.mem_cons.mp hp with e | hp
  · exact e ▸ .head _
  · exact .tail _ ((hg _ p).mp hp)
theorem spl2 {p1 p2 G : Prop} (h : p1 ∧ p2) (k : p1 → p2 → G) : G := k h.1 h.2
theorem spl3 {p1 p2 p3 G : Prop} (h : p1 ∧ p2 ∧ p3) (k : p1 → p2 → p3 → G) : G := k h.1 h.2.1 h.2.2
theorem spl4 {p1 p2 p3 p4 G : Prop} (h : p1 ∧ p2 ∧ p3 ∧ p4) (k : p1 → p2 → p3 → p4 → G) : G := k h.1 h.2.1 h.2.2.1 h.2.2.2
theorem spl5 {p1 p2 p3 p4 p5 G : Prop} (h : p1 ∧ p2 ∧ p3 ∧ p4 ∧ p5) (k : p1 → p2 → p3 → p4 → p5 → G) : G := k h.1 h.2.1 h.2.2.1 h.2.2.2.1 h.2.2.2.2
theorem spl6 {p1 p2 p3 p4 p5 p6 G : Prop} (h : p1 ∧ p2 ∧ p3 ∧ p4 ∧ p5 ∧ p6) (k : p1 → p2 → p3 → p4 → p5 → p6 → G) : G := k h.1 h.2.1 h.2.2.1 h.2.2.2.1 h.2.2.2.2.1 h.2.2.2.2.2
theorem spl7 {p1 p2 p3 p4 p5 p6 p7 G : Prop} (h : p1 ∧ p2 ∧ p3 ∧ p4 ∧ p5 ∧ p6 ∧ p7) (k : p1 → p2 → p3 → p4 → p5 → p6 → p7 → G) : G := k h.1 h.2.1 h.2.2.1 h.2.2.2.1 h.2.2.2.2.1 h.2.2.2.2.2.1 h.2.2.2.2.2.2
theorem spl8 {p1 p2 p3 p4 p5 p6 p7 p8 G : Prop} (h : p1 ∧ p2 ∧ p3 ∧ p4 ∧ p5 ∧ p6 ∧ p7 ∧ p8) (k : p1 → p2 → p3 → p4 → p5 → p6 → p7 → p8 → G) : G := k h.1 h.2.1 h.2.2.1 h.2.2.2.1 h.2.2.2.2.1 h.2.2.2.2.2.1 h.2.2.2.2.2.2.1 h.2.2.2.2.2.2.2
theorem spl9 {p1 p2 p3 p4 p5 p6 p7 p8 p9 G : Prop} (h : p1 ∧ p2 ∧ p3 ∧ p4 ∧ p5 ∧ p6 ∧ p7 ∧ p8 ∧ p9) (k : p1 → p2 → p3 → p4 → p5 → p6 → p7 → p8 → p9 → G) : G := k h.1 h.2.1 h.2.2.1 h.2.2.2.1 h.2.2.2.2.1 h.2.2.2.2.2.1 h.2.2.2.2.2.2.1 h.2.2.2.2.2.2.2.1 h.2.2.2.2.2.2.2.2
theorem spl10 {p1 p2 p3 p4 p5 p6 p7 p8 p9 p10 G : Prop} (h : p1 ∧ p2 ∧ p3 ∧ p4 ∧ p5 ∧ p6 ∧ p7 ∧ p8 ∧ p9 ∧ p10) (k : p1 → p2 → p3 → p4 → p5 → p6 → p7 → p8 → p9 → p10 → G) : G := k h.1 h.2.1 h.2.2.1 h.2.2.2.1 h.2.2.2.2.1 h.2.2.2.2.2.1 h.2.2.2.2.2.2.1 h.2.2.2.2.2.2.2.1 h.2.2.2.2.2.2.2.2.1 h.2.2.2.2.2.2.2.2.2
theorem spl11 {p1 p2 p3 p4 p5 p6 p7 p8 p9 p10 p11 G : Prop} (h : p1 ∧ p2 ∧ p3 ∧ p4 ∧ p5 ∧ p6 ∧ p7 ∧ p8 ∧ p9 ∧ p10 ∧ p11) (k : p1 → p2 → p3 → p4 → p5 → p6 → p7 → p8 → p9 → p10 → p11 → G) : G := k h.1 h.2.1 h.2.2.1 h.2.2.2.1 h.2.2.2.2.1 h.2.2.2.2.2.1 h.2.2.2.2.2.2.1 h.2.2.2.2.2.2.2.1 h.2.2.2.2.2.2.2.2.1 h.2.2.2.2.2.2.2.2.2.1 h.2.2.2.2.2.2.2.2.2.2
theorem spl12 {p1 p2 p3 p4 p5 p6 p7 p8 p9 p10 p11 p12 G : Prop} (h : p1 ∧ p2 ∧ p3 ∧ p4 ∧ p5 ∧ p6 ∧ p7 ∧ p8 ∧ p9 ∧ p10 ∧ p11 ∧ p12) (k : p1 → p2 → p3 → p4 → p5 → p6 → p7 → p8 → p9 → p10 → p11 → p12 → G) : G := k h.1 h.2.1 h.2.2.1 h.2.2.2.1 h.2.2.2.2.1 h.2.2.2.2.2.1 h.2.2.2.2.2.2.1 h.2.2.2.2.2.2.2.1 h.2.2.2.2.2.2.2.2.1 h.2.2.2.2.2.2.2.2.2.1 h.2.2.2.2.2.2.2.2.2.2.1 h.2.2.2.2.2.2.2.2.2.2.2
theorem colour_k (w : World) (src : Addr) (x y : Int) (n : Nat) (tx ty : Tok) (news g) (U : UpdF src (intL x y tx ty n) news g) (h0 : 0 ≤ x) (h1 : 0 ≤ y)
    {dp un : Nat} {gd : Option (List Code)} {cn : Str} {cs : Scope} {a' : Addr} {ccd : Value} {cl : List (Str × Addr)} {outer : List Env} {A₀ : Around} {base h₀ : Heap} {L : Addr} {m : Str → Option Value}
    {mean : ExcName → Option Value} {mg mb : Str → Option Value} {s : Shared} {Q E : Value → Shared → Prop}
    (B : Below A₀ base outer h₀) (F : Fr h₀ L s.heap m) (X : (hd.heap_1 w.params).In h₀) (N : News h₀ L s.heap news) (T : TopQ mean mg mb h₀) (hk : cs.kind = .function) (hd : dp + 5 < recursionLimit) (hu : un + 40 < cLine)
    (ret : ∀ T r g' b al tr tg tb ta k x' y' tx' ty' m' h' tk', Drawn r g' b al → NeAll T news → 0 ≤ x' → 0 ≤ y' → Fr h₀ L h' m → News h₀ L h' ((T, tupO [.int r tr, .int g' tg, .int b tb, .int al ta] k) :: g (intL x' y' tx' ty' m')) → Q (.ref T) { s with heap := h', toks := tk' }) :
    wpAny (model Challenge.rw_xm0716_01.row.prog w) (ktrTop dp un gd cn cs L a' ccd cl outer) (call (.ref 131) [.ref src]) Q E s := by
  refine use_c (colour_u w src x y n tx ty news g U h0 h1) B F X N T hk hd hu ?_
  rintro v n' h' tk' ⟨T9, r, g', b, al, tr, tg, tb, ta, k, rfl, hd', hT, x', y', tx', ty', m', hx, hy, rfl⟩ F' N'
  exact ret T9 r g' b al tr tg tb ta k x' y' tx' ty' m' h' tk' hd' hT hx hy F' N'
def DrawnAll (c : Cols) : Prop := ∀ q ∈ c, Drawn q.1 q.2.1 q.2.2.1 q.2.2.2
theorem DrawnAll.nil : DrawnAll [] := fun _ h => nomatch h
theorem DrawnAll.cons {r g b a : Int} {c : Cols} (h : Drawn r g b a) (hc : DrawnAll c) : DrawnAll ((r, g, b, a) :: c) := fun q hq => by
  rcases List.mem_cons.mp hq with rfl | hq
  · exact h
  · exact hc q hq
/-- the rows have been drawn -/
def StRows (h₀ : Heap) (L : Addr) (m : Str → Option Value) (cW cS : Addr × Obj) (D : Addr) (wd : Nat) (s : Shared) (f : Flow) (s' : Shared) : Prop :=
  f = .next ∧ ∃ h' tk' R1 R2 us1 us2 n1 n2 c1 c2 rest x y tx ty nn, s' = { s with heap := h', toks := tk' } ∧ Fr h₀ L h' (fun z => if z = Str.ofString "second" then some (.ref R2) else if z = Str.ofString "first" then some (.ref R1) else m z) ∧
    News h₀ L h' ((D, intL x y tx ty nn) :: rest) ∧ NeAll D rest ∧ 0 ≤ x ∧ 0 ≤ y ∧ cW ∈ rest ∧ cS ∈ rest ∧ (R1, listOf us1.toArray n1) ∈ rest ∧ (R2, listOf us2.toArray n2) ∈ rest ∧ RowAt rest us1 c1 ∧ RowAt rest us2 c2 ∧ c1.length = wd ∧ c2.length = wd ∧ DrawnAll c1 ∧ DrawnAll c2
theorem cutRows {prog : Program} {w : World} {A : Around} {E : Value → Shared → Prop} {s : Shared} {h₀ : Heap} {L : Addr} {m : Str → Option Value} {env : Env} {st : Stmt} {rest : List Stmt} {Q : Flow → Shared → Prop} {oD : Obj} {cW cS : Addr × Obj} {D : Addr} (wd : Nat) (_F : Fr h₀ L s.heap m) (_N : News h₀ L s.heap [(D, oD), cW, cS])
    (h1 : wpAny (model prog w) A (exec st env) (StRows h₀ L m cW cS D wd s) (fun _ _ => False) s)
    (h2 : ∀ h' tk' R1 R2 us1 us2 n1 n2 c1 c2 rst x y tx ty nn, Fr h₀ L h' (fun z => if z = Str.ofString "second" then some (.ref R2) else if z = Str.ofString "first" then some (.ref R1) else m z) →
      News h₀ L h' ((D, intL x y tx ty nn) :: rst) → NeAll D rst → 0 ≤ x → 0 ≤ y → cW ∈ rst → cS ∈ rst → (R1, listOf us1.toArray n1) ∈ rst → (R2, listOf us2.toArray n2) ∈ rst → RowAt rst us1 c1 → RowAt rst us2 c2 → c1.length = wd → c2.length = wd → DrawnAll c1 → DrawnAll c2 →
      WS (model prog w) A (execs rest env) Q E { s with heap := h', toks := tk' }) :
    WS (model prog w) A (execs (st :: rest) env) Q E s := by
  refine ws_execs_cons (ws (wpAny_mono h1 ?_ fun _ _ e => e.elim))
  rintro f s' ⟨rfl, h', tk', R1, R2, us1, us2, n1, n2, c1, c2, rst, x, y, tx, ty, nn, rfl, F', N', a1, a2, a3, a4, a5, a6, a7, a8, a9, a10, a11, a12, a13⟩
  exact h2 h' tk' R1 R2 us1 us2 n1 n2 c1 c2 rst x y tx ty nn F' N' a1 a2 a3 a4 a5 a6 a7 a8 a9 a10 a11 a12 a13
theorem mkRows {h₀ h' : Heap} {L D R1 R2 : Addr} {m : Str → Option Value} {pre post : List (Addr × Obj)} {cW cS : Addr × Obj} {wd n1 n2 nn tk' : Nat} {us1 us2 : List Value} {c1 c2 : Cols} {x y : Int} {tx ty : Tok} {s s' : Shared}
    (F : Fr h₀ L h' (fun z => if z = Str.ofString "second" then some (.ref R2) else if z = Str.ofString "first" then some (.ref R1) else m z)) (N : News h₀ L h' (pre ++ (D, intL x y tx ty nn) :: post)) (ne : NeAll D (pre ++ post)) (hx : 0 ≤ x) (hy : 0 ≤ y)
    (mW : cW ∈ pre ++ post) (mS : cS ∈ pre ++ post) (r1 : (R1, listOf us1.toArray n1) ∈ pre ++ post) (r2 : (R2, listOf us2.toArray n2) ∈ pre ++ post) (a1 : RowAt (pre ++ post) us1 c1) (a2 : RowAt (pre ++ post) us2 c2) (l1 : c1.length = wd) (l2 : c2.length = wd) (d1 : DrawnAll c1) (d2 : DrawnAll c2) (hs : s' = { s with heap := h', toks := tk' }) :
    StRows h₀ L m cW cS D wd s .next s' := by
  refine ⟨rfl, h', tk', R1, R2, us1, us2, n1, n2, c1, c2, pre ++ post, x, y, tx, ty, nn, hs, F, newsSub N fun p hp => ?_, ne, hx, hy, mW, mS, r1, r2, a1, a2, l1, l2, d1, d2⟩
  rcases List.mem_cons.mp hp with e | hp
  · exact e ▸ List.mem_append_right _ (.head _)
  · rcases List.mem_append.mp hp with hp | hp
    · exact List.mem_append_left _ hp
    · exact List.mem_append_right _ (.tail _ hp)
theorem pickRow {led : List (Addr × Obj)} {R1 R2 : Addr} {i : Nat} {r : Value} {us1 us2 : List Value} {n1 n2 wd : Nat} {c1 c2 : Cols} (h : [Value.ref R2, .ref R2, .ref R1][i]? = some r) (m1 : (R1, listOf us1.toArray n1) ∈ led) (m2 : (R2, listOf us2.toArray n2) ∈ led)
    (a1 : RowAt led us1 c1) (a2 : RowAt led us2 c2) (l1 : c1.length = wd) (l2 : c2.length = wd) (d1 : DrawnAll c1) (d2 : DrawnAll c2) :
    ∃ Rs us ns cs, r = .ref Rs ∧ (Rs, listOf us.toArray ns) ∈ led ∧ RowAt led us cs ∧ cs.length = wd ∧ DrawnAll cs := by
  match i, h with
  | 0, h => exact ⟨R2, us2, n2, c2, (Option.some.inj h).symm, m2, a2, l2, d2⟩
  | 1, h => exact ⟨R2, us2, n2, c2, (Option.some.inj h).symm, m2, a2, l2, d2⟩
  | 2, h => exact ⟨R1, us1, n1, c1, (Option.some.inj h).symm, m1, a1, l1, d1⟩
  | n + 3, h => simp at h
theorem pickRows {led rst : List (Addr × Obj)} {l1 l2 l3 l4 R1 Rs : Addr} {i k1 k2 k3 k4 n1 ns wd : Nat} {r : Value} {us1 us : List Value} {c1 cs : Cols} (h : [Value.ref l1, .ref l2, .ref l3, .ref l4][i]? = some r)
    (b1 : (l1, listOf [.ref R1, .ref Rs].toArray k1) ∈ led) (b2 : (l2, listOf [.ref R1, .ref Rs].toArray k2) ∈ led) (b3 : (l3, listOf [.ref R1].toArray k3) ∈ led) (b4 : (l4, listOf ([] : List Value).toArray k4) ∈ led)
    (hs : ∀ p ∈ rst, p ∈ led) (m1 : (R1, listOf us1.toArray n1) ∈ rst) (ms : (Rs, listOf us.toArray ns) ∈ rst) (a1 : RowAt rst us1 c1) (as : RowAt rst us cs) (l1' : c1.length = wd) (ls : cs.length = wd) (d1 : DrawnAll c1) (ds : DrawnAll cs) :
    ∃ l vs n rws, r = .ref l ∧ (l, listOf vs.toArray n) ∈ led ∧ RowsAt led vs rws ∧ rws.length ≤ 8 ∧ (∀ q ∈ rws, q.length = wd) ∧ ∀ q ∈ rws, DrawnAll q := by
  have A1 := a1.mono hs
  have A2 := as.mono hs
  have two : RowsAt led [.ref R1, .ref Rs] [c1, cs] := .cons (hs _ m1) A1 (.cons (hs _ ms) A2 .nil)
  have l2' : ∀ q ∈ [c1, cs], q.length = wd := fun q hq => by
    rcases List.mem_cons.mp hq with rfl | hq
    · exact l1'
    · rw [List.mem_singleton.mp hq]; exact ls
  have d2' : ∀ q ∈ [c1, cs], DrawnAll q := fun q hq => by
    rcases List.mem_cons.mp hq with rfl | hq
    · exact d1
    · rw [List.mem_singleton.mp hq]; exact ds
  match i, h with
  | 0, h => exact ⟨l1, _, _, _, (Option.some.inj h).symm, b1, two, (show 2 ≤ 8 by decide), l2', d2'⟩
  | 1, h => exact ⟨l2, _, _, _, (Option.some.inj h).symm, b2, two, (show 2 ≤ 8 by decide), l2', d2'⟩
  | 2, h => exact ⟨l3, _, _, _, (Option.some.inj h).symm, b3, .cons (hs _ m1) A1 .nil, (show 1 ≤ 8 by decide), fun q hq => by rw [List.mem_singleton.mp hq]; exact l1', fun q hq => by rw [List.mem_singleton.mp hq]; exact d1⟩
  | 3, h => exact ⟨l4, _, _, _, (Option.some.inj h).symm, b4, .nil, Nat.zero_le _, (fun q hq => by cases hq), (fun q hq => by cases hq)⟩
  | n + 4, h => simp at h
theorem splitLed {h₀ h : Heap} {L : Addr} {a b c d e pD cW cS : Addr × Obj} {rst : List (Addr × Obj)} (N : News h₀ L h (a :: b :: c :: d :: e :: pD :: cW :: cS :: rst)) :
    ∃ led, led = a :: b :: c :: d :: e :: cW :: cS :: rst ∧ News h₀ L h (pD :: cW :: cS :: led) := ⟨_, rfl, newsSub N fun p hp => by
    simp only [List.mem_cons] at hp ⊢
    rcases hp with h | h | h | h | h | h | h | h | h | h | h <;> simp [h]⟩
theorem pickWrong {i : Nat} {r : Value} {t1 t2 t3 : Tok} (h : [Value.int 5 t1, .int 255 t2, .int (-1) t3][i]? = some r) : ∃ k t, r = .int k t ∧ (k < 0 ∨ 4 < k) := by
  match i, h with
  | 0, h => exact ⟨5, t1, (Option.some.inj h).symm, .inr (by decide)⟩
  | 1, h => exact ⟨255, t2, (Option.some.inj h).symm, .inr (by decide)⟩
  | 2, h => exact ⟨-1, t3, (Option.some.inj h).symm, .inl (by decide)⟩
  | n + 3, h => simp at h
theorem RowsAt.mono {a b : List (Addr × Obj)} {vs : List Value} {rws : List Cols} (hs : ∀ p ∈ a, p ∈ b) (h : RowsAt a vs rws) : RowsAt b vs rws :=
  ⟨h.1, fun i v hv => let ⟨R, n, us, c, e1, e2, e3, e4⟩ := h.2 i v hv; ⟨R, n, us, c, e1, e2, hs _ e3, e4.mono hs⟩⟩
section
variable {prog : Program} {w : World} {A : Around} {E : Value → Shared → Prop} {s : Shared} {Q : Value → Shared → Prop}
theorem ne_tup2 {T1 T2 : Addr} {x y : Array UInt8} {t1 t2 t3 t4 : Tok} (h1 : s.heap.IsTuple T1 #[.bytes x t1, .bytes y t2]) (h2 : s.heap.IsTuple T2 #[.bytes x t3, .bytes y t4]) (hu : A.units < cLine) (h : Q (.bool false) s) :
    wpAny (model prog w) A (compareOp .NotEq (.ref T1) (.ref T2)) Q E s := by
  refine EqBoolInt.of_rcne (SeqAt.RcNeAt.tuples (e := fun _ => true) h1 h2 hu fun j hj1 hj2 => ?_) h
  match j, hj1, hj2 with
  | 0, _, _ => exact fun prog w E Q hq => eqBool_bytes (by rw [decide_eq_true rfl]; exact hq)
  | 1, _, _ => exact fun prog w E Q hq => eqBool_bytes (by rw [decide_eq_true rfl]; exact hq)
theorem ne_nil {lr l : Addr} {vr : List Value} (h1 : s.heap.IsList lr vr.toArray) (h2 : s.heap.IsList l ([] : List Value).toArray) (hu : A.units < cLine) (h : Q (.bool (decide (0 < vr.length))) s) :
    wpAny (model prog w) A (compareOp .NotEq (.ref lr) (.ref l)) Q E s := by
  cases vr with
  | nil => exact EqBoolInt.of_rcne (SeqAt.RcNeAt.lists (e := fun _ => true) h1 h2 rfl hu fun j hj => absurd hj (Nat.not_lt_zero _)) h
  | cons a r => exact EqBoolInt.of_rcne (SeqAt.RcNeAt.lists_lengths h1 h2 (by simp) hu) (by rw [show decide (0 < (a :: r).length) = true from decide_eq_true (Nat.succ_pos _)] at h; exact h)
end
end Mine
end
section
open PySem PySem.W PySem.Calls PyProof.Rows
namespace Mine
theorem flush_XL2 : True := by
  w_top off
  trivial
local macro_rules | `(tactic| walk_at "compareOp NotEq ref ref") => `(tactic| (refine Lock.of ?_))
local macro_rules | `(tactic| k_ne) => `(tactic| (refine neN ?_; (try dsimp only); first | with_reducible (first | assumption | exact Ne.symm (by assumption) | exact Nat.succ_ne_self _ | exact (Nat.succ_ne_self _).symm) | omega))
local macro_rules | `(tactic| walk_at "call ref") => `(tactic| ((with_reducible show wpAny _ _ (call (Value.ref _) _) _ _ _); refine Lock.of ?_))
local macro_rules | `(tactic| walk_at "eval ListComp") => `(tactic| (refine Lock.of ?_))
local macro_rules | `(tactic| walk_at "CompSrc") => `(tactic| (refine Lock.of ?_))
local macro_rules | `(tactic| walk_at "call type:bytes") => `(tactic| (refine Lock.of ?_))
def FrX (h h' : Heap) : Prop := ∃ L m, Fr h L h' m
theorem FrX.mk {h h' : Heap} {L : Addr} {m : Str → Option Value} (F : Fr h L h' m) : FrX h h' := ⟨L, m, F⟩
theorem law_holds : PySem.Challenge.rw_xm0716_01.Holds := (fun x => Mine.hd (And.intro Mine.top_left x)) (by
  k_fill
  intro w s₀ s₁ mg mb G Y fa o pm cd doc dV kV ho hd' hcd hD hmg hg args vals as hpre hlay hrd hwl hlo
  have KX := kIn_of Y
  have X := (Ground.X G).1
  have V := (Ground.X G).2
  refine Ground.open G ?_
  intro T B D TE TW
  try (refine guard_noD D (by decide +kernel) ?_; clear D)
  obtain ⟨_, _, M⟩ := bmod_of_top T
  have TA := at_of_top T
  try (obtain ⟨_, _, he, B0⟩ := based_of_top T rfl hmg ho hd'; have he' : cd = _ := he; subst he'; clear he)
  clear hmg
  wrow_args hpre hlay hrd hwl hlo
  have hgens := hg
  refine ws_mono (Q := fun v s' => v = .bool true ∧ ∃ h' tk', s' = { s₁ with heap := h', toks := tk' } ∧ FrX s₁.heap h') (E := fun _ _ => False) ?_ (fun v s' h => ?_) (fun _ _ e => e.elim)
  rotate_left
  · obtain ⟨rfl, h', tk', rfl, L9, m9, F9⟩ := h
    wrow_closeG
  have K0 : Below callerA s₁.heap [] s₁.heap := below_caller _
  with_reducible rename Heap.IsList _ _ _ => hL9
  with_reducible rename IntsAre _ _ => hI9
  rename (¬ _ < _) => hc9
  refine ws_call ?_
  have he := Dflts.none hD rfl
  subst he
  have he := Dflts.noKw hD
  subst he
  refine cs_cells (by decide) ho (fd_plain hd') (Top.nolimit T) hcd rfl (kinds_of (by kinds_ok)) (by decide) fun h₁ tk₁ cells F N0 X0 => ?_
  cells_open X0
  rename_i ocW ocS hcA hcB
  dsimp only at F N0 X0 ⊢
  replace hcA : _ = Data.cell none := hcA
  replace hcB : _ = Data.cell none := hcB
  clear X0 hcd hD hd' TA G Y X V B TE TW M hg hgens
  refine ws_execs_cons (ws_If (ws_isTrue_Compare1 (ws_Call_Name ?_)))
  walk1
  refine ws_callWith_K (K := Mine.hd.heap_1 w.params) ?_ ?_ ?_ ?_
  rotate_left 2
  · rfl
  · rfl
  · k_is
  k_steps
  with_reducible rename Fr _ _ _ _ => F2
  with_reducible rename News _ _ _ _ => N2
  have N2' : News s₁.heap s₁.heap.objs.size _ ((_, listOf [.ref _, .ref _].toArray 0) :: (_, listOf [.ref _].toArray 0) :: (_, tupO [.int 0 _, .int 0 _, .int 0 _, .int 255 _] _) :: (_, listOf [.ref _].toArray 0) :: (_, tupO [.int 0 _, .int 0 _, .int 0 _, .int 255 _] _) :: _) := N2
  refine use_s (rows_c w _ 0 _ [[(0, 0, 0, 255)], [(0, 0, 0, 255)]] _ (.head _) (RowsAt.cons (.tail _ (.tail _ (.tail _ (.head _)))) (RowAt.cons (.tail _ (.tail _ (.tail _ (.tail _ (.head _))))) ⟨_, _, _, _, _, rfl⟩ .nil) (RowsAt.cons (.tail _ (.head _)) (RowAt.cons (.tail _ (.tail _ (.head _))) ⟨_, _, _, _, _, rfl⟩ .nil) .nil)) 2 _ _ 1 (by decide) (by decide) (by decide) (by simp) (fun r hr c hc => ?_) (by decide) (by decide)) (by assumption) F2 (by assumption) N2' (by k_asm) rfl (by decide) (by decide) ?_
  · have hr' : r = [(0, 0, 0, 255)] := by simpa using hr
    rw [hr', List.mem_singleton] at hc
    subst hc
    exact lit_drawn
  rintro r9 n9 h9 tk9 ⟨rfl, t9, rfl⟩ F9 N9
  rw [lit_rows]
  clear F2 N2 N2'
  dsimp only
  have N10 : News s₁.heap s₁.heap.objs.size h9 [(s₁.heap.objs.size + 1 + 1, ocW), (s₁.heap.objs.size + 1, ocS)] := newsSub N9 fun p hp => .tail _ (.tail _ (.tail _ (.tail _ (.tail _ hp))))
  clear N9
  k_steps
  refine Lock.open ?_
  with_reducible rename Fr _ _ _ _ => F2
  with_reducible rename News _ _ _ _ => N2
  refine call_bytes_ints (ns := [2, 0, 0, 0, 255, 2, 0, 0, 0, 0]) (N2.isList (.head _)) (.cons _ _ (.cons _ _ (.cons _ _ (.cons _ _ (.cons _ _ (.cons _ _ (.cons _ _ (.cons _ _ (.cons _ _ (.cons _ _ .nil)))))))))) (by decide) (by rw [sizeLine_eq]; show 10 ≤ 16777216; decide) rfl fun h7 t7 k7 hk7 => ?_
  have F7 := F2.keeps hk7
  have N7 := newsSub (N2.grown hk7) (fun p hp => .tail _ hp)
  clear F2 N2 hk7
  k_steps
  refine ws_execs_nil ?_
  dsimp only
  refine ws_execs_any ?_
  k_steps
  refine Lock.open ?_
  with_reducible rename Fr _ _ _ _ => F2
  with_reducible rename News _ _ _ _ => N2
  refine pool_k w _ _ _ hI9 (by omega) _ (by assumption) F2 (by assumption) N2 (by k_asm) rfl (by decide) (by decide) hL9 ?_
  intro D x y tx ty nn h9 tk9 hx hy hD F9 N9
  clear F2 N2
  dsimp only
  k_steps
  with_reducible rename Fr _ _ _ _ => F2
  with_reducible rename News _ _ _ _ => N2
  rename (Obj.data _ = Data.cell (some (Value.ref D))) => hcB2
  have N3 : News s₁.heap s₁.heap.objs.size _ [(D, intL x y tx ty nn), (s₁.heap.objs.size + 1 + 1, ocW), (s₁.heap.objs.size + 1, _)] := N2
  clear N2 hcB
  have hD1 : @Ne Nat (s₁.heap.objs.size + 1 + 1) D := hD.1
  have hD2 : @Ne Nat (s₁.heap.objs.size + 1) D := hD.2.1
  clear hD
  refine ws_execs_any ?_
  k_steps
  refine Lock.open ?_
  with_reducible show wpAny _ _ (call (Value.ref 117) [Value.ref _, Value.int _ _]) _ _ _
  refine' take_k _ _ _ _ _ _ _ _ _ _ _ ?kU ?kx ?ky ?kz ?kw ?k1 ?k2 ?k3 ?k4 ?k5 ?kK ?kd ?ku ?_
  case k4 => k_asm
  case kU => k_updF
  case kx => assumption
  case ky => assumption
  case kz => omega
  case kw => omega
  case k1 => assumption
  case k2 => k_asm
  case k3 => assumption
  case k5 => k_asm
  case kK => exact rfl
  case kd => decide
  case ku => decide
  intro v9 t9 h9 tk9 x9 y9 tx9 ty9 m9 lo9 hi9 hx9 hy9 F9 N9
  (try dsimp only at N9)
  (try dsimp only)
  k_steps
  with_reducible rename Fr _ _ _ _ => F2
  with_reducible rename News _ _ _ _ => N2
  rename (Obj.data _ = Data.cell (some (Value.int _ _))) => hcA2
  clear hcA
  obtain ⟨wd, hwd1, hwd2, hwd⟩ : ∃ wd : Nat, 1 ≤ wd ∧ wd ≤ 2 ∧ 1 + v9 = (wd : Int) := ⟨(1 + v9).toNat, by omega, by omega, by omega⟩
  rw [hwd] at hcA2
  clear lo9 hi9
  refine cutRows wd F2 N2 ?_ ?_
  · obtain rfl | rfl : wd = 1 ∨ wd = 2 := by omega
    · skip
      replace hcA2 : _ = Data.cell (some (Value.int 1 _)) := hcA2
      k_steps
      refine Lock.open ?_
      k_dflt (refine LCg.ListComp_U (F₀ := by k_asm) (by rfl) (by decide) (by rfl) (by decide) (by rfl) ?_)
      k_dflt lcg_toSrc
      refine Lock.open ?_
      k_dflt (refine LCg.CompSrc.range (by rfl) (by k_asm) (by k_asm) (by assumption) (by first | decide | rfl) (by first | rfl | decide) (by first | size_fits | exact Nat.le_of_ble_eq_true rfl) ?_)
      intro g'
      lcg_lit
      k_steps
      refine Lock.open ?_
      k_dflt (refine LCg.ListComp_U (F₀ := by k_asm) (by rfl) (by decide) (by rfl) (by decide) (by rfl) ?_)
      k_steps
      refine Lock.open ?_
      k_dflt (refine LCg.CompSrc.range (by rfl) (by k_asm) (by k_asm) (by assumption) (by first | decide | rfl) (by first | rfl | decide) (by first | size_fits | exact Nat.le_of_ble_eq_true rfl) ?_)
      intro g2'
      lcg_lit
      k_steps
      repeat (with_reducible rename (_ ∧ _) => hh; (first | with_reducible refine spl12 hh ?_ | with_reducible refine spl11 hh ?_ | with_reducible refine spl10 hh ?_ | with_reducible refine spl9 hh ?_ | with_reducible refine spl8 hh ?_ | with_reducible refine spl7 hh ?_ | with_reducible refine spl6 hh ?_ | with_reducible refine spl5 hh ?_ | with_reducible refine spl4 hh ?_ | with_reducible refine spl3 hh ?_ | with_reducible refine spl2 hh ?_); clear hh; intros)
      refine Lock.open ?_
      with_reducible show wpAny _ _ (call (Value.ref 131) [Value.ref _]) _ _ _
      refine' colour_k _ _ _ _ _ _ _ _ _ ?kU ?kx ?ky ?k1 ?k2 ?k3 ?k4 ?k5 ?kK ?kd ?ku ?_
      case k4 => k_asm
      case kU => k_updF
      case kx => assumption
      case ky => assumption
      case k1 => assumption
      case k2 => k_asm
      case k3 => assumption
      case k5 => k_asm
      case kK => exact rfl
      case kd => decide
      case ku => decide
      intro T1 cr1 cg1 cb1 ca1 tr1 tg1 tb1 ta1 kc1 x1 y1 tx1 ty1 m1 h9 tk9 dr1 hT1 hx1 hy1 F9 N9
      (try dsimp only at N9)
      (try dsimp only)
      dsimp only [NeAll] at hT1
      repeat (with_reducible rename (_ ∧ _) => hh; (first | with_reducible refine spl12 hh ?_ | with_reducible refine spl11 hh ?_ | with_reducible refine spl10 hh ?_ | with_reducible refine spl9 hh ?_ | with_reducible refine spl8 hh ?_ | with_reducible refine spl7 hh ?_ | with_reducible refine spl6 hh ?_ | with_reducible refine spl5 hh ?_ | with_reducible refine spl4 hh ?_ | with_reducible refine spl3 hh ?_ | with_reducible refine spl2 hh ?_); clear hh; intros)
      k_steps
      repeat (with_reducible rename (_ ∧ _) => hh; (first | with_reducible refine spl12 hh ?_ | with_reducible refine spl11 hh ?_ | with_reducible refine spl10 hh ?_ | with_reducible refine spl9 hh ?_ | with_reducible refine spl8 hh ?_ | with_reducible refine spl7 hh ?_ | with_reducible refine spl6 hh ?_ | with_reducible refine spl5 hh ?_ | with_reducible refine spl4 hh ?_ | with_reducible refine spl3 hh ?_ | with_reducible refine spl2 hh ?_); clear hh; intros)
      k_steps
      refine Lock.open ?_
      k_dflt (refine LCg.ListComp_U (F₀ := by k_asm) (by rfl) (by decide) (by rfl) (by decide) (by rfl) ?_)
      k_steps
      refine Lock.open ?_
      k_dflt (refine LCg.CompSrc.range (by rfl) (by k_asm) (by k_asm) (by assumption) (by first | decide | rfl) (by first | rfl | decide) (by first | size_fits | exact Nat.le_of_ble_eq_true rfl) ?_)
      intro g2'
      lcg_lit
      k_steps
      repeat (with_reducible rename (_ ∧ _) => hh; (first | with_reducible refine spl12 hh ?_ | with_reducible refine spl11 hh ?_ | with_reducible refine spl10 hh ?_ | with_reducible refine spl9 hh ?_ | with_reducible refine spl8 hh ?_ | with_reducible refine spl7 hh ?_ | with_reducible refine spl6 hh ?_ | with_reducible refine spl5 hh ?_ | with_reducible refine spl4 hh ?_ | with_reducible refine spl3 hh ?_ | with_reducible refine spl2 hh ?_); clear hh; intros)
      refine Lock.open ?_
      with_reducible show wpAny _ _ (call (Value.ref 131) [Value.ref _]) _ _ _
      refine' colour_k _ _ _ _ _ _ _ _ _ ?kU ?kx ?ky ?k1 ?k2 ?k3 ?k4 ?k5 ?kK ?kd ?ku ?_
      case k4 => k_asm
      case kU => k_updF
      case kx => assumption
      case ky => assumption
      case k1 => assumption
      case k2 => k_asm
      case k3 => assumption
      case k5 => k_asm
      case kK => exact rfl
      case kd => decide
      case ku => decide
      intro T2 cr2 cg2 cb2 ca2 tr2 tg2 tb2 ta2 kc2 x2 y2 tx2 ty2 m2 h9 tk9 dr2 hT2 hx2 hy2 F9 N9
      (try dsimp only at N9)
      (try dsimp only)
      dsimp only [NeAll] at hT2
      repeat (with_reducible rename (_ ∧ _) => hh; (first | with_reducible refine spl12 hh ?_ | with_reducible refine spl11 hh ?_ | with_reducible refine spl10 hh ?_ | with_reducible refine spl9 hh ?_ | with_reducible refine spl8 hh ?_ | with_reducible refine spl7 hh ?_ | with_reducible refine spl6 hh ?_ | with_reducible refine spl5 hh ?_ | with_reducible refine spl4 hh ?_ | with_reducible refine spl3 hh ?_ | with_reducible refine spl2 hh ?_); clear hh; intros)
      k_steps
      repeat (with_reducible rename (_ ∧ _) => hh; (first | with_reducible refine spl12 hh ?_ | with_reducible refine spl11 hh ?_ | with_reducible refine spl10 hh ?_ | with_reducible refine spl9 hh ?_ | with_reducible refine spl8 hh ?_ | with_reducible refine spl7 hh ?_ | with_reducible refine spl6 hh ?_ | with_reducible refine spl5 hh ?_ | with_reducible refine spl4 hh ?_ | with_reducible refine spl3 hh ?_ | with_reducible refine spl2 hh ?_); clear hh; intros)
      k_steps
      repeat (with_reducible rename (_ ∧ _) => hh; (first | with_reducible refine spl12 hh ?_ | with_reducible refine spl11 hh ?_ | with_reducible refine spl10 hh ?_ | with_reducible refine spl9 hh ?_ | with_reducible refine spl8 hh ?_ | with_reducible refine spl7 hh ?_ | with_reducible refine spl6 hh ?_ | with_reducible refine spl5 hh ?_ | with_reducible refine spl4 hh ?_ | with_reducible refine spl3 hh ?_ | with_reducible refine spl2 hh ?_); clear hh; intros)
      with_reducible rename Fr _ _ _ _ => FZ
      with_reducible rename News _ _ _ _ => NZ
      refine mkRows (pre := [_, _, _, _]) (post := [_, _]) FZ (newsSub NZ fun p hp => .tail _ hp) ⟨?_, ?_, ?_, ?_, ?_, ?_, trivial⟩ hx2 hy2 (.tail _ (.tail _ (.tail _ (.tail _ (.head _))))) (.tail _ (.tail _ (.tail _ (.tail _ (.tail _ (.head _)))))) (.tail _ (.tail _ (.head _))) (.head _) (RowAt.cons (.tail _ (.tail _ (.tail _ (.head _)))) ⟨_, _, _, _, _, rfl⟩ .nil) (RowAt.cons (.tail _ (.head _)) ⟨_, _, _, _, _, rfl⟩ .nil) rfl rfl (DrawnAll.cons dr1 .nil) (DrawnAll.cons dr2 .nil) rfl
      all_goals (first | exact hD1 | exact hD2 | k_ne)
    · skip
      replace hcA2 : _ = Data.cell (some (Value.int 2 _)) := hcA2
      k_steps
      refine Lock.open ?_
      k_dflt (refine LCg.ListComp_U (F₀ := by k_asm) (by rfl) (by decide) (by rfl) (by decide) (by rfl) ?_)
      k_dflt lcg_toSrc
      refine Lock.open ?_
      k_dflt (refine LCg.CompSrc.range (by rfl) (by k_asm) (by k_asm) (by assumption) (by first | decide | rfl) (by first | rfl | decide) (by first | size_fits | exact Nat.le_of_ble_eq_true rfl) ?_)
      intro g'
      lcg_lit
      k_steps
      refine Lock.open ?_
      k_dflt (refine LCg.ListComp_U (F₀ := by k_asm) (by rfl) (by decide) (by rfl) (by decide) (by rfl) ?_)
      k_steps
      refine Lock.open ?_
      k_dflt (refine LCg.CompSrc.range (by rfl) (by k_asm) (by k_asm) (by assumption) (by first | decide | rfl) (by first | rfl | decide) (by first | size_fits | exact Nat.le_of_ble_eq_true rfl) ?_)
      intro g2'
      lcg_lit
      k_steps
      repeat (with_reducible rename (_ ∧ _) => hh; (first | with_reducible refine spl12 hh ?_ | with_reducible refine spl11 hh ?_ | with_reducible refine spl10 hh ?_ | with_reducible refine spl9 hh ?_ | with_reducible refine spl8 hh ?_ | with_reducible refine spl7 hh ?_ | with_reducible refine spl6 hh ?_ | with_reducible refine spl5 hh ?_ | with_reducible refine spl4 hh ?_ | with_reducible refine spl3 hh ?_ | with_reducible refine spl2 hh ?_); clear hh; intros)
      refine Lock.open ?_
      with_reducible show wpAny _ _ (call (Value.ref 131) [Value.ref _]) _ _ _
      refine' colour_k _ _ _ _ _ _ _ _ _ ?kU ?kx ?ky ?k1 ?k2 ?k3 ?k4 ?k5 ?kK ?kd ?ku ?_
      case k4 => k_asm
      case kU => k_updF
      case kx => assumption
      case ky => assumption
      case k1 => assumption
      case k2 => k_asm
      case k3 => assumption
      case k5 => k_asm
      case kK => exact rfl
      case kd => decide
      case ku => decide
      intro T1 cr1 cg1 cb1 ca1 tr1 tg1 tb1 ta1 kc1 x1 y1 tx1 ty1 m1 h9 tk9 dr1 hT1 hx1 hy1 F9 N9
      (try dsimp only at N9)
      (try dsimp only)
      dsimp only [NeAll] at hT1
      repeat (with_reducible rename (_ ∧ _) => hh; (first | with_reducible refine spl12 hh ?_ | with_reducible refine spl11 hh ?_ | with_reducible refine spl10 hh ?_ | with_reducible refine spl9 hh ?_ | with_reducible refine spl8 hh ?_ | with_reducible refine spl7 hh ?_ | with_reducible refine spl6 hh ?_ | with_reducible refine spl5 hh ?_ | with_reducible refine spl4 hh ?_ | with_reducible refine spl3 hh ?_ | with_reducible refine spl2 hh ?_); clear hh; intros)
      k_steps
      repeat (with_reducible rename (_ ∧ _) => hh; (first | with_reducible refine spl12 hh ?_ | with_reducible refine spl11 hh ?_ | with_reducible refine spl10 hh ?_ | with_reducible refine spl9 hh ?_ | with_reducible refine spl8 hh ?_ | with_reducible refine spl7 hh ?_ | with_reducible refine spl6 hh ?_ | with_reducible refine spl5 hh ?_ | with_reducible refine spl4 hh ?_ | with_reducible refine spl3 hh ?_ | with_reducible refine spl2 hh ?_); clear hh; intros)
      refine Lock.open ?_
      with_reducible show wpAny _ _ (call (Value.ref 131) [Value.ref _]) _ _ _
      refine' colour_k _ _ _ _ _ _ _ _ _ ?kU ?kx ?ky ?k1 ?k2 ?k3 ?k4 ?k5 ?kK ?kd ?ku ?_
      case k4 => k_asm
      case kU => k_updF
      case kx => assumption
      case ky => assumption
      case k1 => assumption
      case k2 => k_asm
      case k3 => assumption
      case k5 => k_asm
      case kK => exact rfl
      case kd => decide
      case ku => decide
      intro T2 cr2 cg2 cb2 ca2 tr2 tg2 tb2 ta2 kc2 x2 y2 tx2 ty2 m2 h9 tk9 dr2 hT2 hx2 hy2 F9 N9
      (try dsimp only at N9)
      (try dsimp only)
      dsimp only [NeAll] at hT2
      repeat (with_reducible rename (_ ∧ _) => hh; (first | with_reducible refine spl12 hh ?_ | with_reducible refine spl11 hh ?_ | with_reducible refine spl10 hh ?_ | with_reducible refine spl9 hh ?_ | with_reducible refine spl8 hh ?_ | with_reducible refine spl7 hh ?_ | with_reducible refine spl6 hh ?_ | with_reducible refine spl5 hh ?_ | with_reducible refine spl4 hh ?_ | with_reducible refine spl3 hh ?_ | with_reducible refine spl2 hh ?_); clear hh; intros)
      k_steps
      repeat (with_reducible rename (_ ∧ _) => hh; (first | with_reducible refine spl12 hh ?_ | with_reducible refine spl11 hh ?_ | with_reducible refine spl10 hh ?_ | with_reducible refine spl9 hh ?_ | with_reducible refine spl8 hh ?_ | with_reducible refine spl7 hh ?_ | with_reducible refine spl6 hh ?_ | with_reducible refine spl5 hh ?_ | with_reducible refine spl4 hh ?_ | with_reducible refine spl3 hh ?_ | with_reducible refine spl2 hh ?_); clear hh; intros)
      k_steps
      refine Lock.open ?_
      k_dflt (refine LCg.ListComp_U (F₀ := by k_asm) (by rfl) (by decide) (by rfl) (by decide) (by rfl) ?_)
      k_steps
      refine Lock.open ?_
      k_dflt (refine LCg.CompSrc.range (by rfl) (by k_asm) (by k_asm) (by assumption) (by first | decide | rfl) (by first | rfl | decide) (by first | size_fits | exact Nat.le_of_ble_eq_true rfl) ?_)
      intro g2'
      lcg_lit
      k_steps
      repeat (with_reducible rename (_ ∧ _) => hh; (first | with_reducible refine spl12 hh ?_ | with_reducible refine spl11 hh ?_ | with_reducible refine spl10 hh ?_ | with_reducible refine spl9 hh ?_ | with_reducible refine spl8 hh ?_ | with_reducible refine spl7 hh ?_ | with_reducible refine spl6 hh ?_ | with_reducible refine spl5 hh ?_ | with_reducible refine spl4 hh ?_ | with_reducible refine spl3 hh ?_ | with_reducible refine spl2 hh ?_); clear hh; intros)
      refine Lock.open ?_
      with_reducible show wpAny _ _ (call (Value.ref 131) [Value.ref _]) _ _ _
      refine' colour_k _ _ _ _ _ _ _ _ _ ?kU ?kx ?ky ?k1 ?k2 ?k3 ?k4 ?k5 ?kK ?kd ?ku ?_
      case k4 => k_asm
      case kU => k_updF
      case kx => assumption
      case ky => assumption
      case k1 => assumption
      case k2 => k_asm
      case k3 => assumption
      case k5 => k_asm
      case kK => exact rfl
      case kd => decide
      case ku => decide
      intro T3 cr3 cg3 cb3 ca3 tr3 tg3 tb3 ta3 kc3 x3 y3 tx3 ty3 m3 h9 tk9 dr3 hT3 hx3 hy3 F9 N9
      (try dsimp only at N9)
      (try dsimp only)
      dsimp only [NeAll] at hT3
      repeat (with_reducible rename (_ ∧ _) => hh; (first | with_reducible refine spl12 hh ?_ | with_reducible refine spl11 hh ?_ | with_reducible refine spl10 hh ?_ | with_reducible refine spl9 hh ?_ | with_reducible refine spl8 hh ?_ | with_reducible refine spl7 hh ?_ | with_reducible refine spl6 hh ?_ | with_reducible refine spl5 hh ?_ | with_reducible refine spl4 hh ?_ | with_reducible refine spl3 hh ?_ | with_reducible refine spl2 hh ?_); clear hh; intros)
      k_steps
      repeat (with_reducible rename (_ ∧ _) => hh; (first | with_reducible refine spl12 hh ?_ | with_reducible refine spl11 hh ?_ | with_reducible refine spl10 hh ?_ | with_reducible refine spl9 hh ?_ | with_reducible refine spl8 hh ?_ | with_reducible refine spl7 hh ?_ | with_reducible refine spl6 hh ?_ | with_reducible refine spl5 hh ?_ | with_reducible refine spl4 hh ?_ | with_reducible refine spl3 hh ?_ | with_reducible refine spl2 hh ?_); clear hh; intros)
      refine Lock.open ?_
      with_reducible show wpAny _ _ (call (Value.ref 131) [Value.ref _]) _ _ _
      refine' colour_k _ _ _ _ _ _ _ _ _ ?kU ?kx ?ky ?k1 ?k2 ?k3 ?k4 ?k5 ?kK ?kd ?ku ?_
      case k4 => k_asm
      case kU => k_updF
      case kx => assumption
      case ky => assumption
      case k1 => assumption
      case k2 => k_asm
      case k3 => assumption
      case k5 => k_asm
      case kK => exact rfl
      case kd => decide
      case ku => decide
      intro T4 cr4 cg4 cb4 ca4 tr4 tg4 tb4 ta4 kc4 x4 y4 tx4 ty4 m4 h9 tk9 dr4 hT4 hx4 hy4 F9 N9
      (try dsimp only at N9)
      (try dsimp only)
      dsimp only [NeAll] at hT4
      repeat (with_reducible rename (_ ∧ _) => hh; (first | with_reducible refine spl12 hh ?_ | with_reducible refine spl11 hh ?_ | with_reducible refine spl10 hh ?_ | with_reducible refine spl9 hh ?_ | with_reducible refine spl8 hh ?_ | with_reducible refine spl7 hh ?_ | with_reducible refine spl6 hh ?_ | with_reducible refine spl5 hh ?_ | with_reducible refine spl4 hh ?_ | with_reducible refine spl3 hh ?_ | with_reducible refine spl2 hh ?_); clear hh; intros)
      k_steps
      repeat (with_reducible rename (_ ∧ _) => hh; (first | with_reducible refine spl12 hh ?_ | with_reducible refine spl11 hh ?_ | with_reducible refine spl10 hh ?_ | with_reducible refine spl9 hh ?_ | with_reducible refine spl8 hh ?_ | with_reducible refine spl7 hh ?_ | with_reducible refine spl6 hh ?_ | with_reducible refine spl5 hh ?_ | with_reducible refine spl4 hh ?_ | with_reducible refine spl3 hh ?_ | with_reducible refine spl2 hh ?_); clear hh; intros)
      k_steps
      repeat (with_reducible rename (_ ∧ _) => hh; (first | with_reducible refine spl12 hh ?_ | with_reducible refine spl11 hh ?_ | with_reducible refine spl10 hh ?_ | with_reducible refine spl9 hh ?_ | with_reducible refine spl8 hh ?_ | with_reducible refine spl7 hh ?_ | with_reducible refine spl6 hh ?_ | with_reducible refine spl5 hh ?_ | with_reducible refine spl4 hh ?_ | with_reducible refine spl3 hh ?_ | with_reducible refine spl2 hh ?_); clear hh; intros)
      with_reducible rename Fr _ _ _ _ => FZ
      with_reducible rename News _ _ _ _ => NZ
      refine mkRows (pre := [_, _, _, _, _, _]) (post := [_, _]) FZ (newsSub NZ fun p hp => .tail _ hp) ⟨?_, ?_, ?_, ?_, ?_, ?_, ?_, ?_, trivial⟩ hx4 hy4 (.tail _ (.tail _ (.tail _ (.tail _ (.tail _ (.tail _ (.head _))))))) (.tail _ (.tail _ (.tail _ (.tail _ (.tail _ (.tail _ (.tail _ (.head _)))))))) (.tail _ (.tail _ (.tail _ (.head _)))) (.head _) (RowAt.cons (.tail _ (.tail _ (.tail _ (.tail _ (.tail _ (.head _)))))) ⟨_, _, _, _, _, rfl⟩ (RowAt.cons (.tail _ (.tail _ (.tail _ (.tail _ (.head _))))) ⟨_, _, _, _, _, rfl⟩ .nil)) (RowAt.cons (.tail _ (.tail _ (.head _))) ⟨_, _, _, _, _, rfl⟩ (RowAt.cons (.tail _ (.head _)) ⟨_, _, _, _, _, rfl⟩ .nil)) rfl rfl (DrawnAll.cons dr1 (DrawnAll.cons dr2 .nil)) (DrawnAll.cons dr3 (DrawnAll.cons dr4 .nil)) rfl
      all_goals (first | exact hD1 | exact hD2 | k_ne)
  clear F2 N2
  intro h3 tk3 R1 R2 us1 us2 n1 n2 c1 c2 rst x3 y3 tx3 ty3 nn3 F3 N3 hD3 hx3 hy3 mW mS m1 m2 a1 a2 l1 l2 d1 d2
  have hR3 : ∀ p ∈ rst, p.1 ≠ D := fun p hp => hD3.at p hp
  have N4 : News s₁.heap s₁.heap.objs.size h3 ((D, intL x3 y3 tx3 ty3 nn3) :: (s₁.heap.objs.size + 1 + 1, _) :: (s₁.heap.objs.size + 1, _) :: rst) := newsSub N3 fun p hp => by
    rcases List.mem_cons.mp hp with e | hp
    · exact e ▸ .head _
    rcases List.mem_cons.mp hp with e | hp
    · exact e ▸ .tail _ mW
    rcases List.mem_cons.mp hp with e | hp
    · exact e ▸ .tail _ mS
    · exact .tail _ hp
  clear N3
  refine ws_execs_any ?_
  k_steps
  refine Lock.open ?_
  with_reducible show wpAny _ _ (call (Value.ref 124) [Value.ref _, Value.ref _]) _ _ _
  refine' one_k _ _ _ _ _ _ _ _ _ _ _ _ ?kU ?kD ?kx ?ky ?kv ?kw ?kn ?k1 ?k2 ?k3 ?k4 ?k5 ?kK ?kd ?ku ?_
  case k4 => k_asm
  case kU => k_updF
  case kD => k_dflt k_mem
  case kx => assumption
  case ky => assumption
  case kv => exact Nat.succ_pos _
  case kw => exact Nat.le_of_ble_eq_true rfl
  case kn => k_ne
  case k1 => assumption
  case k2 => k_asm
  case k3 => assumption
  case k5 => k_asm
  case kK => exact rfl
  case kd => decide
  case ku => decide
  intro i5 r5 h9 tk9 x5 y5 tx5 ty5 m5 hi5 hx5 hy5 F9 N9
  (try dsimp only at N9)
  (try dsimp only)
  obtain ⟨Rs, us, ns, cs, rfl, ms, as, ls, ds⟩ := pickRow hi5 m1 m2 a1 a2 l1 l2 d1 d2
  clear hi5
  k_steps
  with_reducible rename Fr _ _ _ _ => F2
  with_reducible rename News _ _ _ _ => N2
  have N5 : News s₁.heap s₁.heap.objs.size _ ((D, intL x5 y5 tx5 ty5 m5) :: (s₁.heap.objs.size + 1 + 1, _) :: (s₁.heap.objs.size + 1, _) :: rst) := newsSub N2 fun p hp => .tail _ hp
  clear N2
  refine ws_execs_any ?_
  k_steps
  refine Lock.open ?_
  with_reducible show wpAny _ _ (call (Value.ref 124) [Value.ref _, Value.ref _]) _ _ _
  refine' one_k _ _ _ _ _ _ _ _ _ _ _ _ ?kU ?kD ?kx ?ky ?kv ?kw ?kn ?k1 ?k2 ?k3 ?k4 ?k5 ?kK ?kd ?ku ?_
  case k4 => k_asm
  case kU => k_updF
  case kD => k_dflt k_mem
  case kx => assumption
  case ky => assumption
  case kv => exact Nat.succ_pos _
  case kw => exact Nat.le_of_ble_eq_true rfl
  case kn => k_ne
  case k1 => assumption
  case k2 => k_asm
  case k3 => assumption
  case k5 => k_asm
  case kK => exact rfl
  case kd => decide
  case ku => decide
  intro i6 r6 h9 tk9 x6 y6 tx6 ty6 m6 hi6 hx6 hy6 F9 N9
  (try dsimp only at N9)
  (try dsimp only)
  obtain ⟨led0, hled, N6⟩ := splitLed N9
  have hR6 : ∀ p ∈ led0, p.1 ≠ D := by
    rw [hled]
    refine List.forall_mem_cons.mpr ⟨?_, List.forall_mem_cons.mpr ⟨?_, List.forall_mem_cons.mpr ⟨?_, List.forall_mem_cons.mpr ⟨?_, List.forall_mem_cons.mpr ⟨?_, List.forall_mem_cons.mpr ⟨?_, List.forall_mem_cons.mpr ⟨?_, hR3⟩⟩⟩⟩⟩⟩⟩
    all_goals (refine neN ?_; (try dsimp only); first | exact hD1 | exact hD2 | omega)
  obtain ⟨lr, vr, nr, rws, rfl, mr, ar, lr8, lwd, dwd⟩ := pickRows (led := led0) hi6 (by rw [hled]; exact .tail _ (.tail _ (.tail _ (.tail _ (.head _))))) (by rw [hled]; exact .tail _ (.tail _ (.tail _ (.head _)))) (by rw [hled]; exact .tail _ (.tail _ (.head _))) (by rw [hled]; exact .tail _ (.head _)) (fun p hp => by rw [hled]; exact .tail _ (.tail _ (.tail _ (.tail _ (.tail _ (.tail _ (.tail _ hp))))))) m1 ms a1 as l1 ls d1 ds
  clear hi6 hled N9 hR3 hD3 mW mS m1 m2 ms a1 a2 as l1 l2 ls d1 d2 ds
  k_steps
  refine ws_execs_any ?_
  k_steps
  refine Lock.open ?_
  with_reducible show wpAny _ _ (call (Value.ref 117) [Value.ref _, Value.int _ _]) _ _ _
  refine' take_k _ _ _ _ _ _ _ _ _ _ _ ?kU ?kx ?ky ?kz ?kw ?k1 ?k2 ?k3 ?k4 ?k5 ?kK ?kd ?ku ?_
  case k4 => k_asm
  case kU => k_updF
  case kx => assumption
  case ky => assumption
  case kz => omega
  case kw => omega
  case k1 => assumption
  case k2 => k_asm
  case k3 => assumption
  case k5 => k_asm
  case kK => exact rfl
  case kd => decide
  case ku => decide
  intro v7 t7 h9 tk9 x7 y7 tx7 ty7 m9 lo7 hi7 hx7 hy7 F9 N9
  (try dsimp only at N9)
  (try dsimp only)
  k_steps
  refine Lock.open ?_
  with_reducible show wpAny _ _ (call (Value.ref 124) [Value.ref _, Value.ref _]) _ _ _
  refine' one_k _ _ _ _ _ _ _ _ _ _ _ _ ?kU ?kD ?kx ?ky ?kv ?kw ?kn ?k1 ?k2 ?k3 ?k4 ?k5 ?kK ?kd ?ku ?_
  case k4 => k_asm
  case kU => k_updF
  case kD => k_dflt k_mem
  case kx => assumption
  case ky => assumption
  case kv => exact Nat.succ_pos _
  case kw => exact Nat.le_of_ble_eq_true rfl
  case kn => k_ne
  case k1 => assumption
  case k2 => k_asm
  case k3 => assumption
  case k5 => k_asm
  case kK => exact rfl
  case kd => decide
  case ku => decide
  intro i8 r8 h9 tk9 x8 y8 tx8 ty8 m8 hi8 hx8 hy8 F9 N9
  (try dsimp only at N9)
  (try dsimp only)
  obtain ⟨kw, tkw, rfl, hkw⟩ := pickWrong hi8
  clear hi8
  k_steps
  with_reducible rename Fr _ _ _ _ => F2
  with_reducible rename News _ _ _ _ => N2
  have N7 : News s₁.heap s₁.heap.objs.size _ ((s₁.heap.objs.size + 1 + 1, _) :: (s₁.heap.objs.size + 1, _) :: led0) := newsSub N2 (fun p hp => .tail _ (.tail _ (.tail _ hp)))
  clear N2
  refine ws_execs_cons (ws_If (ws_isTrue_Compare1 ?_))
  refine ws_Tuple (ws_spliced_cons ?_)
  change WS _ _ (eval (PySem.Expr.Call _ _ _ _) _) _ _ _
  refine ws_Call_Name ?_
  walk1
  refine ws_callWith_K (K := Mine.hd.heap_1 w.params) ?_ ?_ ?_ ?_
  rotate_left 2
  · rfl
  · rfl
  · k_is
  k_steps
  with_reducible rename Fr _ _ _ _ => F2
  with_reducible rename News _ _ _ _ => N2
  refine use_s (rowsN_c w lr nr vr rws _ (.tail _ (.tail _ mr)) (ar.mono fun p hp => .tail _ (.tail _ hp)) _ wd hwd1 hwd2 lr8 lwd dwd) (by assumption) F2 (by assumption) N2 (by k_asm) rfl (by decide) (by decide) ?_
  rintro r9 n9 h9 tk9 ⟨rfl, tb1, rfl⟩ F9 N9
  clear F2 N2
  refine ws_spliced_cons ?_
  change WS _ _ (eval (PySem.Expr.Call _ _ _ _) _) _ _ _
  refine ws_Call_Name ?_
  walk1
  refine ws_callWith_K (K := Mine.hd.heap_1 w.params) ?_ ?_ ?_ ?_
  rotate_left 2
  · rfl
  · rfl
  · k_is
  k_steps
  with_reducible rename Fr _ _ _ _ => F2
  with_reducible rename News _ _ _ _ => N2
  refine use_s (rows_c w lr nr vr rws _ (.tail _ (.tail _ mr)) (ar.mono fun p hp => .tail _ (.tail _ hp)) v7 _ _ wd hwd1 hwd2 lr8 lwd dwd lo7 (by omega)) (by assumption) F2 (by assumption) N2 (by k_asm) rfl (by decide) (by decide) ?_
  rintro r9 n9 h9 tk9 ⟨rfl, tb2, rfl⟩ F9 N9
  clear F2 N2
  refine ws_spliced_nil ?_
  dsimp only
  k_steps
  refine Lock.open ?_
  with_reducible rename Fr _ _ _ _ => F2
  with_reducible rename News _ _ _ _ => N2
  refine use_c (due_c w lr nr vr rws _ (.tail _ (.tail _ (.tail _ mr))) (ar.mono fun p hp => .tail _ (.tail _ (.tail _ hp))) v7 _ _ wd hwd1 hwd2 lr8 lwd dwd lo7 (by omega)) (by assumption) F2 (by assumption) N2 (by k_asm) rfl (by decide) (by decide) ?_
  rintro r9 n9 h9 tk9 ⟨Td, td1, td2, ktd, rfl, rfl, hTd⟩ F9 N9
  clear F2 N2
  dsimp only
  refine ne_tup2 (N9.isTup (.tail _ (.head _))) (N9.isTup (.head _)) (show callerA.units + 3 < cLine by decide) ?_
  have N10 : News s₁.heap s₁.heap.objs.size h9 ((s₁.heap.objs.size + 1 + 1, _) :: (s₁.heap.objs.size + 1, _) :: led0) := newsSub N9 (fun p hp => .tail _ (.tail _ hp))
  clear N9
  k_steps
  refine ws_execs_nil ?_
  dsimp only
  refine ws_execs_cons (ws_Return_some (ws_Compare1 (ws_Call_Name ?_)))
  walk1
  refine ws_callWith_K (K := Mine.hd.heap_1 w.params) ?_ ?_ ?_ ?_
  rotate_left 2
  · rfl
  · rfl
  · k_is
  k_steps
  with_reducible rename Fr _ _ _ _ => F2
  with_reducible rename News _ _ _ _ => N2
  refine refused_c w lr nr vr rws _ (.tail _ (.tail _ mr)) (ar.mono fun p hp => .tail _ (.tail _ hp)) kw _ _ wd hwd1 hwd2 lr8 lwd dwd hkw _ _ _ _ _ _ _ _ _ _ _ _ _ _ _ _ _ (by assumption) F2 (by assumption) N2 (by k_asm) rfl (by decide) (by decide) fun h9 tk9 F9 N9 => ?_
  clear F2 N2
  dsimp only
  k_steps
  refine Lock.open ?_
  with_reducible rename Fr _ _ _ _ => F2
  with_reducible rename News _ _ _ _ => N2
  refine ne_nil (N2.isList (.tail _ (.tail _ (.tail _ mr)))) (N2.isList (.head _)) (show callerA.units + 3 < cLine by decide) ?_
  rw [ar.1]
  k_steps
  · exact congrArg Value.bool (beq_self_eq_true _)
  · exact FrX.mk (by assumption)
)
end Mine
end
theorem PySem.Challenge.cw_xm0716_01_holds : PySem.Challenge.rw_xm0716_01.Holds :=
  Mine.law_holds

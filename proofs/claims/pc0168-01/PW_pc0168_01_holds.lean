import PyProof.Rows.All
import Wide.All
import OpenK.AllK
import Wide.FinOn
import PySem.Challenge.RW_pc0168_01
set_option linter.all false
set_option Elab.async false
section
open PySem PySem.W PyProof.Rows PySem.Calls PySem.Spec
namespace Mine
set_option maxRecDepth 100000
def nbIds : List String := ["bytearray.__contains__", "bytearray.__mod__", "bytearray.__rmod__", "_struct.pack_into.held", "bytearray.find.held"] ++ Builtin.Bytes.decodersThatHold
def NB : Code → Bool
  | .builtin id _ => !(nbIds.contains id)
  | _ => true
def NBs (l : List (Code × Pos)) : Prop := ∀ x ∈ l, NB x.1 = true
abbrev NoE : Value → Shared → Prop := fun _ _ => False
def wpC {α : Type} (M : Model) (A : Around) (t : Sem α) (Q : α → Shared → Prop) (s : Shared) : Prop :=
  ∀ Γ p, Γ.In A → NB Γ.code = true → NBs Γ.below → Sem.wp M Γ t (fun a _ s' => Q a s') (fun _ _ _ => False) p s
def codeC (M : Model) (A : Around) (c : Code) (Q : Flow → Shared → Prop) (s : Shared) : Prop :=
  ∀ Γ p, Γ.code = c → Γ.Below A → NBs Γ.below → wpCode M Γ (fun r s' => match r with | .ok f => Q f s' | .error _ => False) p s
section
variable {α β : Type} {M : Model} {A : Around} {s : Shared}
theorem wpC_any {t : Sem α} {Q : α → Shared → Prop} (h : wpAny M A t Q NoE s) : wpC M A t Q s := fun Γ p hΓ _ _ => h Γ p hΓ
theorem wpC_mono {t : Sem α} {Q Q' : α → Shared → Prop} (h : wpC M A t Q s) (hQ : ∀ a s, Q a s → Q' a s) : wpC M A t Q' s :=
  fun Γ p h1 h2 h3 => Sem.wp_mono M Γ t (fun a _ s => hQ a s) (fun _ _ _ x => x) p s (h Γ p h1 h2 h3)
theorem wpC_pure {a : α} {Q : α → Shared → Prop} (h : Q a s) : wpC M A (pure a) Q s := fun _ _ _ _ _ => h
theorem wpC_bind {m : Sem α} {f : α → Sem β} {Q : β → Shared → Prop} (h : wpC M A m (fun a s' => wpC M A (f a) Q s') s) : wpC M A (m >>= f) Q s := fun Γ p h1 h2 h3 => by
  rw [Sem.wp_bind']
  exact Sem.wp_mono M Γ m (fun a p' s' h' => h' Γ p' h1 h2 h3) (fun _ _ _ h' => h') p s (h Γ p h1 h2 h3)
theorem wpC_bindA {m : Sem α} {f : α → Sem β} {Q : β → Shared → Prop} (h : wpAny M A m (fun a s' => wpC M A (f a) Q s') NoE s) : wpC M A (m >>= f) Q s := wpC_bind (wpC_any h)
theorem wpC_map {m : Sem α} {f : α → β} {Q : β → Shared → Prop} (h : wpC M A m (fun a s' => Q (f a) s') s) : wpC M A (f <$> m) Q s := fun Γ p h1 h2 h3 => by
  rw [Sem.wp_map]; exact h Γ p h1 h2 h3
theorem wpC_holding {vs : List Value} {m : Sem α} {Q : α → Shared → Prop} (h : wpC M A m Q s) : wpC M A (holding vs m) Q s := fun Γ p h1 h2 h3 => by
  rw [Sem.wp_holding]; exact h Γ p h1 h2 h3
theorem wpC_keep {vs : List Value} {m : Sem α} {Q : α → Shared → Prop} (h : wpC M A m Q s) : wpC M A (m.keep vs) Q s := fun Γ p h1 h2 h3 => by
  rw [Sem.wp_keep]; exact h Γ p h1 h2 h3
theorem wpC_onRaise {m : Sem α} {k : Value → Sem Unit} {Q : α → Shared → Prop} (h : wpC M A m Q s) : wpC M A (m.onRaise k) Q s := fun Γ p h1 h2 h3 => by
  rw [Sem.wp_onRaise]
  exact Sem.wp_mono M Γ m (fun _ _ _ h' => h') (fun _ _ _ h' => h'.elim) p s (h Γ p h1 h2 h3)
theorem wpC_attempt {m : Sem α} {Q : Except Value α → Shared → Prop} (h : wpC M A m (fun a => Q (.ok a)) s) : wpC M A m.attempt Q s := fun Γ p h1 h2 h3 => by
  rw [Sem.wp_attempt]
  exact Sem.wp_mono M Γ m (fun _ _ _ h' => h') (fun _ _ _ h' => h'.elim) p s (h Γ p h1 h2 h3)
theorem wpC_standAt {pos : Pos} {Q : Unit → Shared → Prop} (h : Q () s) : wpC M A (standAt pos) Q s := fun _ _ _ _ _ => h
theorem wpC_point {Q : Unit → Shared → Prop} (h : Q () s) : wpC M A point Q s := fun _ _ _ _ _ => h
theorem wpC_ifF {c : Bool} {a b : Sem α} {Q : α → Shared → Prop} (hc : c = false) (h : wpC M A b Q s) : wpC M A (if c = true then a else b) Q s := by subst hc; exact h
theorem wpC_ifT {c : Bool} {a b : Sem α} {Q : α → Shared → Prop} (hc : c = true) (h : wpC M A a Q s) : wpC M A (if c = true then a else b) Q s := by subst hc; exact h
theorem codeC_any {c : Code} {Q : Flow → Shared → Prop} (h : codeAny M A c (fun r s' => match r with | .ok f => Q f s' | .error _ => False) s) : codeC M A c Q s := fun Γ p hc hΓ _ => h Γ p hc hΓ
theorem codeC_mono {c : Code} {Q Q' : Flow → Shared → Prop} (h : codeC M A c Q s) (hQ : ∀ f s, Q f s → Q' f s) : codeC M A c Q' s :=
  fun Γ p hc hΓ hn => wpCode_mono (fun r s' x => match r, x with | .ok _, x => hQ _ _ x | .error _, x => x) (h Γ p hc hΓ hn)
theorem nbs_enter {Γ : PySem.Ctx} {c : Code} {h : Option Value} {p : Pos} (h2 : NB Γ.code = true) (h3 : NBs Γ.below) : NBs (Γ.enter c h p).below := by
  intro x hx
  rcases List.mem_cons.mp hx with rfl | hx
  · exact h2
  · exact h3 x hx
theorem wpC_run {c : Code} {Q : Flow → Shared → Prop} (h : codeC M A c Q s) : wpC M A (run c) Q s := fun Γ p h1 h2 h3 => by
  rw [Sem.wp_run]
  refine wpCode_mono (fun r s' x => ?_) (h _ p rfl (h1.enter c none p (by intro x; cases x)) (nbs_enter h2 h3))
  cases r <;> exact x
theorem wpC_runValue {c : Code} {Q : Value → Shared → Prop} (h : codeC M A c (fun f s' => match f with | .ret v => Q v s' | _ => False) s) : wpC M A (runValue c) Q s := fun Γ p h1 h2 h3 => by
  rw [Sem.wp_runValue]
  refine wpCode_mono (fun r s' x => ?_) (h _ p rfl (h1.enter c none p (by intro x; cases x)) (nbs_enter h2 h3))
  cases r with
  | error e => exact x.elim
  | ok f => cases f <;> exact x
theorem wpC_call {f : Value} {pos : List Value} {kw : List (PySem.Str × Value)} {Q : Value → Shared → Prop}
    (h : codeC M A (.call f ⟨pos, kw⟩) (fun f s' => match f with | .ret v => Q v s' | _ => False) s) : wpC M A (call f pos kw) Q s := wpC_runValue h
theorem codeC_of_tree {c : Code} {Q : Flow → Shared → Prop} (hn : NB c = true)
    (h : wpC M (A.under c) (M.den c) (fun fin s' => match fin with | .done f => Q f s' | .again c' => c'.quiet = true ∧ codeC M A c' Q s') s) : codeC M A c Q s := fun Γ p hc hΓ hb => by
  rw [wpCode_iff_wp, hc]
  refine Sem.wp_mono M Γ _ (fun fin p' s' h' => ?_) (fun _ _ _ h' => h'.elim) p s (h Γ p (hc ▸ hΓ.in) (hc ▸ hn) hb)
  cases fin with
  | done f => exact h'
  | again c' => exact ⟨h'.1, h'.2 (Γ.goto c') p' rfl (hΓ.goto c') hb⟩
theorem wpC_stackAny {f : Code × Pos → Bool} {Q : Bool → Shared → Prop} (hf : ∀ c p, NB c = true → f (c, p) = false) (h : Q false s) : wpC M A (do return (← stack).any f) Q s := fun Γ p h1 h2 h3 => by
  show Q (((Γ.code, p) :: Γ.below).any f) s
  have e : ((Γ.code, p) :: Γ.below).any f = false := by
    rw [List.any_eq_false]
    intro x hx
    rcases List.mem_cons.mp hx with rfl | hx
    · rw [hf _ _ h2]; simp
    · obtain ⟨c, q⟩ := x
      rw [hf _ _ (h3 _ hx)]; simp
  rw [e]; exact h
theorem wpC_execs_cons {st : Stmt} {rest : List Stmt} {env : Env} {Q : Flow → Shared → Prop}
    (h : wpC M A (exec st env) (fun f s' => match f with | .next => wpC M A (execs rest env) Q s' | f => Q f s') s) : wpC M A (execs (st :: rest) env) Q s := fun Γ p h1 h2 h3 => by
  rw [execs_cons, Sem.wp_bind']
  refine Sem.wp_mono M Γ _ (fun f p' s' h' => ?_) (fun _ _ _ h' => h') _ _ (h Γ p h1 h2 h3)
  cases f <;> first | exact h' Γ p' h1 h2 h3 | exact h'
theorem wpC_execs_any {st : Stmt} {rest : List Stmt} {env : Env} {Q : Flow → Shared → Prop}
    (h : wpAny M A (exec st env) (fun f s' => match f with | .next => wpC M A (execs rest env) Q s' | f => Q f s') NoE s) : wpC M A (execs (st :: rest) env) Q s := wpC_execs_cons (wpC_any h)
end
open PySem.Builtin.Bytes in
theorem wpC_exported {M : Model} {A : Around} {s : Shared} {self : Value} {Q : Bool → Shared → Prop} (h : Q false s) : wpC M A (exported self) Q s := by
  unfold exported
  refine wpC_stackAny (fun c p hc => ?_) h
  split
  all_goals (rename_i e; first | rfl | skip)
  all_goals cases e
  all_goals (first | (exfalso; revert hc; simp only [NB]; decide) | skip)
  rename_i id v tl kw _ _ _ _ _
  have h1 : nbIds.contains id = false := by simpa [NB] using hc
  have h2 : decodersThatHold.contains id = false := by
    unfold nbIds at h1
    rw [List.contains_append, Bool.or_eq_false_iff] at h1
    exact h1.2
  rw [h2, Bool.and_false]
end Mine
end
section
open PySem PySem.W PyProof.Rows PySem.Calls PySem.Spec
namespace Mine
set_option maxRecDepth 100000
theorem ba_mro : mroOf (.type "bytearray") = pure [.type "bytearray", .type "object"] := by rw [mroOf_type]; kernel_rfl
theorem ba_lookup_new : typeLookup (.type "bytearray") "__new__" = pure (some (.builtin "bytearray.__new__")) := by rw [typeLookup_type, builtinLookup_eq_fast]; kernel_rfl
theorem ba_slot_init : Slot "bytearray" "__init__" "bytearray.__init__" :=
  .of (owner := "bytearray") (n := "__init__") (by rw [typeLookup_type, builtinLookup_eq_fast]; kernel_rfl) (by decide +kernel) (by decide +kernel) (by decide +kernel)
    (by first | exact .inl (by decide +kernel) | exact .inr (by decide +kernel)) (by rw [isSubtype_type]; kernel_rfl)
theorem ba_called : TypeCalled "bytearray" "bytearray.__new__" "bytearray.__init__" :=
  ⟨by decide +kernel, by decide +kernel, ⟨_, _, ba_mro⟩, madeBy_type ba_mro ba_lookup_new (by decide +kernel), by decide +kernel, by rw [isSubtype_type]; kernel_rfl, ba_slot_init⟩
theorem ba_typeCall : checkTypeCall "bytearray" ⟨[], []⟩ = pure () := by kernel_rfl
theorem ba_newCall : checkBuiltinCall "bytearray.__new__" ⟨[.type "bytearray"], []⟩ = pure () := by kernel_rfl
theorem ba_plain_new : plainId "bytearray.__new__" = true := by decide +kernel
theorem ba_entry_new : entryFor table "bytearray.__new__" = some Builtin.«list.__new__» := entryFor_alias (id' := "list.__new__") (by kernel_rfl) (by decide +kernel) (by decide +kernel) (by kernel_rfl)
theorem ba_plain_init : plainId "bytearray.__init__" = true := by decide +kernel
theorem ba_entry_init : entryFor table "bytearray.__init__" = some Builtin.«bytearray.__init__» := by first | exact entryFor_of_fast (by kernel_rfl) | exact entryFor_of_tree (by kernel_rfl)
theorem ba_plain_ext : plainId "bytearray.extend" = true := by decide +kernel
theorem ba_entry_ext : entryFor table "bytearray.extend" = some Builtin.«bytearray.extend» := by first | exact entryFor_of_fast (by kernel_rfl) | exact entryFor_of_tree (by kernel_rfl)
theorem ba_sub : isSubtype (.type "bytearray") (.type "bytearray") = pure true := by rw [isSubtype_type]; kernel_rfl
theorem ba_owner : ("bytearray.__new__".splitOn ".__new__").headD "" = "bytearray" := by rw [PySem.W.split_bytearray]; rfl
theorem ba_slot_buffer : typeLookup (.type "bytes") "__buffer__" = pure (some (.builtin "bytes.__buffer__")) := by rw [typeLookup_type, builtinLookup_eq_fast]; kernel_rfl
theorem ba_slot_buffer2 : typeLookup (.type "bytearray") "__buffer__" = pure (some (.builtin "bytearray.__buffer__")) := by rw [typeLookup_type, builtinLookup_eq_fast]; kernel_rfl
theorem ba_release : typeLookup (.type "bytes") "__release_buffer__" = pure none := by rw [typeLookup_type, builtinLookup_eq_fast]; kernel_rfl
theorem ba_release2 : typeLookup (.type "bytearray") "__release_buffer__" = pure (some (.builtin "bytearray.__release_buffer__")) := by rw [typeLookup_type, builtinLookup_eq_fast]; kernel_rfl
theorem ba_no_bytes : typeLookup (.type "bytearray") "__bytes__" = pure none := by rw [typeLookup_type, builtinLookup_eq_fast]; kernel_rfl
theorem ba_no_index : typeLookup (.type "bytearray") "__index__" = pure none := by rw [typeLookup_type, builtinLookup_eq_fast]; kernel_rfl
section
variable {prog : Program} {w : World} {A : Around} {E : Value → Shared → Prop} {s : Shared}
theorem ba_code_new {Q₁ : Value → Shared → Prop} (h : Q₁ (.ref s.heap.objs.size) { s with heap := s.heap.push { cls := .type "bytearray", data := .bytearray #[] } }) :
    codeAny (model prog w) A (.call (.builtin "bytearray.__new__") ⟨[.type "bytearray"], []⟩) (wants Q₁ E) s := by
  refine codeAny_of_tree ?_
  show wpAny _ A.in1 (do checkBuiltinCall "bytearray.__new__" ⟨[.type "bytearray"], []⟩; again (.builtin "bytearray.__new__" ⟨[.type "bytearray"], []⟩)) _ _ s
  refine wpAny_bind (wpAny_of_eq ba_newCall (wpAny_pure ⟨plainId_quiet ba_plain_new _, codeAny_builtin_stack ba_entry_new rfl fun p st => ?_⟩))
  rw [Around.under_plainId ba_plain_new _]
  have hsub := ba_sub
  have hown := ba_owner
  obtain ⟨hp, g, d, tk, os⟩ := s
  simp only [hown]
  wp_walk
  exact h
end
end Mine
end
section
open PySem PySem.W PyProof.Rows PySem.Calls PySem.Spec
namespace Mine
set_option maxRecDepth 100000
abbrev baObj (b : Array UInt8) : Obj := { cls := .type "bytearray", data := .bytearray b }
section
variable {prog : Program} {w : World} {A : Around} {s : Shared}
theorem codeC_builtin {id : String} {args : Args} {b : Builtin} {Q : Flow → Shared → Prop} (hn : nbIds.contains id = false) (hb : entryFor table id = some b)
    (h : wpC (model prog w) (A.under (.builtin id args)) (b args) (fun fin s' => match fin with | .done f => Q f s' | .again c' => c'.quiet = true ∧ codeC (model prog w) A c' Q s') s) :
    codeC (model prog w) A (.builtin id args) Q s := by
  refine codeC_of_tree (by simp only [NB, hn, Bool.not_false]) ?_
  show wpC _ _ (match entryFor table id with | some b => b args | none => unsupported ((withoutEnding? id "#data").getD id)) _ s
  rw [hb]; exact h
theorem codeC_call_builtin {id : String} {args : Args} {b : Builtin} {Q : Flow → Shared → Prop} (hq : plainId id = true) (hn : nbIds.contains id = false) (hb : entryFor table id = some b) 
    (h : wpAny (model prog w) A.in1 (checkBuiltinCall id args) (fun _ s₁ => wpC (model prog w) A.in1 (b args) (fun fin s' => match fin with | .done f => Q f s' | .again c' => c'.quiet = true ∧ codeC (model prog w) A c' Q s') s₁) NoE s) :
    codeC (model prog w) A (.call (.builtin id) args) Q s := by
  refine codeC_of_tree rfl ?_
  show wpC _ A.in1 (do checkBuiltinCall id args; again (.builtin id args)) _ s
  refine wpC_bind (wpC_mono (wpC_any h) fun _ s₁ h₁ => wpC_pure ⟨plainId_quiet hq args, codeC_builtin hn hb ?_⟩)
  rw [Around.under_plainId hq args]
  exact h₁
theorem ba_ownRelease {E : Value → Shared → Prop} {a : Addr} {Q : Bool → Shared → Prop} (hT : s.TypeIs (.ref a) "bytearray") (h : Q false s) : wpAny (model prog w) A (Builtin.Bytes.ownRelease (.ref a)) Q E s := by
  unfold Builtin.Bytes.ownRelease Builtin.Bytes.slotIsOwn
  refine wpAny_bind (wpAny_bind (wpAny_specialOf hT ba_release2 ?_))
  dsimp only
  rw [if_neg (by decide +kernel)]
  rw [show "bytearray.__release_buffer__".dropRight ("__release_buffer__".length + 1) = "bytearray" from by decide +kernel]
  refine wpAny_isInstance hT (U := "bytearray") ba_sub ?_
  exact wpAny_pure h
theorem ba_expOr {a : Addr} {b : Array UInt8} {Q : Bool → Shared → Prop} (hg : s.heap.get? a = some (baObj b)) (h : Q false s) :
    wpC (model prog w) A (Builtin.Bytes.exported (.ref a) <||> (do return (← Builtin.Bytes.exportsOf (.ref a)) > 0)) Q s := by
  show wpC _ _ (Builtin.Bytes.exported (.ref a) >>= fun r => match toBool r with | true => pure r | false => (do return (← Builtin.Bytes.exportsOf (.ref a)) > 0)) _ _
  refine wpC_bind (wpC_exported ?_)
  show wpC _ _ ((load a >>= fun o => match o.data with | .bytearray _ n => pure n | _ => pure 0) >>= fun n => pure (decide (n > 0))) _ _
  refine wpC_bindA (wpAny_bind (wpAny_load hg ?_))
  exact wpAny_pure (wpC_pure h)
theorem ba_write {E : Value → Shared → Prop} {a : Addr} {b : Array UInt8} {f : Array UInt8 → Array UInt8} {Q : Unit → Shared → Prop} (hg : s.heap.get? a = some (baObj b)) (hz : (f b).size ≤ 1000000)
    (h : ∀ h', h'.get? a = some (baObj (f b)) → (∀ c o, c ≠ a → s.heap.get? c = some o → h'.get? c = some o) → Q () { s with heap := h' }) :
    wpAny (model prog w) A (Builtin.Bytes.write (.ref a) f) Q E s := by
  show wpAny _ _ (updateBytearray a f) _ _ _
  unfold updateBytearray
  refine wpAny_bind (wpAny_load hg ?_)
  show wpAny _ _ (update a (Obj.mapBytearray f) >>= fun _ => lookBehind a) _ _ _
  refine wpAny_bind (wpAny_update hg ?_)
  have h2 : (s.heap.update a (Obj.mapBytearray f)).get? a = some (baObj (f b)) := Heap.get?_update_self (Obj.mapBytearray f) hg rfl
  refine wpAny_lookBehind h2 ?_ (h _ h2 fun c o hc e => (Heap.get?_update_other _ _ (Ne.symm hc)).trans e)
  show (if (f b).size > sizeLine then some "bytearray:memory" else none) = none
  rw [if_neg]
  rw [sizeLine_eq]
  omega
theorem call_bytearray {Q : Value → Shared → Prop} (hQ : ∀ h', (∀ b o, s.heap.get? b = some o → h'.get? b = some o) → h'.get? s.heap.objs.size = some (baObj #[]) → Q (.ref s.heap.objs.size) { s with heap := h' }) :
    wpC (model prog w) A (call (.type "bytearray") []) Q s := by
  refine wpC_call (codeC_of_tree rfl ?_)
  show wpC _ _ (callAny (.type "bytearray") _) _ _
  refine wpC_pure ⟨Code.quiet_builtin _ (by decide +kernel), codeC_builtin (by decide +kernel) F.entry_type_call ?_⟩
  rw [Around.under_plain (weight_type_call_type "bytearray" [] []) rfl]
  have h1 := ba_called.notType
  have h2 := ba_called.canCreate
  have h3 := ba_mro
  have h4 := ba_called.made
  show wpC _ _ (Builtin.«type.__call__» ⟨[.type "bytearray"], []⟩) _ _
  unfold Builtin.«type.__call__»
  dsimp only
  rw [if_neg (by rw [h1]; exact Bool.false_ne_true), if_neg (by rw [h2]; exact Bool.false_ne_true)]
  refine wpC_bindA (wpAny_of_eq ba_typeCall ?_)
  refine wpC_bindA (wpAny_of_eq h3 ?_)
  rw [if_neg (by decide)]
  refine wpC_bindA (wpAny_of_eq h4 ?_)
  dsimp only
  refine wpC_bindA (wpAny_pure ?_)
  refine wpC_bindA (wpAny_holding (wpAny_call (codeAny_mono (ba_code_new (E := NoE) (Q₁ := fun v s' => v = .ref s.heap.objs.size ∧ s' = { s with heap := s.heap.push (baObj #[]) }) ⟨rfl, rfl⟩) fun r s' hr => ?_)))
  rcases r with e | f
  · exact hr
  cases f
  case ret v =>
    obtain ⟨rfl, rfl⟩ := hr
    have hg : (s.heap.push (baObj #[])).get? s.heap.objs.size = some (baObj #[]) := Heap.get?_push_size _ rfl
    have hT : ({ s with heap := s.heap.push (baObj #[]) } : Shared).TypeIs (.ref s.heap.objs.size) "bytearray" := ⟨_, hg, rfl⟩
    refine wpC_bindA (wpAny_isInstance hT ba_sub ?_)
    rw [if_neg (by decide)]
    refine wpC_bind (wpC_holding ?_)
    unfold callSpecial?
    refine wpC_bindA (wpAny_specialOf hT ba_slot_init.lookup ?_)
    dsimp only
    refine wpC_holding ?_
    refine wpC_bindA (wpAny_of_eq (ba_slot_init.bind _) ?_)
    refine wpC_bind (wpC_call (codeC_call_builtin ba_plain_init (by decide +kernel) ba_entry_init (ba_slot_init.check _ _ _ _ _ _ _ _ hT rfl ?_)))
    show wpC _ _ (Builtin.«bytearray.__init__» ⟨[.ref s.heap.objs.size], []⟩) _ _
    unfold Builtin.«bytearray.__init__»
    refine wpC_bindA (ba_ownRelease hT ?_)
    refine wpC_bindA (wpAny_of_eq (a := [none, none, none]) (by kernel_rfl) ?_)
    refine wpC_bindA (wpAny_of_eq (a := ()) rfl ?_)
    refine wpC_bindA (wpAny_of_eq (a := ()) rfl ?_)
    refine wpC_bind (ba_expOr hg ?_)
    refine wpC_bindA (ba_write hg (by simp) fun h' e1 e2 => ?_)
    refine wpC_pure ?_
    refine wpC_pure (wpC_pure (hQ h' (fun c o e => e2 c o (Nat.ne_of_lt (Heap.lt_size e)) (Heap.get?_push_of_some _ e)) e1))
  all_goals exact hr.elim
end
end Mine
end
section
open PySem PySem.W PyProof.Rows PySem.Calls PySem.Spec
namespace Mine
set_option maxRecDepth 100000
theorem ba_take {b : Array UInt8} {t : Tok} : Builtin.Bytes.takeBufferQuiet? "bytearray.extend" (.bytes b t) 0 = pure (some (b, none)) := by
  unfold Builtin.Bytes.takeBufferQuiet? Builtin.Bytes.takeBuffer?
  rw [KBy.special_eq KBy.look_buffer, KBy.own_buffer, show ((0 : Int) == Builtin.Bytes.fullReadOnly) = false from by decide +kernel, KBy.buffer_eq]
  kernel_rfl
theorem ba_getattribute : typeLookup (.type "bytearray") "__getattribute__" = pure (some (.builtin "bytearray.__getattribute__")) := by rw [typeLookup_type, builtinLookup_eq_fast]; kernel_rfl
theorem ba_canon : (Manifest.canonical "bytearray.__getattribute__" != "object.__getattribute__") = false := by decide +kernel
theorem ba_getattr_none : typeLookup (.type "bytearray") "__getattr__" = pure none := by rw [typeLookup_type, builtinLookup_eq_fast]; kernel_rfl
theorem ba_type_ext : typeOf (.builtin "bytearray.extend") = pure (.type "method_descriptor") := by show builtinType _ = _; rw [builtinType_eq_fast]; kernel_rfl
theorem ba_slot_ext : Slot "bytearray" "extend" "bytearray.extend" :=
  .of (owner := "bytearray") (n := "extend") (by rw [typeLookup_type, builtinLookup_eq_fast]; kernel_rfl) (by decide +kernel) (by decide +kernel) (by decide +kernel)
    (by first | exact .inl (by decide +kernel) | exact .inr (by decide +kernel)) (by rw [isSubtype_type]; kernel_rfl)
section
variable {prog : Program} {w : World} {A : Around} {s : Shared}
theorem getMethod_ba {M : Model} {E : Value → Shared → Prop} {l : Addr} {b : Array UInt8} {pl : Sem Bool} {Q : Value × List Value → Shared → Prop} (ho : s.heap.get? l = some (baObj b))
    (h : Q (.builtin "bytearray.extend", [.ref l]) s) : wpAny M A (getMethod (.ref l) "extend" pl) Q E s := by
  have hT : s.TypeIs (.ref l) "bytearray" := ⟨_, ho, rfl⟩
  unfold getMethod
  refine wpAny_bind (wpAny_specialOf hT ba_getattribute ?_)
  show wpAny M A (if (Manifest.canonical "bytearray.__getattribute__" != "object.__getattribute__") = true then _ else _) Q E s
  rw [ba_canon, if_neg Bool.false_ne_true]
  refine wpAny_bind (wpAny_specialOf hT ba_getattr_none ?_)
  refine wpAny_bind (wpAny_specialOf hT ba_slot_ext.lookup ?_)
  refine wpAny_bind (wpAny_of_eq ba_type_ext ?_)
  refine wpAny_bind (wpAny_load ho ?_)
  exact wpAny_bind (wpAny_rule (wpAny_pure h))
theorem ba_payload {E : Value → Shared → Prop} {a : Addr} {b : Array UInt8} {Q : Array UInt8 → Shared → Prop} (hg : s.heap.get? a = some (baObj b)) (h : Q b s) : wpAny (model prog w) A (Builtin.Bytes.payload (.ref a)) Q E s := by
  unfold Builtin.Bytes.payload Builtin.Bytes.payload?
  refine wpAny_bind (wpAny_bind (wpAny_load hg ?_))
  exact wpAny_pure (wpAny_pure h)
theorem ba_checkResize {a : Addr} {b : Array UInt8} {Q : Unit → Shared → Prop} (hg : s.heap.get? a = some (baObj b)) (h : Q () s) : wpC (model prog w) A (Builtin.Bytes.checkResize (.ref a)) Q s := by
  unfold Builtin.Bytes.checkResize
  refine wpC_bind (ba_expOr hg ?_)
  exact wpC_pure h
theorem ba_extend {a : Addr} {b c : Array UInt8} {t : Tok} {Q : Value → Shared → Prop} (hg : s.heap.get? a = some (baObj b)) (hz : b.size + c.size ≤ 1000000)
    (h : ∀ h', h'.get? a = some (baObj (b ++ c)) → (∀ d o, d ≠ a → s.heap.get? d = some o → h'.get? d = some o) → Q .none { s with heap := h' }) :
    wpC (model prog w) A (call (.builtin "bytearray.extend") [.ref a, .bytes c t]) Q s := by
  have hT : s.TypeIs (.ref a) "bytearray" := ⟨_, hg, rfl⟩
  refine wpC_call (codeC_call_builtin ba_plain_ext (by decide +kernel) ba_entry_ext (ba_slot_ext.check _ _ _ _ _ _ _ _ hT rfl ?_))
  show wpC _ _ (Builtin.«bytearray.extend» ⟨[.ref a, .bytes c t], []⟩) _ _
  unfold Builtin.«bytearray.extend»
  refine wpC_bindA (wpAny_of_eq (a := (Value.ref a, Value.bytes c t)) rfl ?_)
  refine wpC_bindA (wpAny_specialOf (typeIs_bytes s c t) ba_slot_buffer ?_)
  refine wpC_ifT rfl ?_
  refine wpC_bindA (wpAny_rule ?_)
  refine wpC_bindA (ba_payload hg ?_)
  refine wpC_bindA (wpAny_of_eq ba_take ?_)
  refine wpC_ifT rfl ?_
  show wpC _ _ (if (!c.isEmpty) = true then Builtin.Bytes.checkResize (.ref a) >>= fun _ => Builtin.Bytes.write (.ref a) (· ++ c) >>= fun _ => ret .none else (Builtin.Bytes.write (.ref a) (· ++ c) >>= fun _ => ret .none)) _ _
  have fin : wpC (model prog w) A.in1 (Builtin.Bytes.write (.ref a) (· ++ c) >>= fun _ => ret .none) (fun fin s' => match fin with
    | .done f => (match f with | .ret v => Q v s' | _ => False)
    | .again c' => c'.quiet = true ∧ codeC (model prog w) A c' (fun f s' => match f with | .ret v => Q v s' | _ => False) s') s := by
    refine wpC_bindA (ba_write hg (by rw [Array.size_append]; omega) fun h' e1 e2 => ?_)
    exact wpC_pure (h h' e1 e2)
  split
  · exact wpC_bind (ba_checkResize hg fin)
  · exact fin
end
end Mine
namespace Mine
section
variable {prog : Program} {w : World} {A : Around} {s : Shared} {E : Value → Shared → Prop}
theorem ba_slotOwn {a : Addr} {Q : Bool → Shared → Prop} (hT : s.TypeIs (.ref a) "bytearray") (h : Q true s) : wpAny (model prog w) A (Builtin.Bytes.slotIsOwn (.ref a) "__buffer__") Q E s := by
  unfold Builtin.Bytes.slotIsOwn
  refine wpAny_bind (wpAny_specialOf hT ba_slot_buffer2 ?_)
  dsimp only
  rw [if_neg (by decide +kernel)]
  rw [show "bytearray.__buffer__".dropRight ("__buffer__".length + 1) = "bytearray" from by decide +kernel]
  exact wpAny_isInstance hT (U := "bytearray") ba_sub h
theorem ba_bytes_new {a : Addr} {b : Array UInt8} {Q : Value → Shared → Prop} (hg : s.heap.get? a = some (baObj b)) (hz : b.size ≤ sizeLine)
    (hQ : ∀ t k, Q (.bytes b t) { s with toks := k }) :
    codeAny (model prog w) A (.call (.builtin "bytes.__new__") ⟨[.type "bytes", .ref a], []⟩) (wants Q E) s := by
  refine codeAny_of_tree ?_
  show wpAny _ A.in1 (do checkBuiltinCall "bytes.__new__" ⟨[.type "bytes", .ref a], []⟩; again (.builtin "bytes.__new__" ⟨[.type "bytes", .ref a], []⟩)) _ _ s
  refine wpAny_bind (wpAny_of_eq (F.bm_newCall _) (wpAny_pure ⟨plainId_quiet F.bm_plain _, codeAny_builtin F.bm_entry ?_⟩))
  rw [Around.under_plainId F.bm_plain _]
  have hT : s.TypeIs (.ref a) "bytearray" := ⟨_, hg, rfl⟩
  unfold Builtin.«bytes.__new__»
  refine wpAny_bind (wpAny_of_eq (a := true) rfl ?_)
  refine bm_if_false rfl ?_
  refine wpAny_bind (wpAny_of_eq F.bm_sub ?_)
  refine bm_if_false rfl ?_
  refine wpAny_bind (wpAny_of_eq (F.bm_bind _) ?_)
  refine wpAny_bind (wpAny_of_eq (a := ()) rfl ?_)
  refine wpAny_bind (wpAny_of_eq (a := ()) rfl ?_)
  refine bm_if_false rfl ?_
  refine wpAny_bind (wpAny_specialOf hT ba_no_bytes ?_)
  refine wpAny_bind (wpAny_bind ?_)
  show wpAny _ _ (load a >>= _) _ _ _
  refine wpAny_bind (wpAny_load hg ?_)
  refine wpAny_pure (wpAny_pure ?_)
  refine bm_if_false rfl ?_
  refine wpAny_bind (wpAny_specialOf hT ba_no_index ?_)
  refine bm_if_true rfl ?_
  show wpAny _ _ (Builtin.Bytes.buffer? "bytes.__new__" (.ref a) true >>= _) _ _ _
  refine wpAny_bind ?_
  unfold Builtin.Bytes.buffer?
  refine wpAny_bind (wpAny_specialOf hT ba_slot_buffer2 ?_)
  refine wpAny_bind (ba_slotOwn hT ?_)
  refine bm_if_false rfl ?_
  refine wpAny_bind (wpAny_specialOf hT ba_slot_buffer2 ?_)
  refine wpAny_bind (ba_ownRelease hT ?_)
  refine bm_if_false rfl ?_
  refine wpAny_bind (ba_payload hg ?_)
  refine wpAny_pure ?_
  refine wpAny_bind (wpAny_rule ?_)
  refine wpAny_bind (wpAny_mkBytes ?_ hz)
  show wpAny _ _ (if (Value.type "bytes" == Value.type "bytes") = true then _ else _) _ _ _
  refine bm_if_true (by decide) ?_
  first
    | exact wpAny_pure (hQ _ _)
    | exact wpAny_bind (wpAny_pure (wpAny_pure (hQ _ _)))
theorem ba_bytes {a : Addr} {b : Array UInt8} {Q : Value → Shared → Prop} (hg : s.heap.get? a = some (baObj b)) (hz : b.size ≤ sizeLine)
    (hQ : ∀ t k, Q (.bytes b t) { s with toks := k }) : wpAny (model prog w) A (call (.type "bytes") [.ref a]) Q E s := by
  refine callType_codes (Q₁ := fun obj s₁ => s₁.TypeIs obj "bytes" ∧ Q obj s₁) F.bm_called (F.bm_typeCall _) F.entry_object_init
    (ba_bytes_new hg hz fun t k => ⟨PySem.W.typeIs_bytes _ _ _, hQ t k⟩) fun obj s₁ h₁ => ?_
  exact ⟨h₁.1, F.args_object_init_2 obj _, object_init_meets F.bm_called.init.lookup F.bm_called.made (by decide) prog w A.in1 _ s₁ ⟨h₁.1, rfl, h₁.2⟩⟩
end
end Mine
end
section
open PySem PySem.W PyProof.Rows PySem.Calls PySem.Spec
namespace Mine
set_option maxRecDepth 100000
section
variable {prog : Program} {w : World} {A : Around} {s : Shared} {env : Env}
theorem codeC_func {body : List Stmt} {env : Env} {Q : Flow → Shared → Prop}
    (h : wpC (model prog w) (A.deeper env) (execs body env) (fun f s' => Q (.ret (match f with | .ret v => v | _ => .none)) s') s) : codeC (model prog w) A (.func body env) Q s := by
  refine codeC_of_tree rfl ?_
  show wpC _ (A.deeper env) (do point; match ← (execs body env).onRaise (leaving env) with | .ret v => ret v | _ => ret .none) _ s
  refine wpC_bind (wpC_point (wpC_bind (wpC_onRaise (wpC_mono h fun f s' h' => ?_))))
  cases f <;> exact wpC_pure h'
theorem codeC_call_function {a : Addr} {args : Args} {o : Obj} {fd : FuncData} {body : List Stmt} {Q : Flow → Shared → Prop} (hroom : A.depth < recursionLimit)
    (ho : s.heap.get? a = some o)
    (hd' : o.data = .func fd) (hco : fd.scope.isCoroutine = false) (hgen : fd.scope.isGenerator = false) (hbody : fd.body = .stmts body) (hcd : s.heap.CodeRec fd.code fd.qualname)
    (h : wpAny (model prog w) A.in1 (bindArgs fd args) (fun binds s₁ =>
      wpAny (model prog w) A.in1 (newFunctionEnv fd.scope fd.globals fd.closure binds (fd.qualname ++ ".<locals>.") (some a) fd.code none fd.builtins)
        (fun env s₂ => s₂.heap.NoLimit ∧ codeC (model prog w) A (.func body env) Q s₂) NoE s₁) NoE s) :
    codeC (model prog w) A (.call (.ref a) args) Q s := by
  refine codeC_of_tree rfl ?_
  show wpC _ A.in1 (callAny (.ref a) args) _ s
  simp only [callAny]
  refine wpC_bindA (wpAny_load ho ?_)
  obtain ⟨c, oc, vs, tq, hc, hoc, hdc, hq⟩ := hcd
  simp only [hd', callFunction, hco, hgen, hbody, hc]
  rw [hc] at h
  refine wpC_any ?_
  refine wpAny_bind (m := field (.ref c) 1) (wpAny_field hoc hdc hq (wpAny_bind (wpAny_pure ?_)))
  exact wpAny_bind (wpAny_mono h (fun binds s₁ h₁ => wpAny_bind (wpAny_mono h₁ (fun env s₂ h₂ => wpAny_bind (wpAny_enterFrame h₂.1 hroom
    (wpAny_pure (And.intro rfl h₂.2)))) fun _ _ h' => h')) fun _ _ h' => h')
theorem codeC_call_def {a : Addr} {o : Obj} {fd : FuncData} {body : List Stmt} {args : Args} {binds : List (PySem.Str × Value)} {Q : Flow → Shared → Prop}
    (hroom : A.depth < recursionLimit) (ho : s.heap.get? a = some o) (hdata : o.data = .func fd) (hlim : s.heap.NoLimit) (hcd : s.heap.CodeRec fd.code fd.qualname)
    (hbody : fd.body = .stmts body) (hbind : BindsTo s fd args binds)
    (hcell : ∀ x ∈ fd.scope.names, x.2 ≠ .cell) (hloc : ∀ x ∈ binds, fd.scope.names.lookup x.1 = some .local)
    (h : ∀ h₀, h₀.Ns s.heap.objs.size (fun x => binds.reverse.lookup x) → (∀ b o, s.heap.get? b = some o → h₀.get? b = some o) →
      wpC (model prog w) (A.deeper (callEnv fd s.heap.objs.size a)) (execs body (callEnv fd s.heap.objs.size a)) (fun f s' => Q (.ret (match f with | .ret v => v | _ => .none)) s')
        { s with heap := h₀, toks := s.toks + binds.length })
    (hco : fd.scope.isCoroutine = false := by rfl) (hgen : fd.scope.isGenerator = false := by rfl) (hk : fd.scope.kind = .function := by rfl) :
    codeC (model prog w) A (.call (.ref a) args) Q s := by
  refine codeC_call_function hroom ho hdata hco hgen hbody hcd (hbind _ _ _ _ ?_)
  refine wpAny_newFunctionEnv hcell hloc (fun h₀ hns₀ hsb₀ => ⟨hlim.fresh _ hsb₀, codeC_func (h h₀ hns₀ fun b o e => ?_)⟩) hk
  exact hsb₀.extBut b o (Nat.ne_of_lt (Heap.lt_size e)) (Heap.get?_push_of_some _ e)
abbrev RofQ (Q : Flow → Shared → Prop) : Result → Shared → Prop := fun r s' => match r with | .ok f => Q f s' | .error _ => False
theorem code_defQ {A₀ : Around} {base h₀ : Heap} {L : Addr} {m : PySem.Str → Option Value} {news : List (Addr × Obj)} {K : Frag} {p : Program} {loose : List PySem.Str} {mean : ExcName → Option Value} {mg mb : PySem.Str → Option Value}
    {env : Env} {outer : List Env} {Q : Flow → Shared → Prop} {name qual : PySem.Str} {params : Arguments} {body : List Stmt} {scope : Scope} {dV kV doc pm cdv ct oc : Value} {an od : Option Addr} {osl : Array (Option Value)} {f : Addr} {args : Args} {binds : List (PySem.Str × Value)}
    (B : Below A₀ base outer h₀) (F : Fr h₀ L s.heap m) (X₀ : K.In h₀) (N : News h₀ L s.heap news) (T : Top p loose mean mg mb h₀) (hA : A.frames = some (env :: outer)) (hf : env.frame = some L) (hke : env.scope.kind = .function)
    (ho : K.lookup f = some ⟨oc, od, .func (fnOf name qual params body scope dV kV doc pm an cdv ct), osl⟩) (hcd : codeIn K cdv qual = true) (hroom : A.depth < recursionLimit)
    (hbind : BindsTo s (fnOf name qual params body scope dV kV doc pm an cdv ct) args binds) (hloc : ∀ y ∈ binds, scope.names.lookup y.1 = some .local)
    (h : ∀ g L' h₁, Fr h₀ L g m → Fr g L' h₁ (fun y => binds.reverse.lookup y) → News g L' h₁ news → Below A base (env :: outer) g → K.In g → Top p loose mean mg mb g →
      wpC (model prog w) (A.deeper (envOf qual scope L' f cdv)) (execs body (envOf qual scope L' f cdv))
        (fun fl s' => LeaveK h₀ L m g (RofQ Q) (match fl with | .ret v => v | _ => .none) s')
        { s with heap := h₁, toks := s.toks + binds.length })
    (hco : scope.isCoroutine = false) (hgen : scope.isGenerator = false) (hk : scope.kind = .function)
    (hcell : ∀ x ∈ scope.names, x.2 ≠ .cell) : codeC (model prog w) A (.call (.ref f) args) Q s := by
  obtain ⟨FG, BG, st, lv⟩ := groundX (R := RofQ Q) B F N hA hf hke
  refine codeC_call_def (fd := fnX name qual params body scope [] dV kV doc pm an cdv ct) (body := body) (binds := binds) hroom ((X₀.keeps F.keep) _ _ ho) rfl (T.nolimit.keeps F.keep) (codeRec_of (X₀.keeps F.keep) hcd) rfl hbind hcell hloc (fun h₁ hns hk₁ => ?_) hco hgen hk
  exact wpC_mono (h _ s.heap.objs.size h₁ FG ⟨hns, fun b o e => hk₁ b o (of_hideAll _ e), Nat.le_of_eq (hideAll_size _ _)⟩
    (fun p hp => ⟨hk₁ _ _ (N p hp).1, Nat.ne_of_lt (Heap.lt_size (N p hp).1), hideAll_none _ (List.mem_map_of_mem hp)⟩) BG (X₀.keeps st) (T.keeps st)) (fun fl s' hl => lv _ _ hl)
theorem tailC {s₁ : Shared} {tr : Sem Value} {Q : Value → Shared → Prop} (ht : wpC (model prog w) A tr Q s₁) : wpC (model prog w) A (tr >>= fun r => holding [r] point >>= fun _ => pure r) Q s₁ :=
  wpC_bind (wpC_mono ht fun _ _ hr => wpC_bind (wpC_holding (wpC_point (wpC_pure hr))))
theorem callWith_functionC {pos : Pos} {a : Addr} {o : Obj} {fd : FuncData} {first : List Value} {args : List (Bool × Sem Value)} {Q : Value → Shared → Prop}
    (h : wpAny (model prog w) A (evalArgs (.ref a) true args []) (fun x s₁ => (s₁.heap.get? a = some o ∧ o.data = .func fd) ∧ wpC (model prog w) A (call (.ref a) (first ++ x.pos) x.kw) Q s₁) NoE s) :
    wpC (model prog w) A (callWith pos (.ref a) first args []) Q s := by
  unfold callWith
  refine wpC_bindA (wpAny_holding (wpAny_mono h (fun x s₁ h₁ => wpC_bind (wpC_standAt ?_)) fun _ _ x => x))
  cases hs : args.any (·.1) <;> simp only [List.any_nil, Bool.or_false] <;>
    refine wpC_bindA (m := keeperOf (.ref a)) ?_ <;> unfold keeperOf <;>
    refine wpAny_bind (wpAny_load h₁.1.1 ?_) <;> rw [h₁.1.2] <;> refine wpAny_pure ?_
  · split
    all_goals first
      | exact tailC h₁.2
      | (refine tailC ?_; unfold callMarked; exact wpC_keep h₁.2)
      | (split <;> first | exact tailC h₁.2 | (refine tailC ?_; unfold callMarked; exact wpC_keep h₁.2))
  · first
      | (refine tailC ?_; unfold callMarked; exact wpC_keep h₁.2)
      | exact tailC h₁.2
theorem callWith_typeC {pos : Pos} {T : String} {first : List Value} {args : List (Bool × Sem Value)} {Q : Value → Shared → Prop} (hplain : args.any (·.1) = false)
    (h : wpAny (model prog w) A (evalArgs (.type T) true args []) (fun a s₁ => wpC (model prog w) A (call (.type T) (first ++ a.pos) a.kw) Q s₁) NoE s) :
    wpC (model prog w) A (callWith pos (.type T) first args []) Q s := by
  unfold callWith
  refine wpC_bindA (wpAny_holding (wpAny_mono h (fun a s₁ h₁ => wpC_bind (wpC_standAt ?_)) fun _ _ x => x))
  simp only [hplain, List.any_nil, Bool.or_false]
  refine wpC_bind (wpC_pure ?_)
  exact tailC h₁
theorem callWith_builtinC {pos : Pos} {id : String} {first : List Value} {args : List (Bool × Sem Value)} {Q : Value → Shared → Prop} (hplain : args.any (·.1) = false)
    (h : wpAny (model prog w) A (evalArgs (.builtin id) true args []) (fun a s₁ => wpC (model prog w) A (call (.builtin id) (first ++ a.pos) a.kw) Q s₁) NoE s) :
    wpC (model prog w) A (callWith pos (.builtin id) first args []) Q s := by
  unfold callWith
  refine wpC_bindA (wpAny_holding (wpAny_mono h (fun a s₁ h₁ => wpC_bind (wpC_standAt ?_)) fun _ _ x => x))
  simp only [hplain, List.any_nil, Bool.or_false]
  refine wpC_bind (wpC_pure ?_)
  exact tailC h₁
theorem Call_NameC {id : PySem.Str} {p pos : Pos} {args : List Expr} {keywords : List Keyword} {Q : Value → Shared → Prop}
    (h : wpAny (model prog w) A (eval (.Name id p) env) (fun f s₁ => wpC (model prog w) A (callWith pos f [] (backTo pos (starEach args env)) (backToKw pos (keywordEach keywords env))) Q s₁) NoE s) :
    wpC (model prog w) A (eval (.Call (.Name id p) args keywords pos) env) Q s := by
  rw [arm_eval_Call_Name']
  exact wpC_bindA h
theorem MethodCallC {o : Expr} {name : PySem.Str} {apos pos : Pos} {args : List Expr} {pl : Sem Bool} {Q : Value → Shared → Prop}
    (h : wpAny (model prog w) A (eval o env) (fun ov s₁ => wpAny (model prog w) A (getMethod ov name pl) (fun fx s₂ => wpC (model prog w) A (callWith pos fx.1 fx.2 (backTo pos (starEach args env)) []) Q s₂) NoE s₁) NoE s)
    (he : eval (.Call (.Attribute o name apos) args [] pos) env = (do
      let ov ← eval o env
      standAt apos.atName
      let (f, first) ← holding [ov] (getMethod ov name pl)
      callWith pos f first (backTo pos (starEach args env)) []) := by rfl) :
    wpC (model prog w) A (eval (.Call (.Attribute o name apos) args [] pos) env) Q s := by
  rw [he]
  refine wpC_bindA (wpAny_mono h (fun ov s₁ h₁ => wpC_bind (wpC_standAt (wpC_bindA (wpAny_holding (wpAny_mono h₁ (fun fx s₂ h₂ => ?_) fun _ _ x => x))))) fun _ _ x => x)
  exact h₂
theorem spliced_consC {x : Sem Value} {rest : List (Bool × Sem Value)} {Q : List Value → Shared → Prop}
    (h : wpC (model prog w) A x (fun v s₁ => wpAny (model prog w) A (spliced rest) (fun vs s₂ => Q (v :: vs) s₂) NoE s₁) s) : wpC (model prog w) A (spliced ((false, x) :: rest)) Q s := by
  rw [spliced]
  refine wpC_bind (wpC_mono h fun v s₁ h₁ => ?_)
  simp only [Bool.false_eq_true, if_false]
  exact wpC_bind (wpC_pure (wpC_bind (wpC_holding (wpC_mono (wpC_any h₁) fun vs s₂ h₂ => wpC_pure h₂))))
theorem spliced_moreC {e : Expr} {rest : List Expr} {pos : Pos} {Q : List Value → Shared → Prop}
    (h : wpC (model prog w) A (eval e env) (fun v s₁ => wpAny (model prog w) A (spliced (backTo pos (starEach rest env))) (fun vs s₂ => Q (v :: vs) s₂) NoE s₁) s)
    (he : starEach (e :: rest) env = (false, eval e env) :: starEach rest env := by rfl) : wpC (model prog w) A (spliced (backTo pos (starEach (e :: rest) env))) Q s := by
  rw [he]; exact spliced_consC h
theorem TupleC {elts : List Expr} {k : Nat} {pos : Pos} {Q : Value → Shared → Prop}
    (h : wpC (model prog w) A (spliced (backTo pos (starEach elts env))) (fun vs s₁ => wpAny (model prog w) A (newTuple vs) Q NoE s₁) s) : wpC (model prog w) A (eval (.Tuple elts k pos) env) Q s := by
  show wpC _ A (do standAt pos; newTuple (← spliced (backTo pos (starEach elts env)))) Q s
  exact wpC_bind (wpC_standAt (wpC_bind (wpC_mono h fun _ _ x => wpC_any x)))
theorem Expr_anyC {e : Expr} {pos : Pos} {Q : Flow → Shared → Prop} (h : wpC (model prog w) A (eval e env) (fun _ => Q .next) s)
    (hi : interactive env = false := by rfl) (hs : swapsWith e none pos.line env = pure false := by rfl) :
    wpC (model prog w) A (exec (.Expr e pos) env) Q s := by
  rw [exec_Expr env e pos hi hs]
  exact wpC_bind (wpC_standAt (wpC_bind (wpC_mono h fun v s' h' => wpC_any (wpAny_dropValue h'))))
theorem ReturnC {e : Expr} {pos : Pos} {Q : Flow → Shared → Prop} (h : wpC (model prog w) A (eval e env) (fun v => Q (.ret v)) s) : wpC (model prog w) A (exec (.Return (some e) pos) env) Q s := by
  rw [exec_Return_some]
  exact wpC_bind (wpC_standAt (wpC_bind (wpC_mono h fun v s' h' => wpC_pure h')))
theorem Assign_NameC {x : PySem.Str} {pos' : Pos} {value : Expr} {pos : Pos} {Q : Flow → Shared → Prop}
    (h : wpC (model prog w) A (eval value env) (fun v s₁ => wpAny (model prog w) A (storeName env x v) (fun _ => Q .next) NoE s₁) s)
    (hs : swapsWith value (some (.Name x pos')) pos.line env = pure false := by rfl) :
    wpC (model prog w) A (exec (.Assign [.Name x pos'] value pos) env) Q s := by
  rw [exec_Assign_Name env x pos' value pos hs]
  refine wpC_bind (wpC_standAt (wpC_bind (wpC_mono h fun v s₁ h₁ => wpC_bind (wpC_standAt (wpC_bindA (wpAny_bindName (wpAny_mono h₁ (fun _ _ x => wpC_pure x) fun _ _ x => x)))))))
theorem Assign_Tuple_swappedC {elts : List Expr} {k : Nat} {tpos : Pos} {value : Expr} {pos : Pos} {names : List PySem.Str} {Q : Flow → Shared → Prop}
    (h : wpC (model prog w) A (eval value env) (fun v s₁ => wpAny (model prog w) A (unpackItems v names.length none) (fun items s₂ =>
      wpAny (model prog w) A (assignInOrder (names.reverse.map fun n => bindName env n) items.reverse) (fun _ => Q .next) NoE s₂) NoE s₁) s)
    (hs : swapsWithSole [.Tuple elts k tpos] value pos.line env = pure false := by rfl)
    (hw : swappedStores [.Tuple elts k tpos] value env = pure (some names) := by rfl) :
    wpC (model prog w) A (exec (.Assign [.Tuple elts k tpos] value pos) env) Q s := by
  rw [exec_Assign]
  refine wpC_bind (wpC_standAt ?_)
  rw [hs]
  refine wpC_bind (wpC_pure ?_)
  rw [if_neg (by decide)]
  refine wpC_bind (wpC_mono h fun v s₁ h₁ => ?_)
  rw [hw]
  refine wpC_bind (wpC_pure (wpC_any ?_))
  show wpAny _ A (do rule "assign.swapped-stores"; let items ← unpackItems v names.length none; assignInOrder (names.reverse.map fun n => bindName env n) items.reverse; pure .next) Q NoE s₁
  exact wpAny_bind (wpAny_rule (wpAny_bind (wpAny_mono h₁ (fun items s₂ h₂ => wpAny_bind (wpAny_mono h₂ (fun _ _ x => wpAny_pure x) fun _ _ x => x)) fun _ _ x => x)))
theorem IfC {test : Expr} {body orelse : List Stmt} {pos : Pos} {Q : Flow → Shared → Prop}
    (h : wpAny (model prog w) A (isTrue test env (eval test env)) (fun b s₁ => if b = true then wpC (model prog w) A (execs body env) Q s₁ else wpC (model prog w) A (execs orelse env) Q s₁) NoE s) :
    wpC (model prog w) A (exec (.If test body orelse pos) env) Q s := by
  rw [exec_If]
  refine wpC_bind (wpC_standAt (wpC_bindA (wpAny_mono h (fun b s₁ h₁ => ?_) fun _ _ x => x)))
  cases b <;> exact h₁
theorem WhileC {test : Expr} {body orelse : List Stmt} {pos : Pos} {Q : Flow → Shared → Prop} (h : codeC (model prog w) A (.whileLoop test body orelse env) Q s) : wpC (model prog w) A (exec (.While test body orelse pos) env) Q s := by
  rw [exec_While]
  refine wpC_bind (wpC_standAt ?_)
  unfold runOwn
  exact wpC_onRaise (wpC_run h)
theorem whileTurnC {test : Expr} {body orelse : List Stmt} {Q : Flow → Shared → Prop}
    (h : wpAny (model prog w) A (isTrue test env (eval test env)) (fun b s₁ => if b = true then wpC (model prog w) A (execs body env) (fun f s₃ => match f with
            | .next | .cont => codeC (model prog w) A (.whileLoop test body orelse env) Q s₃
            | .brk => Q .next s₃
            | .ret v => Q (.ret v) s₃) s₁ else wpC (model prog w) A (execs orelse env) Q s₁) NoE s) : codeC (model prog w) A (.whileLoop test body orelse env) Q s := by
  refine codeC_of_tree rfl ?_
  show wpC _ A ((whileTurn test body orelse env).onRaise (fun x => do noteFrame x env; theTreesLotGoes x)) _ s
  refine wpC_onRaise ?_
  simp only [whileTurn]
  refine wpC_bindA (wpAny_mono h (fun b s₂ h₂ => ?_) fun _ _ h' => h')
  cases b with
  | false =>
    simp only [Bool.false_eq_true, if_false] at h₂ ⊢
    exact wpC_bind (wpC_mono h₂ fun f s₃ h₃ => wpC_pure h₃)
  | true =>
    simp only [if_true] at h₂ ⊢
    refine wpC_bind (wpC_mono h₂ fun f s₃ h₃ => ?_)
    cases f with
    | next => exact wpC_pure ⟨rfl, h₃⟩
    | cont => exact wpC_pure ⟨rfl, h₃⟩
    | brk => exact wpC_pure h₃
    | ret v => exact wpC_pure h₃
end
end Mine
end
section
open PySem PySem.W PyProof.Rows PySem.Calls PySem.Spec
namespace Mine
set_option maxRecDepth 100000
section
variable {prog : Program} {w : World} {A : Around} {s : Shared} {env : Env}
theorem ltN {h : Heap} {b : Addr} {o : Obj} (e : h.get? b = some o) : @LT.lt Nat instLTNat b h.objs.size := Heap.lt_size e
theorem wpC_standIf {α : Type} {M : Model} {c : Prop} [Decidable c] {pos : Pos} {k : PUnit → Sem α} {Q : α → Shared → Prop} (h : wpC M A (k ()) Q s) :
    wpC M A (if c then (standAt pos >>= k) else k ()) Q s := by
  split
  · exact wpC_bind (wpC_standAt h)
  · exact h
theorem comprehensionC {M : Model} {e : Expr} {scope : Scope} {pos : Pos} {newAcc first : Sem Value} {g : Comprehension} {gs : List Comprehension} {cl : List (PySem.Str × Addr)} {Q : Value → Shared → Prop}
    (hcl : clausesOf e = g :: gs) (hs : ∀ x, foldedSetIterable g.iter env x = pure x) (hclos : closureFor scope env = pure cl)
    (hkind : scope.kind = .function) (hnames : ∀ x ∈ scope.names, x.2 = .local → scope.names.lookup x.1 = some .local)
    (h : wpAny M A first (fun x s₁ => wpAny M A (pyIter x) (fun it s₂ => wpAny M A newAcc (fun acc s₃ =>
      wpAny M A (newFunctionEnv scope env.globals cl [] env.qual none .none (some env)) (fun cenv s₄ =>
        codeC M A (.compStart e 0 it acc { cenv with scope := relabel scope env }) (fun _ s' => ∃ m, s'.heap.Ns cenv.locals m ∧ ∀ h', Heap.SameBut cenv.locals s'.heap h' → Q acc { s' with heap := h' }) s₄) NoE s₃) NoE s₂) NoE s₁) NoE s) :
    wpC M A (comprehension e scope env pos newAcc false first none) Q s := by
  unfold comprehension
  rw [hclos, hcl]
  refine wpC_bindA (wpAny_mono h (fun x s₁ h₁ => wpC_bind (wpC_standAt (wpC_bindA (wpAny_of_eq (hs x) (wpC_bindA (wpAny_holding (wpAny_mono h₁ (fun it s₂ h₂ =>
    wpC_standIf (wpC_bindA (wpAny_mono h₂ (fun acc s₃ h₃ => wpC_bind (wpC_pure (wpC_bindA (wpAny_mono h₃ (fun cenv s₄ h₄ => ?_) fun _ _ h' => h')))) fun _ _ h' => h')))
      fun _ _ h' => h'))))))) fun _ _ h' => h')
  dsimp only
  have hv : ∀ x ∈ (scope.names.filter fun x => (x.2 == .local || x.2 == .cell) && x.1 != (".0" : PySem.Str)).reverse, x.2 = .local →
      Env.kindOf { cenv with scope := relabel scope env } x.1 = some .local := fun x hx hl => lookup_relabel_local (hnames x (List.mem_filter.mp (List.mem_reverse.mp hx)).1 hl)
  refine wpC_holding (wpC_bind (wpC_attempt (wpC_holding (wpC_run (codeC_mono h₄ fun f s' hr => ?_)))))
  obtain ⟨m, hn, hr⟩ := hr
  exact wpC_any (wpAny_bind (wpAny_holding (wpAny_comp_letGo (cenv := { cenv with scope := relabel scope env }) hkind _ s' m hv hn fun h' m' _ hs' => wpAny_pure (hr h' hs'))))
theorem compStartC {elt target iter : Expr} {ifs : List Expr} {rest : List Comprehension} {scope : Scope} {pos : Pos} {it acc : Value} {Q : Flow → Shared → Prop}
    (h0 : codeC (model prog w) A (.compLoop (.ListComp elt (⟨target, iter, ifs, 0⟩ :: rest) scope pos) 0 it acc env) Q s)
    (h : wpAny (model prog w) A (pyIter it) (fun it' s' => codeC (model prog w) A (.compLoop (.ListComp elt (⟨target, iter, ifs, 0⟩ :: rest) scope pos) 0 it' acc env) Q s') NoE s) :
    codeC (model prog w) A (.compStart (.ListComp elt (⟨target, iter, ifs, 0⟩ :: rest) scope pos) 0 it acc env) Q s := by
  refine codeC_of_tree rfl ?_
  show wpC _ A ((compStart (.ListComp elt (⟨target, iter, ifs, 0⟩ :: rest) scope pos) 0 it acc env).onRaise (fun x => do noteFrame x env; standAt theWindowsPlace)) _ s
  refine wpC_onRaise ?_
  unfold compStart
  show wpC _ _ (ask >>= _) _ s
  refine wpC_bindA (wpAny_askSetting ?_)
  split
  · first
      | exact wpC_bind (wpC_pure (wpC_pure (And.intro rfl h0)))
      | exact wpC_pure (And.intro rfl h0)
  · first
      | exact wpC_bindA (wpAny_rule (wpC_bind (wpC_standAt (wpC_bindA (wpAny_mono h (fun it' s' h' => wpC_pure (And.intro rfl h')) fun _ _ x => x)))))
      | (refine wpC_bindA (wpAny_rule ?_); show wpC _ _ (standAt iter.pos >>= _) _ s; exact wpC_bind (wpC_standAt (wpC_bindA (wpAny_mono h (fun it' s' h' => wpC_pure (And.intro rfl h')) fun _ _ x => x))))
theorem compTurnC {elt target iter : Expr} {ifs : List Expr} {scope : Scope} {pos : Pos} {it acc : Value} {Q : Flow → Shared → Prop}
    (h : wpAny (model prog w) A (pyNext it) (fun r s₁ => match r with
      | none => Q .next s₁
      | some v => wpAny (model prog w) A (assign target env v) (fun _ s₂ =>
          wpC (model prog w) A (forIn ifs true fun c r => if r = true then do let ok ← isTrue c env (eval c env); pure (ForInStep.yield ok) else pure (ForInStep.yield r)) (fun ok s₃ =>
            ok = false ∧ codeC (model prog w) A (.compLoop (.ListComp elt [⟨target, iter, ifs, 0⟩] scope pos) 0 it acc env) Q s₃) s₂) NoE s₁) NoE s)
    (ht : ∀ v, letOwnedTupleGo target it v = pure () := by intro _; rfl) :
    codeC (model prog w) A (.compLoop (.ListComp elt [⟨target, iter, ifs, 0⟩] scope pos) 0 it acc env) Q s := by
  refine codeC_of_tree rfl ?_
  show wpC _ A ((compTurn (.ListComp elt [⟨target, iter, ifs, 0⟩] scope pos) 0 it acc env).onRaise (fun x => do noteFrame x env; theTreesLotGoes x)) _ s
  refine wpC_onRaise ?_
  rw [compTurn_list]
  refine wpC_bind (wpC_standAt (wpC_bindA (wpAny_mono h (fun r s₁ h₁ => ?_) fun _ _ h' => h')))
  cases r with
  | none => exact wpC_pure h₁
  | some v =>
    refine wpC_bindA (wpAny_of_eq (ht v) ?_)
    refine wpC_bindA (wpAny_mono h₁ (fun _ s₂ h₂ => wpC_bind (wpC_mono h₂ fun ok s₃ h₃ => ?_)) fun _ _ h' => h')
    obtain ⟨rfl, h₃⟩ := h₃
    exact wpC_pure ⟨rfl, h₃⟩
theorem compLoopC {elt iter : Expr} {x : PySem.Str} {px : Pos} {ifs : List Expr} {scope : Scope} {pos : Pos} {I : Addr} {acc : Value} {fp wr : List Addr} {n : Nat} {P : Nat → Value → Prop} {St : Nat → Heap → Prop} {cenv : Env} {Q : Flow → Shared → Prop}
    (W : Walks prog w A I fp wr n P St) (hx : cenv.kindOf x = some .local) (hp : (cenv.scope.kind == .class || (cenv.scope.kind == .module && cenv.locals != cenv.globals)) = false) (hCf : cenv.locals ∉ fp)
    (htests : ∀ i v s₂ m₂, P i v → s₂.heap.Ns cenv.locals m₂ → m₂ x = some v → (∀ b o, b ≠ cenv.locals → b ∉ wr → s.heap.get? b = some o → s₂.heap.get? b = some o) → s₂.gens = s.gens → s₂.drawn = s.drawn → s₂.os = s.os →
      wpC (model prog w) A (forIn ifs true fun c r => if r = true then do let ok ← isTrue c cenv (eval c cenv); pure (ForInStep.yield ok) else pure (ForInStep.yield r)) (fun ok s₃ => ok = false ∧ Keeps s₂ s₃) s₂)
    (hQ : ∀ h' tk m', h'.Ns cenv.locals m' → (∀ b o, b ≠ cenv.locals → b ∉ wr → s.heap.get? b = some o → h'.get? b = some o) → Q .next { s with heap := h', toks := tk }) :
    ∀ k i H tk m', n - i = k → i ≤ n → St i H → H.Ns cenv.locals m' → (∀ b o, b ≠ cenv.locals → b ∉ wr → s.heap.get? b = some o → H.get? b = some o) →
      codeC (model prog w) A (.compLoop (.ListComp elt [⟨.Name x px, iter, ifs, 0⟩] scope pos) 0 (.ref I) acc cenv) Q { s with heap := H, toks := tk } := by
  have hCw : cenv.locals ∉ wr := fun h => hCf (W.sub _ h)
  intro k
  induction k with
  | zero =>
    intro i H tk m' hk hi hst hn hkp
    obtain rfl : i = n := by omega
    exact compTurnC (W.done _ _ _ hst fun h' tk' hk' => hQ h' tk' m' (hn.at' fun o e => hk' _ o hCw e) fun b o h1 h2 e => hk' b o h2 (hkp b o h1 h2 e))
  | succ k ih =>
    intro i H tk m' hk hi hst hn hkp
    refine compTurnC (W.item i _ _ _ (by omega) hst fun v h₁ tk₁ hPv hst₁ hk₁ => ?_)
    refine wpAny_assign_Name (wpAny_storeName_local hx (hn.at' fun o e => hk₁ _ o hCw e) (fun h₂ hn₂ hs₂ => ?_) hp)
    have up₂ : ∀ b o, b ≠ cenv.locals → b ∉ wr → s.heap.get? b = some o → h₂.get? b = some o := fun b o hbC hbf e => hs₂.extBut b o hbC (hk₁ b o hbf (hkp b o hbC hbf e))
    have hst₂ : St (i + 1) h₂ := W.frame _ _ _ hst₁ fun b hb o e => hs₂.extBut b o (fun h => hCf (h ▸ hb)) e
    refine wpC_mono (htests i v _ _ hPv hn₂ (by simp) up₂ rfl rfl rfl) fun ok s₃ h₃ => ?_
    obtain ⟨rfl, h₃, tk₃, rfl, hk₃⟩ := h₃
    exact ⟨rfl, ih (i + 1) h₃ tk₃ _ (by omega) (by omega) (W.frame _ _ _ hst₂ fun b _ o e => hk₃ b o e) (hn₂.keeps hk₃) fun b o h1 h2 e => hk₃ b o (up₂ b o h1 h2 e)⟩
theorem ListCompC {elt iter : Expr} {x : PySem.Str} {px : Pos} {ifs : List Expr} {scope : Scope} {cl : List (PySem.Str × Addr)} {pos : Pos} {Q : Value → Shared → Prop}
    (hh : A.handled = none) (hclos : closureFor scope env = pure cl) (hcell : ∀ y ∈ scope.names, y.2 ≠ .cell) (hkind : scope.kind = .function)
    (hnames : ∀ y ∈ scope.names, y.2 = .local → scope.names.lookup y.1 = some .local) (hx : scope.names.lookup x = some .local)
    (h : wpAny (model prog w) A (eval iter env) (fun xv s₁ => ∃ ax, ∃ vs : List Value, xv = .ref ax ∧ s₁.heap.IsList ax vs.toArray ∧ vs.length ≤ sizeLine ∧
      (∀ C v s₂ m₂, v ∈ vs → s₂.heap.Ns (compEnvC scope cl C env).locals m₂ → m₂ x = some v → (∀ b o, s₁.heap.get? b = some o → s₂.heap.get? b = some o) → s₂.gens = s₁.gens → s₂.drawn = s₁.drawn → s₂.os = s₁.os →
        wpC (model prog w) A (forIn ifs true fun c r => if r = true then do let ok ← isTrue c (compEnvC scope cl C env) (eval c (compEnvC scope cl C env)); pure (ForInStep.yield ok) else pure (ForInStep.yield r))
          (fun ok s₃ => ok = false ∧ Keeps s₂ s₃) s₂) ∧
      (∀ D h' tk, (∀ b o, s₁.heap.get? b = some o → h'.get? b = some o) → h'.IsList D #[] → Q (.ref D) { s₁ with heap := h', toks := tk })) NoE s)
    (hs : ∀ x, foldedSetIterable iter env x = pure x) :
    wpC (model prog w) A (eval (.ListComp elt [⟨.Name x px, iter, ifs, 0⟩] scope pos) env) Q s := by
  rw [eval_ListComp]
  refine comprehensionC rfl hs hclos hkind hnames (wpAny_mono h (fun xv s₁ h₁ => ?_) fun _ _ e => e)
  obtain ⟨ax, vs, rfl, hl, hsz, htests, hQ⟩ := h₁
  have hlt : ax < s₁.heap.objs.size := by obtain ⟨_, e, _⟩ := hl; exact Heap.lt_size e
  refine wpAny_pyIter_list hl ?_
  refine wpAny_newObj_type (wpAny_newFunctionEnv hcell (by intro y hy; simp at hy) (fun h₁ hns₁ hsb₁ => ?_) hkind)
  dsimp only at hns₁ hsb₁ ⊢
  generalize hH1 : s₁.heap.push { cls := .type "list_iterator", dict := none, data := .fields #[.ref ax, .int 0 0] } = H1 at hns₁ hsb₁ ⊢
  generalize hH2 : H1.push { cls := .type "list", dict := none, data := .seq ([] : List Value).toArray } = H2 at hns₁ hsb₁ ⊢
  have c1 : H1.objs.size = s₁.heap.objs.size + 1 := by rw [← hH1, Heap.size_push]
  have c2 : H2.objs.size = H1.objs.size + 1 := by rw [← hH2, Heap.size_push]
  have old : ∀ b o, b < H2.objs.size → H2.get? b = some o → h₁.get? b = some o := fun b o hb e => hsb₁.extBut b o (Nat.ne_of_lt hb) (Heap.get?_push_of_some _ e)
  have up : ∀ b o, s₁.heap.get? b = some o → h₁.get? b = some o := fun b o e => old b o (show @LT.lt Nat instLTNat b _ by have := ltN e; omega) (hH2 ▸ Heap.get?_push_of_some _ (hH1 ▸ Heap.get?_push_of_some _ e))
  have hst : h₁.IsListIter s₁.heap.objs.size ax 0 ∧ h₁.IsList ax vs.toArray := ⟨⟨_, old _ _ (by omega) (hH2 ▸ Heap.get?_push_of_some _ (hH1 ▸ Heap.get?_push_size _ rfl)), rfl, rfl⟩, let ⟨o, e, r⟩ := hl; ⟨o, up _ _ e, r⟩⟩
  have hD : h₁.get? H1.objs.size = some { cls := .type "list", dict := none, data := .seq ([] : List Value).toArray } := old _ _ (by omega) (hH2 ▸ Heap.get?_push_size _ rfl)
  have W := Walks.list (prog := prog) (w := w) (A := A) hh s₁.heap.objs.size ax (Nat.ne_of_lt hlt) vs.toArray
  have loop : codeC (model prog w) A (.compLoop (.ListComp elt [⟨.Name x px, iter, ifs, 0⟩] scope pos) 0 (.ref s₁.heap.objs.size) (.ref H1.objs.size) (compEnvC scope cl H2.objs.size env))
      (fun _ s' => ∃ m, s'.heap.Ns H2.objs.size m ∧ ∀ h', Heap.SameBut H2.objs.size s'.heap h' → Q (.ref H1.objs.size) { s' with heap := h' }) { s₁ with heap := h₁, toks := s₁.toks + ([] : List (PySem.Str × Value)).length } := by
    refine compLoopC (s := { s₁ with heap := h₁, toks := s₁.toks + ([] : List (PySem.Str × Value)).length }) (cenv := compEnvC scope cl H2.objs.size env) W (lookup_relabel_local hx) (by simp [compEnvC, relabel, hkind]) (fun hm => ?_) (fun i v s₂ m₂ hv hn hm hk g1 g2 g3 => ?_) (fun h' tk m' hn hk => ?_) vs.toArray.size 0 _ _ _ (by omega) (Nat.zero_le _) hst hns₁ fun _ _ _ _ e => e
    · rcases List.mem_cons.mp hm with e | hm
      · have e' : @Eq Nat H2.objs.size s₁.heap.objs.size := e; omega
      · rcases List.mem_cons.mp hm with e | hm
        · have e' : @Eq Nat H2.objs.size ax := e; have hlt' : @LT.lt Nat instLTNat ax s₁.heap.objs.size := hlt; omega
        · cases hm
    · refine htests _ v s₂ m₂ (by simpa using Array.mem_of_getElem? hv) hn hm (fun b o e => hk b o ?_ ?_ (up b o e)) g1 g2 g3
      · have := ltN e
        show b ≠ H2.objs.size
        exact Nat.ne_of_lt (by omega)
      · intro hm
        rcases List.mem_cons.mp hm with rfl | hm
        · exact Nat.lt_irrefl _ (Heap.lt_size e)
        · cases hm
    · refine ⟨m', hn, fun h'' hs'' => hQ _ h'' tk (fun b o e => ?_) ?_⟩
      · have hb := ltN e
        refine hs''.extBut b o (Nat.ne_of_lt (by omega)) (hk b o (by show b ≠ H2.objs.size; exact Nat.ne_of_lt (by omega)) ?_ (up b o e))
        intro hm
        rcases List.mem_cons.mp hm with rfl | hm
        · exact Nat.lt_irrefl _ hb
        · cases hm
      · refine ⟨_, hs''.extBut _ _ (Nat.ne_of_lt (by omega)) (hk _ _ (by show H1.objs.size ≠ H2.objs.size; exact Nat.ne_of_lt (by omega)) ?_ hD), rfl, 0, rfl⟩
        intro hm
        rcases List.mem_cons.mp hm with e | hm
        · have e' : @Eq Nat H1.objs.size s₁.heap.objs.size := e; omega
        · cases hm
  exact compStartC loop (W.self 0 _ _ _ hst loop)
end
end Mine
end
section
open PySem PySem.W PyProof.Rows PySem.Calls PySem.Spec
namespace Mine
set_option maxRecDepth 100000
theorem threadC {prog : Program} {w : World} {t : Sem Fin} {s : Shared} {R : Result → Shared → Prop} (hreg : s.asleep)
    (h : wpC (model prog w) callerA t (fun fin s' => ∃ f, fin = .done f ∧ (R (.ok f) s' ∧ leftWithCleanup s'.gens = false)) s) :
    ∃ n r s' s'', runN (denote table) prog w n s ⟨t, .builtin "claim.caller" {}, default, []⟩ = .halted (outcomeOf r) s' ∧
      schedN (denote table) prog w n (.single s ⟨t, .builtin "claim.caller" {}, default, []⟩) = .halted (outcomeOf r) s' ∧ s'.forget = s''.forget ∧ R r s'' := by
  obtain ⟨n, r, s₁, s₂, hs, hn, hfo, hR⟩ := wp_halts_full (M := model prog w) (R := R) hreg
    (Sem.wp_mono (model prog w) ⟨.builtin "claim.caller" {}, none, none, [], none⟩ t (fun fin p' s' h' => by
      obtain ⟨f, rfl, hf⟩ := h'
      exact hf) (fun _ _ _ h' => h'.elim) default s (h _ default caller_in (by decide +kernel) (by intro x hx; cases hx)))
  exact ⟨n, r, s₂, s₁, hn, hs, hfo, hR⟩
theorem callFromC {c : ClaimW} {tree : List Value → Sem Fin} {w : World} {s : Shared} {free : Addr → Prop} {gens : Prop} {kept : Heap → Prop} (hz : s.asleep) (hgens : s.gens = #[])
    (hspec : ∀ args, c.pre args = true → WData.layableAll args = true → ∀ ord : List DictEntry → List DictEntry, (∀ l, (ord l).Perm l) →
      ∃ vs s₁, layAllW c.records (classAt s.heap) w.params ord args s = some (vs, s₁) ∧
        wpC (model c.prog w) callerA (tree vs) (fun fin s' => ∃ f, fin = .done f ∧ (c.Ends s args vs s₁ (.ok f) s' ∧ s'.os = s.os ∧ AllBare s'.gens ∧ kept s'.heap)) s₁) :
    c.CallFrom (fun vs => ⟨tree vs, .builtin "claim.caller" {}, default, []⟩) w free gens kept s := by
  intro args hpre hlay ord hord
  obtain ⟨vs, s₁, hlaid, hcode⟩ := hspec args hpre hlay ord hord
  have hal := layAllW_rest _ _ _ hlaid
  obtain ⟨k, r, s', s'', hrun, hsched, hfo, hcase, hos, hkp⟩ := threadC (prog := c.prog) (w := w) (t := tree vs) (s := s₁)
    (R := fun r s' => c.Ends s args vs s₁ r s' ∧ s'.os = s.os ∧ kept s'.heap) (Shared.asleep_of_life hal.2.2.2 hz)
    (wpC_mono hcode (by
      rintro fin s' ⟨f, e, h1, h2, h3, h4⟩
      exact ⟨f, e, ⟨h1, h2, h4⟩, leftWithCleanup_false_of_bare h3⟩))
  obtain ⟨eh, _, _, eo, _⟩ := Shared.forget_eq hfo
  have hcase := hcase.congr eh
  have hkp : kept s'.heap := by first | exact eh ▸ hkp | (rw [eh] at hkp; exact hkp) | (rw [← eh] at hkp; exact hkp)
  rw [← eo] at hos
  have hlife : s'.heap.life = s.heap.life := (runN_life _ _ _ hrun).trans hal.2.2.2
  refine ⟨vs, s₁, hlaid, k, _, s', hsched, ?_, (fun _ i x hx => by rw [hgens] at hx; simp at hx), hkp, by rw [hlife], Shared.rest_eq hos⟩
  rcases hcase with ⟨v, rfl, d1, d2, d3, d4, d5⟩ | ⟨e, ob, cls, rfl, d1, d2, d3, d4, d5⟩
  · exact .inl ⟨v, rfl, d1, d2, d3, fun b o y _ => d4 b o y, d5⟩
  · exact .inr ⟨e, ob, cls, rfl, d1, d2, d3, d4, fun b o y _ => d5 b o y⟩
theorem openC {r : RowW} {run : Value → List Value → Sem Value} {tree : List Value → Sem Fin} {q : Program} {loose defs kps : List PySem.Str} {writes : Bool} {Xt : Shared → Bool} {XP : (PySem.Str → Option Value) → Heap → Prop} {α : Type} {Yf : Shared → α} {Ya : World → α} {YP : World → Heap → Prop} {N : Nat}
    (left : LeftO r.prog q loose Xt Yf Ya N) (hY : ∀ w s, Yf s = Ya w → YP w s.heap) (hYk : ∀ w h h', YP w h → (∀ b o, h.get? b = some o → h'.get? b = some o) → YP w h') (hX : ∀ s, Xt s = true → XP (s.heap.nsMap mainGlobals) s.heap) (hXk : ∀ mg h h', XP mg h → (∀ b o, h.get? b = some o → h'.get? b = some o) → XP mg h')
    (hRf : ∀ s, Xt s = true → RecFacts r.records s.heap) (hwr : (!writes || r.records.isEmpty) = true) (ok : (chainsOk q && opensWell r.prog && (frees r && r.within.isEmpty)) = true) (hb : r.prog.bare) (hw : r.promised)
    (ht : ∀ vs (w : World) (s : Shared) mg f (Q : Fin → Shared → Prop), s.heap.Ns mainGlobals mg → mg r.name = some f → wpC (model r.prog w) callerA (run f vs) (fun v s' => Q (.done (.ret v)) s') s → wpC (model r.prog w) callerA (tree vs) Q s)
    (pin : ∀ w s, s.heap.isNs mainGlobals = true → Ground q loose [] XP w s (s.heap.nsMap mainGlobals) (s.heap.nsMap builtinsNs) s.heap → ∀ n ∈ defs, isTheDefsW r.prog s.heap n)
    (call : ∀ (w : World) (s₀ s₁ : Shared) (mg mb : PySem.Str → Option Value), Ground q loose r.records XP w s₀ mg mb s₁.heap → YP w s₁.heap → ∀ (args : List WData) (vs : List Value) (as : List Addr),
      r.claim.pre args = true → WData.layableAll args = true → Laid r.records w s₀ s₁ args vs as → sysModules < s₀.heap.objs.size → ∃ f, mg r.name = some f ∧
        wpC (model r.prog w) callerA (run f vs) (fun v s' => GoodWG r.claim (classAt s₀.heap) (ExcName.means s₀.heap) args s₁ (.ok (.ret v)) s') s₁) :
    r.claim.HoldsOpenBy (fun vs => ⟨tree vs, .builtin "claim.caller" {}, default, []⟩) defs kps writes := by
  obtain ⟨ok, k5⟩ := Bool.and_eq_true_iff.mp ok
  obtain ⟨hch, o1⟩ := Bool.and_eq_true_iff.mp ok
  obtain ⟨k5, k6⟩ := Bool.and_eq_true_iff.mp k5
  obtain ⟨hsame, hu, ha, hap, hm⟩ := frees_parts k5
  refine ⟨⟨hb, o1, by show r.makers.map _ = []; rw [hm]; rfl⟩, hw.witness, fun w => ⟨(left.behind hX hch w).1, fun s' hs' => ?_⟩⟩
  obtain ⟨s₀, hf, hg0, s, hT, hz, hgens, hg, G00, y⟩ := (left.behind (XP := fun mg h => XP mg h ∧ RecFacts r.records h) (fun s hs => ⟨hX s hs, hRf s hs⟩) hch w).2 s' hs'
  have G0 : Ground q loose [] XP w s (s.heap.nsMap mainGlobals) (s.heap.nsMap builtinsNs) s.heap := ⟨G00.T, G00.B, G00.D, G00.TE, G00.TD, G00.W, G00.X.1, G00.cls, G00.has, G00.apart, G00.once, G00.K⟩
  have RF := G00.X.2
  have hT' := hT
  refine ⟨s₀, hf, hg0, s, hT, pin w s hg G0, RF.1, RF.2.1, ?_⟩
  have hgens : s.gens = #[] := Array.eq_empty_of_size_eq_zero (beq_iff_eq.mp hgens)
  have G : Ground q loose r.records XP w s _ _ s.heap := RF.ground G0
  refine callFromC (c := r.claim) hz hgens fun args hpre hlay ord hord => ?_
  obtain ⟨⟨vs, s₁⟩, hlaid⟩ := Option.isSome_iff_exists.mp (layAllW_isSome (P := w.params) (ord := ord) G.has args r.args s (pre_splitW hpre).1)
  have keeps := layAllW_keeps _ _ _ hlaid
  have hal := layAllW_rest _ _ _ hlaid
  obtain ⟨as, hrd, hin, hold⟩ := reads_layAllW hord _ _ _ hlaid hlay s₁.heap (fun _ _ e => e)
  have L : Laid r.records w s s₁ args vs as := ⟨⟨ord, hord, hlaid⟩, hrd, hin, hold, keeps, hal.1.trans hgens, hal.2.2.1⟩
  have G₁ := G.keeps hXk keeps
  obtain ⟨f, hf, h⟩ := call w s s₁ _ _ G₁ (hYk _ _ _ (hY w s y) keeps) args vs as hpre hlay L G.low
  have hi := ident_freeW hu ha hap
  have hwi : r.claim.within = [] := List.isEmpty_iff.mp k6
  exact ⟨vs, s₁, hlaid, ht vs w s₁ _ f _ G₁.T.g hf (wpC_mono h fun v s' g => ⟨_, rfl, have z := g.laid (c := r.claim) hsame hwi hi L; ⟨z.1, z.2.1, z.2.2, fun q => ⟨namesKept_of hT' hg kps keeps g.2.1.old, noTable hwr q⟩⟩⟩)⟩
abbrev WalkC (q : Program) (loose : List PySem.Str) (XP : (PySem.Str → Option Value) → Heap → Prop) (YP : World → Heap → Prop) (r : RowW) (d : DefRec) (kwd : List (PySem.Str × Expr)) : Prop :=
  ∀ (w : World) (s₀ s₁ : Shared) (mg mb : PySem.Str → Option Value), Ground q loose r.records XP w s₀ mg mb s₁.heap → YP w s₁.heap → ∀ (a : Addr) (o : Obj) (pm cd doc dV kV : Value), s₁.heap.get? a = some o →
    o.data = .func { docDef d.name d.params d.body d.scope pm cd doc with defaults := dV, kwdefaults := kV } → s₁.heap.CodeRec cd d.name → Dflts mg s₁.heap d.params kwd dV kV → mg d.name = some (.ref a) → s₁.gens = #[] →
    ∀ (args : List WData) (vals : List Value) (as : List Addr), r.claim.pre args = true → WData.layableAll args = true → ReadsAllW r.records (classAt s₀.heap) s₁.heap vals args as → WellAll w.params s₁.heap vals args → (∀ a ∈ as, (a == sysModules) = false) →
      wpC (model r.prog w) callerA (PySem.call (.ref a) vals) (fun v s' => GoodWG r.claim (classAt s₀.heap) (ExcName.means s₀.heap) args s₁ (.ok (.ret v)) s') s₁
theorem holdsC {r : OpenRow} {q : Program} {loose : List PySem.Str} {Xt : Shared → Bool} {XP : (PySem.Str → Option Value) → Heap → Prop} {α : Type} {Yf : Shared → α} {Ya : World → α} {YP : World → Heap → Prop} {d : DefRec} {kwd : List (PySem.Str × Expr)} {N : Nat}
    (left : LeftO r.prog q loose Xt Yf Ya N) (hY : ∀ w s, Yf s = Ya w → YP w s.heap) (hYk : ∀ w h h', YP w h → (∀ b o, h.get? b = some o → h'.get? b = some o) → YP w h')
    (hX : ∀ s, Xt s = true → XP (s.heap.nsMap mainGlobals) s.heap) (hXk : ∀ mg h h', XP mg h → (∀ b o, h.get? b = some o → h'.get? b = some o) → XP mg h')
    (hdef : defOf q r.name = some (d, kwd)) (hp : r.prog.theDef r.name = some (d.params, d.body, d.scope)) (hk : kwWritten? d.params.kwonlyargs d.params.kw_defaults = some kwd) (hRf : ∀ s, Xt s = true → RecFacts r.records s.heap) (hwr : (!r.writes || r.records.isEmpty) = true)
    (k1 : r.wellSaid = true) (ok : (chainsOk q && opensWell r.prog && (frees r.toRowW && r.within.isEmpty)) = true) (hb : r.prog.bare) (hw : r.toRowW.promised)
    (call : WalkC q loose XP YP r.toRowW d kwd) : r.Holds := by
  refine ⟨k1, hw, openC (r := r.toRowW) (run := fun f vs => PySem.call f vs) (tree := fun vs => do match ← nsGet mainNs r.name with
      | some f => do ret (← PySem.call f vs)
      | none => unsupported "claim.caller:no-such-global") left hY hYk hX hXk hRf hwr ok hb hw
    (fun vs w s mg f Q hg hf h => wpC_bindA (wpAny_nsGet hg (by rw [hf]; exact wpC_bind (wpC_mono h fun _ _ x => wpC_pure x))))
    (fun w s hg G n hn => ?_) fun w s₀ s₁ mg mb G Y args vs as hpre hlay L low => ?_⟩
  · obtain rfl : n = r.name := by split at hn <;> simp_all
    exact pinned_of_view hg G hdef hp hk
  · obtain ⟨a, o, pm, cd, doc, dV, kV, h1, h2, h3, h4, h5⟩ := G.fn hdef
    exact ⟨.ref a, h1, call w s₀ s₁ mg mb G Y a o pm cd doc dV kV h2 h3 h4 h5 (defOf_name hdef ▸ h1) L.gens args vs as hpre hlay L.reads L.well (L.low low)⟩
end Mine
end
section
open PySem PySem.W PyProof.Rows PySem.Calls PySem.Spec
namespace Mine
set_option maxRecDepth 100000
theorem CompareC {M : Model} {A : Around} {s : Shared} {env : Env} {l r : Expr} {op : CmpOp} {pos : Pos} {Q : Value → Shared → Prop}
    (h : wpC M A (eval l env) (fun lv s₁ => wpAny M A (eval r env) (fun rv s₂ => wpAny M A (compareOp op lv rv) Q NoE s₂) NoE s₁) s) (hm : behindInMarks op r = false := by with_unfolding_all rfl) : wpC M A (eval (.Compare l [op] [r] pos) env) Q s := by
  rw [eval_Compare1, markedBehindIn_of_false hm]
  refine wpC_bind (wpC_mono h fun lv s₁ h₁ => wpC_bindA (wpAny_holding (wpAny_mono h₁ (fun rv s₂ h₂ => wpC_bind (wpC_standAt (wpC_any (wpAny_operating h₂)))) fun _ _ x => x)))
theorem testNotC {M : Model} {A : Around} {s : Shared} {env : Env} {x : Expr} {p : Pos} {Q : Bool → Shared → Prop}
    (h : wpC M A (eval x env) (fun v s₁ => v = .bool true ∧ Q false s₁) s) (hx : isTrue x env (eval x env) = (do let v ← eval x env; standAt x.pos; holding [v] (truthy v)) := by rfl) :
    wpC M A (forIn [(.UnaryOp .Not x p : Expr)] true fun c r => if r = true then do let ok ← isTrue c env (eval c env); pure (ForInStep.yield ok) else pure (ForInStep.yield r)) Q s := by
  rw [List.forIn_cons]
  refine wpC_bind ?_
  rw [if_pos rfl]
  refine wpC_bind ?_
  rw [arm_isTrue_UnaryOp, hx]
  refine wpC_bind (wpC_bind (wpC_mono h fun v s₁ h₁ => ?_))
  obtain ⟨rfl, h₁⟩ := h₁
  refine wpC_bind (wpC_standAt (wpC_holding (wpC_any (wpAny_truthy_bool ?_))))
  refine wpC_pure (wpC_pure ?_)
  show wpC M A (forIn [] (!true) _) Q s₁
  rw [List.forIn_nil]
  exact wpC_pure h₁
theorem call_cellsC {prog : Program} {w : World} {A : Around} {Q : Flow → Shared → Prop} {s : Shared} {name : PySem.Str} {params : Arguments} {body : List Stmt} {scope : Scope}
    {pm cd doc : Value} {a : Addr} {o : Obj} {args : List Value} {binds : List (PySem.Str × Value)}
    (hroom : A.depth < recursionLimit) (ho : s.heap.get? a = some o) (hdata : o.data = .func (Calls.docDef name params body scope pm cd doc)) (hlim : s.heap.NoLimit) (hcd : s.heap.CodeRec cd name)
    (hbind : bindArgs (Calls.docDef name params body scope pm cd doc) ⟨args, []⟩ = pure binds)
    (hkind : ∀ x ∈ binds, scope.names.lookup x.1 = some .local ∨ (scope.names.lookup x.1 = some .cell ∧ ((cellsFrom (s.heap.objs.size + 1) scope.names []).lookup x.1).isSome = true))
    (hnd : ((cellsFrom 0 scope.names []).map (·.1)).Nodup)
    (h : ∀ h₁ tk cells, Fr s.heap s.heap.objs.size h₁ (bindL (envOfC name scope s.heap.objs.size a cd).kindOf binds fun _ => none) → News s.heap s.heap.objs.size h₁ cells →
      CellsAre (bindC (envOfC name scope s.heap.objs.size a cd).kindOf binds fun _ => none) (cellsFrom (s.heap.objs.size + 1) scope.names []) cells →
      wpC (model prog w) (A.deeper (envOfC name scope s.heap.objs.size a cd)) (execs body (envOfC name scope s.heap.objs.size a cd))
        (fun f s' => Q (.ret (match f with | .ret v => v | _ => .none)) s') { s with heap := h₁, toks := tk })
    (hco : scope.isCoroutine = false := by rfl) (hgen : scope.isGenerator = false := by rfl) (hk : scope.kind = .function := by rfl) :
    codeC (model prog w) A (.call (.ref a) ⟨args, []⟩) Q s := by
  refine codeC_call_function (fd := Calls.docDef name params body scope pm cd doc) hroom ho hdata hco hgen rfl hcd (wpAny_of_eq hbind ?_)
  refine wpAny_newFunctionEnv_cells hk hkind fun env' he s' x => ?_
  subst he
  refine ⟨hlim.keeps x.toInCall.keep, codeC_func ?_⟩
  obtain ⟨h₁, tk, rfl, _⟩ := x.done
  obtain ⟨cells, NC, Y⟩ := Cl.news (h₀ := s.heap) (Nat.le_refl _) fun n c hm => ⟨x.cell n c (lookup_of_mem_nodup (cellsFrom_names scope.names 0 (s.heap.objs.size + 1) [] [] rfl ▸ hnd) hm), x.above n c hm⟩
  exact h h₁ tk cells ⟨x.toInCall.ns, x.toInCall.keep, x.toInCall.fresh⟩ NC Y
end Mine
end
section
open PySem PySem.W PyProof.Rows
namespace Mine
def bAt (i : Nat) : Stmt := PySem.Challenge.pw_pc0168_01.main.body.getD i (.Pass ⟨0, 0, 0, 0⟩)
def vw : Program := { PySem.Challenge.pw_pc0168_01 with main := { PySem.Challenge.pw_pc0168_01.main with body := [bAt 47] } }
def lo : List PySem.Str := [PySem.Str.ofString "BLANKS", PySem.Str.ofString "Limits", PySem.Str.ofString "LuaError", PySem.Str.ofString "is_number", PySem.Str.ofString "wrap", PySem.Str.ofString "is_blank", PySem.Str.ofString "digit_of", PySem.Str.ofString "read_digits", PySem.Str.ofString "skip_blanks", PySem.Str.ofString "str_to_number", PySem.Str.ofString "text_in_base", PySem.Str.ofString "to_number", PySem.Str.ofString "number_text", PySem.Str.ofString "to_text", PySem.Str.ofString "quote", PySem.Str.ofString "FLAGS", PySem.Str.ofString "PERCENT", PySem.Str.ofString "POINT", PySem.Str.ofString "BLANK", PySem.Str.ofString "NOUGHT", PySem.Str.ofString "MINUS", PySem.Str.ofString "PLUS", PySem.Str.ofString "SHARP", PySem.Str.ofString "LONG_TEXT", PySem.Str.ofString "SMALL_DIGITS", PySem.Str.ofString "GREAT_DIGITS", PySem.Str.ofString "is_digit", PySem.Str.ofString "up_to_zero", PySem.Str.ofString "digits_of", PySem.Str.ofString "Directive", PySem.Str.ofString "number_at", PySem.Str.ofString "read_directive", PySem.Str.ofString "PlainArguments", PySem.Str.ofString "item", PySem.Str.ofString "format_all", PySem.Str.ofString "format_values", PySem.Str.ofString "_law_flags", PySem.Str.ofString "_law_letters", PySem.Str.ofString "_law_precisions", PySem.Str.ofString "_law_decimal", PySem.Str.ofString "_law_drawn", PySem.Str.ofString "_law_is_back", PySem.Str.ofString "_law_stands", PySem.Str.ofString "_law_number_right"]
local macro_rules | `(tactic| o_head $H:term) => `(tactic| (refine Mine.holdsC (q := Mine.vw) (loose := Mine.lo) (Xt := fun s => xlAt Mine.vw [] s && recOk (RowW.records (PySem.Challenge.rw_pc0168_01.row.toRowW)) s) (XP := XL Mine.vw []) (Yf := Hook.obs $H) (Ya := Hook.val $H) (YP := Hook.says $H) (N := 4932) ?hl (Hook.of $H) (Hook.keeps $H) (fun s e => xl_of s (Bool.and_eq_true_iff.mp e).1) XL.keeps (by rfl) (by rfl) (by rfl) (fun s e => recFacts_of (Bool.and_eq_true_iff.mp e).2) (by rfl) (by first | assumption | decide +kernel) (by decide +kernel) ⟨rfl, rfl, rfl, rfl, rfl, by decide +kernel⟩ ?hw ?hc; walk_at "hl"))
local macro_rules | `(tactic| walk_at "hl") => `(tactic| (case hl => (intro w; unfold openEnds fencedOpening topFrom; rw [PySem.W.Fast.te14082659384304107361, PySem.W.Fast.te4187177175401517315, PySem.W.Fast.te14364793385576792824, PySem.W.Fast.te5923862056798008813, PySem.W.Fast.te10274390034422433532, PySem.W.Fast.te14289696077712309145, PySem.W.Fast.te1435165496053646825]; kernel_rfl)))
set_option maxRecDepth 100000 in
set_option maxHeartbeats 8000000 in
open_top hd for PySem.Challenge.rw_pc0168_01
end Mine
end
section
open PySem PySem.W PyProof.Rows PySem.Calls PySem.Spec
namespace Mine
theorem fill : (fun (_ : OpenLaw) (_ : Params → Frag) => True) PySem.Challenge.rw_pc0168_01 hd.heap_39 := by
  k_fill
  exact trivial
abbrev PG : Program := PySem.Challenge.pw_pc0168_01
structure Site (w : World) (A₀ : Around) (base h₀ : Heap) (outer : List Env) (L : Addr) (h : Heap) (m : PySem.Str → Option Value) (news : List (Addr × Obj)) (loose : List PySem.Str) (mean : ExcName → Option Value) (mg mb : PySem.Str → Option Value) (cs : Scope) (dp un D : Nat) : Prop where
  B : Below A₀ base outer h₀
  F : Fr h₀ L h m
  X : (hd.heap_39 w.params).In h₀
  N : News h₀ L h news
  T : Top vw loose mean mg mb h₀
  hk : cs.kind = .function
  hdp : dp + D < recursionLimit
  hun : un + 8 * D + 100 < cLine
def digitOf (c : Int) : Int := if 48 ≤ c ∧ c ≤ 57 then c - 48 else if 97 ≤ c ∧ c ≤ 122 then c - 87 else if 65 ≤ c ∧ c ≤ 90 then c - 55 else -1
def isBlank (c : Int) : Bool := [32, 9, 10, 11, 12, 13].contains c
def isDigit (c : Int) : Bool := decide (48 ≤ c ∧ c ≤ 57)
def wrapI (n width : Int) : Int := if 2 ^ (width - 1).toNat ≤ n % 2 ^ width.toNat then n % 2 ^ width.toNat - 2 ^ width.toNat else n % 2 ^ width.toNat
def isDig (bs c : Int) : Bool := decide (0 ≤ digitOf c) && decide (digitOf c < bs)
def skipB (ks : List Int) (i : Int) : Int := i + ((ks.drop i.toNat).takeWhile isBlank).length
def readG (ks : List Int) (f i bs : Int) : Int × Int := (((ks.drop i.toNat).takeWhile (isDig bs)).foldl (fun a c => a * bs + digitOf c) f, i + ((ks.drop i.toNat).takeWhile (isDig bs)).length)
def readD (ks : List Int) (i bs : Int) : Int × Int := readG ks 0 i bs
abbrev tupObj (vs : List Value) : Obj := { cls := .type "tuple", data := .seq vs.toArray }
theorem dropI {ks : List Int} {i : Int} (h0 : 0 ≤ i) (h1 : i < ks.length) : ks.drop i.toNat = ks.getD i.toNat 0 :: ks.drop (i + 1).toNat := by
  have e : (i + 1).toNat = i.toNat + 1 := by omega
  have hl : i.toNat < ks.length := by omega
  rw [e, List.drop_eq_getElem_cons hl, List.getD_eq_getElem?_getD, List.getElem?_eq_getElem hl]
  rfl
theorem skipB_step {ks : List Int} {i : Int} (h0 : 0 ≤ i) (h1 : i < ks.length) (h : isBlank (ks.getD i.toNat 0) = true) : skipB ks (i + 1) = skipB ks i := by
  unfold skipB
  rw [dropI h0 h1, List.takeWhile_cons, h]
  simp only [if_true, List.length_cons]
  omega
theorem skipB_stop {ks : List Int} {i : Int} (h0 : 0 ≤ i) (h : i < ks.length → isBlank (ks.getD i.toNat 0) = false) : skipB ks i = i := by
  unfold skipB
  by_cases h1 : i < ks.length
  · rw [dropI h0 h1, List.takeWhile_cons, h h1]; simp
  · rw [List.drop_eq_nil_of_le (by omega)]; simp
theorem readG_step {ks : List Int} {f i bs : Int} (h0 : 0 ≤ i) (h1 : i < ks.length) (h : isDig bs (ks.getD i.toNat 0) = true) : readG ks (f * bs + digitOf (ks.getD i.toNat 0)) (i + 1) bs = readG ks f i bs := by
  unfold readG
  rw [dropI h0 h1, List.takeWhile_cons, h]
  simp only [if_true, List.length_cons, List.foldl_cons, Prod.mk.injEq, true_and]
  omega
theorem readG_stop {ks : List Int} {f i bs : Int} (h0 : 0 ≤ i) (h : i < ks.length → isDig bs (ks.getD i.toNat 0) = false) : readG ks f i bs = (f, i) := by
  unfold readG
  by_cases h1 : i < ks.length
  · rw [dropI h0 h1, List.takeWhile_cons, h h1]; simp
  · rw [List.drop_eq_nil_of_le (by omega)]; simp
theorem skipB_bd {ks : List Int} {i : Int} (h0 : 0 ≤ i) (h1 : i ≤ ks.length) : i ≤ skipB ks i ∧ skipB ks i ≤ ks.length := by
  unfold skipB
  have h := (List.takeWhile_sublist (l := ks.drop i.toNat) isBlank).length_le
  rw [List.length_drop] at h
  omega
theorem readD_bd {ks : List Int} {i bs : Int} (h0 : 0 ≤ i) (h1 : i ≤ ks.length) : i ≤ (readD ks i bs).2 ∧ (readD ks i bs).2 ≤ ks.length := by
  unfold readD readG
  have h := (List.takeWhile_sublist (l := ks.drop i.toNat) (isDig bs)).length_le
  rw [List.length_drop] at h
  dsimp only
  omega
def sgn (ks : List Int) : Bool := decide (skipB ks 0 < ks.length) && [43, 45].contains (ks.getD (skipB ks 0).toNat 0)
def iOne (ks : List Int) : Int := if sgn ks = true then skipB ks 0 + 1 else skipB ks 0
def below (ks : List Int) : Bool := sgn ks && decide (ks.getD (skipB ks 0).toNat 0 = 45)
def markd (ks : List Int) (bs : Int) : Bool := decide (iOne ks + 2 < ks.length) && decide (ks.getD (iOne ks).toNat 0 = 48) && [120, 88].contains (ks.getD (iOne ks + 1).toNat 0) && ([0, 16].any fun x => x == bs)
def mkd (ks : List Int) (bs : Int) : Bool := markd ks bs && isDig 16 (ks.getD (iOne ks + 2).toNat 0)
def iTwo (ks : List Int) (bs : Int) : Int := if mkd ks bs = true then iOne ks + 2 else iOne ks
def bTwo (ks : List Int) (bs : Int) : Int := if mkd ks bs = true then 16 else bs
def bThree (ks : List Int) (bs : Int) : Int := if bTwo ks bs = 0 then 10 else bTwo ks bs
def fEnd (ks : List Int) (bs : Int) : Int × Int := readD ks (iTwo ks bs) (bThree ks bs)
def textIn (ks : List Int) (bs wd : Int) : Option Int := if (fEnd ks bs).2 = iTwo ks bs ∨ skipB ks (fEnd ks bs).2 ≠ ks.length then none else some (wrapI (if below ks = true then -(fEnd ks bs).1 else (fEnd ks bs).1) wd)
def optV (o : Option Int) (t : Tok) : Value := match o with | none => .none | some v => .int v t
theorem iOne_bd {ks : List Int} : 0 ≤ iOne ks ∧ iOne ks ≤ ks.length := by
  have h := skipB_bd (ks := ks) (i := 0) (by omega) (by omega)
  unfold iOne sgn
  split
  · rename_i hc
    simp only [Bool.and_eq_true, decide_eq_true_eq] at hc
    omega
  · omega
theorem markd_bd {ks : List Int} {bs : Int} (h : markd ks bs = true) : iOne ks + 2 < ks.length := by
  unfold markd at h
  simp only [Bool.and_eq_true, decide_eq_true_eq] at h
  exact h.1.1.1
theorem iTwo_bd {ks : List Int} {bs : Int} : 0 ≤ iTwo ks bs ∧ iTwo ks bs ≤ ks.length := by
  have h := iOne_bd (ks := ks)
  unfold iTwo
  split
  · rename_i hc
    unfold mkd at hc
    have := markd_bd (Bool.and_eq_true_iff.mp hc).1
    omega
  · exact h
theorem bTwo_bd {ks : List Int} {bs : Int} (h3 : 0 ≤ bs) (h4 : bs ≤ 16) : 0 ≤ bTwo ks bs ∧ bTwo ks bs ≤ 16 := by
  unfold bTwo
  split
  all_goals omega
theorem bThree_bd {ks : List Int} {bs : Int} (h3 : 0 ≤ bs) (h4 : bs ≤ 16) : 0 ≤ bThree ks bs ∧ bThree ks bs ≤ 16 := by
  unfold bThree bTwo
  repeat' split
  all_goals omega
theorem beqd (a b : Int) : (a == b) = decide (a = b) := by
  by_cases h : a = b
  · subst h; simp
  · simp [h]
theorem bned (a b : Int) : (a != b) = !decide (a = b) := by rw [bne, beqd]
theorem fmod_bd {a b : Int} (hb : 0 < b) : 0 ≤ a.fmod b ∧ a.fmod b < b := by
  rw [Int.fmod_eq_emod_of_nonneg _ (by omega)]
  exact ⟨Int.emod_nonneg _ (by omega), Int.emod_lt_of_pos _ hb⟩
theorem posI_toNat (x : Int) : (if x > 0 then x else 0).toNat = x.toNat := by
  split
  · rfl
  · omega
def smallT : List Int := [48, 49, 50, 51, 52, 53, 54, 55, 56, 57, 97, 98, 99, 100, 101, 102]
def greatT : List Int := [48, 49, 50, 51, 52, 53, 54, 55, 56, 57, 65, 66, 67, 68, 69, 70]
theorem bi_small : KBw.bInts #[48, 49, 50, 51, 52, 53, 54, 55, 56, 57, 97, 98, 99, 100, 101, 102] = smallT := by decide
theorem bi_great : KBw.bInts #[48, 49, 50, 51, 52, 53, 54, 55, 56, 57, 65, 66, 67, 68, 69, 70] = greatT := by decide
theorem off_lt {news : List (Addr × Obj)} {I : Addr} {p : Addr × Obj} (h : ∀ p : Addr × Obj, p ∈ news → p.1 < I) (hp : p ∈ news) : p.1 < I := h p hp
end Mine
end
section
open PySem PySem.W PyProof.Rows PySem.Calls PySem.Spec
namespace Mine
set_option maxRecDepth 100000
abbrev BI := KBw.bInts
theorem byte_eq {c : UInt8} {n : Int} (h0 : 0 ≤ n) (h1 : n < 256) : (c = n.toNat.toUInt8) ↔ ((c.toNat : Int) = n) := by
  have hb := byte_back h0 h1
  constructor
  · intro e; rw [e]; exact hb
  · intro e
    apply UInt8.toNat_inj.mp
    omega
theorem contains_ints {b : Array UInt8} {n : Int} (h0 : 0 ≤ n) (h1 : n < 256) : b.contains n.toNat.toUInt8 = (BI b).contains n := by
  obtain ⟨l⟩ := b
  show (List.toArray l).contains _ = (l.map fun c => (c.toNat : Int)).contains n
  rw [List.contains_toArray]
  induction l with
  | nil => rfl
  | cons c r ih =>
    rw [List.map_cons, List.contains_cons, List.contains_cons, ih]
    congr 1
    have := byte_eq (c := c) h0 h1
    by_cases e : c = n.toNat.toUInt8
    · have e2 := this.mp e
      rw [← e, ← e2]; simp
    · have e2 : ¬ ((c.toNat : Int) = n) := fun h => e (this.mpr h)
      have a1 : (n.toNat.toUInt8 == c) = false := by simpa using fun h => e h.symm
      have a2 : (n == (c.toNat : Int)) = false := by simpa using fun h => e2 h.symm
      rw [a1, a2]
theorem bints_inj {l l' : List UInt8} (h : (l.map fun c => (c.toNat : Int)) = (l'.map fun c => (c.toNat : Int))) : l = l' := by
  induction l generalizing l' with
  | nil => cases l' with
    | nil => rfl
    | cons _ _ => cases h
  | cons c r ih => cases l' with
    | nil => cases h
    | cons c' r' =>
      simp only [List.map_cons, List.cons.injEq] at h
      obtain rfl := ih h.2
      obtain rfl : c = c' := UInt8.toNat_inj.mp (by omega)
      rfl
theorem eq_ints {b c : Array UInt8} : (b.toList == c.toList) = (BI b == BI c) := by
  by_cases h : b.toList = c.toList
  · have : BI b = BI c := by show b.toList.map _ = c.toList.map _; rw [h]
    rw [h, this]; simp
  · have h2 : ¬ BI b = BI c := fun e => h (bints_inj e)
    have a1 : (b.toList == c.toList) = false := by simpa using h
    have a2 : (BI b == BI c) = false := by simpa using h2
    rw [a1, a2]
theorem gives_bytes_contains (b : Array UInt8) (n : Int) (t u : Tok) (h0 : 0 ≤ n) (h1 : n < 256) :
    Gives (Builtin.«bytes.__contains__» ⟨[.bytes b t, .int n u], []⟩) (.val (.bool ((BI b).contains n))) := by
  refine .of_wp fun M A E s Q hq => ?_
  show wpAny M A (Builtin.Bytes.containsIn "bytes.__contains__" (.bytes b t) (.int n u) >>= fun r => _) _ E s
  refine wpAny_bind ?_
  unfold Builtin.Bytes.containsIn
  refine wpAny_bind (wpAny_attempt (wpAny_of_eq (a := n) rfl ?_))
  refine wpAny_bind (wpAny_of_eq KBy.buffer_eq ?_)
  show wpAny M A (if (decide (n < 0) || decide (n ≥ 256)) = true then _ else _) _ E s
  rw [if_neg (by simp; omega)]
  refine wpAny_pure (wpAny_pure ⟨_, rfl, ?_⟩)
  rw [contains_ints h0 h1]
  exact hq
section
variable {prog : Program} {w : World} {A : Around} {E : Value → Shared → Prop} {s : Shared} {b c : Array UInt8} {t u : Tok} {ks ls : List Int} {n : Int}
theorem in_bytes {Q : Value → Shared → Prop} (hk : KBw.bInts b = ks) (h0 : 0 ≤ n) (h1 : n < 256) (h : Q (.bool (ks.contains n)) s) : wpAny (model prog w) A (compareOp .In (.int n u) (.bytes b t)) Q E s := by
  subst hk
  exact in_gives (typeIs_bytes s b t) FB.slot_bytes_contains FB.entry_bytes_contains (FB.args_bytes_contains_2 _ _) (gives_bytes_contains b n t u h0 h1) h
theorem notin_bytes {Q : Value → Shared → Prop} (hk : KBw.bInts b = ks) (h0 : 0 ≤ n) (h1 : n < 256) (h : Q (.bool (!(ks.contains n))) s) : wpAny (model prog w) A (compareOp .NotIn (.int n u) (.bytes b t)) Q E s := by
  subst hk
  exact notIn_gives (typeIs_bytes s b t) FB.slot_bytes_contains FB.entry_bytes_contains (FB.args_bytes_contains_2 _ _) (gives_bytes_contains b n t u h0 h1) h
theorem eq_bytesK {Q : Value → Shared → Prop} (hk : KBw.bInts b = ks) (hl : KBw.bInts c = ls) (h : Q (.bool (ks == ls)) s) : wpAny (model prog w) A (compareOp .Eq (.bytes b t) (.bytes c u)) Q E s := by
  subst hk hl
  refine eq_bytes ?_
  rw [eq_ints]; exact h
theorem ne_bytesK {Q : Value → Shared → Prop} (hk : KBw.bInts b = ks) (hl : KBw.bInts c = ls) (h : Q (.bool (ks != ls)) s) : wpAny (model prog w) A (compareOp .NotEq (.bytes b t) (.bytes c u)) Q E s := by
  subst hk hl
  refine ne_bytes ?_
  rw [bne, eq_ints]; exact h
theorem mul_bytesK {Q : Value → Shared → Prop} (hk : KBw.bInts b = ks) (hne : ks ≠ []) (hlo : -1048576 ≤ n) (hn : n ≤ 1048576) (hs : ks.length ≤ 16)
    (h : ∀ (c : Array UInt8) t' k, KBw.bInts c = (List.replicate n.toNat ks).flatten → Q (.bytes c t') { s with toks := k }) :
    wpAny (model prog w) A (binaryOp .Mult (.bytes b t) (.int n u)) Q E s := by
  subst hk
  have e : b.toList.toArray = b := Array.toArray_toList
  have l1 : b.toList.length = (KBw.bInts b).length := by simp [KBw.bInts]
  have l2 : b.toList ≠ [] := fun h => hne (by show b.toList.map _ = []; rw [h]; rfl)
  have g := bytes_mul_any (prog := prog) (w := w) (A := A) (E := E) (s := s) (t := t) (u := u) (Q := Q) l2 hlo hn (by rw [l1]; exact hs) (fun t' k => h _ t' k (by
    rw [KBw.ints_list, List.map_flatten, List.map_replicate]; rfl))
  rw [e] at g
  exact g
end
theorem ints_app : ∀ {vs us : List Value} {ns ms : List Int}, IntsAre vs ns → IntsAre us ms → IntsAre (vs ++ us) (ns ++ ms)
  | _, _, _, _, .nil, h => h
  | _, _, _, _, .cons k t r, h => .cons k t (ints_app r h)
theorem ints_rev : ∀ {vs : List Value} {ns : List Int}, IntsAre vs ns → IntsAre vs.reverse ns.reverse
  | _, _, .nil => .nil
  | _, _, .cons k t r => by
    rw [List.reverse_cons, List.reverse_cons]
    exact ints_app (ints_rev r) (.cons k t .nil)
theorem abs_k {prog : Program} {w : World} {A : Around} {E : Value → Shared → Prop} {s : Shared} {a : Int} {t : Tok} {Q : Value → Shared → Prop} (h : ∀ u tk, Q (.int ((a.natAbs : Nat) : Int) u) { s with toks := tk }) :
    wpAny (model prog w) A (call (.builtin "abs") [.int a t]) Q E s := by
  refine call_abs_int fun u tk => ?_
  have e : (if a < 0 then -a else a) = ((a.natAbs : Nat) : Int) := by split <;> omega
  rw [e]
  exact h u tk
theorem ord_k {prog : Program} {w : World} {A : Around} {E : Value → Shared → Prop} {s : Shared} {x : PySem.Str} {t : Tok} {Q : Value → Shared → Prop} (k : Int) (h1 : x.length = 1) (h2 : ((x.cps.getD 0 0 : Nat) : Int) = k) (h : Q (.int k s.toks) { s with toks := s.toks + 1 }) :
    wpAny (model prog w) A (call (.builtin "ord") [.str x t]) Q E s := by
  subst h2
  exact ord_of_one h1 h
def CutEnd {σ : Type} (h₀ : Heap) (L : Addr) (s : Shared) (news : List (Addr × Obj)) (ps : σ → List (PySem.Str × Value)) (stored : List PySem.Str) (m₀ : PySem.Str → Option Value) (P : σ → Prop) (s₂ : Shared) : Prop :=
  ∃ (c : σ) (h' : Heap) (tk : Nat) (m' : PySem.Str → Option Value), s₂ = { s with heap := h', toks := tk } ∧ Fr h₀ L h' m' ∧ News h₀ L h' news ∧ (∀ p ∈ ps c, m' p.1 = some p.2) ∧ (∀ z, (∀ p ∈ ps c, z ≠ p.1) → stored.contains z = false → m' z = m₀ z) ∧ P c
def CutPost {σ : Type} (h₀ : Heap) (L : Addr) (s : Shared) (news : List (Addr × Obj)) (ps : σ → List (PySem.Str × Value)) (stored : List PySem.Str) (m₀ : PySem.Str → Option Value) (P : σ → Prop) (Q : Flow → Shared → Prop) (f : Flow) (s₂ : Shared) : Prop :=
  match f with
  | .ret v => Q (.ret v) s₂
  | .next => CutEnd h₀ L s news ps stored m₀ P s₂
  | f => Q f s₂
theorem cut_end {σ : Type} {h₀ : Heap} {L : Addr} {s : Shared} {news news' : List (Addr × Obj)} {ps : σ → List (PySem.Str × Value)} {stored : List PySem.Str} {m₀ m' : PySem.Str → Option Value} {P : σ → Prop} {h' : Heap} {tk : Nat} (c : σ)
    (F : Fr h₀ L h' m') (N : News h₀ L h' news') (hs : ∀ p ∈ news, p ∈ news') (hk : ∀ p ∈ ps c, m' p.1 = some p.2) (hr : ∀ z, (∀ p ∈ ps c, z ≠ p.1) → stored.contains z = false → m' z = m₀ z) (hp : P c) :
    CutEnd h₀ L s news ps stored m₀ P { s with heap := h', toks := tk } := ⟨c, h', tk, m', rfl, F, fun p hp => N p (hs p hp), hk, hr, hp⟩
theorem cut {σ : Type} {M : Model} {A : Around} {E : Value → Shared → Prop} {Q : Flow → Shared → Prop} {s : Shared} {env : Env} {h₀ : Heap} {L : Addr} {m₀ : PySem.Str → Option Value} {st : Stmt} {rest : List Stmt} {news : List (Addr × Obj)}
    (ps : σ → List (PySem.Str × Value)) (stored : List PySem.Str) (P : σ → Prop) (_F : Fr h₀ L s.heap m₀)
    (h1 : wpAny M A (exec st env) (CutPost h₀ L s news ps stored m₀ P Q) E s)
    (h2 : ∀ (c : σ) (u : PySem.Str → Option Value) h' tk, P c → Fr h₀ L h' (kstB (fun z => if stored.contains z then u z else m₀ z) (ps c)) → News h₀ L h' news → wpAny M A (execs rest env) Q E { s with heap := h', toks := tk }) :
    wpAny M A (execs (st :: rest) env) Q E s := by
  refine wpAny_execs_cons (wpAny_mono h1 (fun f s₂ p => ?_) fun _ _ x => x)
  cases f with
  | ret v => exact p
  | brk => exact p
  | cont => exact p
  | next =>
    obtain ⟨c, h', tk, m', rfl, F, N, hk, hr, hp⟩ := p
    exact h2 c m' h' tk hp (ksw_fr hk hr F) N
end Mine
end
section
open PySem PySem.W PyProof.Rows PySem.Calls PySem.Spec
namespace Mine
set_option maxRecDepth 100000
theorem eqAt_bytes {A : Around} {s : Shared} {b c : Array UInt8} {t u : Tok} {ks ls : List Int} (hb : KBw.bInts b = ks) (hc : KBw.bInts c = ls) : PySem.SeqAt.EqAt A s (.bytes b t) (.bytes c u) (ks == ls) := by
  subst hb hc
  intro prog w E Q h
  rw [← eq_ints] at h
  unfold eqBool
  refine wpAny_holding ?_
  refine wpAny_ite_split (fun hab => ?_) (fun hab => ?_)
  · have e : b = c := by have := eq_of_beq hab; injection this
    subst e
    exact wpAny_bind (wpAny_rule (wpAny_pure (by simpa using h)))
  · exact wpAny_bind (richCompare_gives (typeIs_bytes s b t) (typeIs_bytes s c u) FB.slot_bytes_eq FB.entry_bytes_eq (FB.args_bytes_eq_2 _ _) (gives_bytes_eq b c t u) (by simp [Made.takes]) (wpAny_truthy_bool h))
theorem isListOf {h₀ h : Heap} {L l : Addr} {news : List (Addr × Obj)} {items : Array Value} {ep : Nat} (N : News h₀ L h news) (hm : (l, listOf items ep) ∈ news) : h.IsList l items := News.isList N hm
theorem isTupOf {h₀ h : Heap} {L l : Addr} {news : List (Addr × Obj)} {items : Array Value} (N : News h₀ L h news) (hm : (l, { cls := .type "tuple", data := .seq items }) ∈ news) : h.IsTuple l items := News.isTup N hm
def valIs (k : Int) : Value → Bool
  | .int n _ => n == k
  | _ => false
theorem any_valIs {k : Int} : ∀ {vs : List Value} {fl : List Int}, IntsAre vs fl → vs.any (valIs k) = fl.contains k
  | _, _, .nil => rfl
  | _, _, .cons n t r => by
    rw [List.any_cons, List.contains_cons, any_valIs r]
    congr 1
    exact Bool.beq_comm
theorem valIs_eqAt {A : Around} {s : Shared} {k : Int} {u : Tok} : ∀ {vs : List Value} {fl : List Int}, IntsAre vs fl → ∀ y ∈ vs, PySem.SeqAt.EqAt A s y (.int k u) (valIs k y)
  | _, _, .nil, _, h => nomatch h
  | _, _, .cons n t r, y, h => by
    rcases List.mem_cons.mp h with rfl | h
    · exact PySem.SeqAt.EqAt.int_int n t k u
    · exact valIs_eqAt r y h
section
variable {prog : Program} {w : World} {A : Around} {E : Value → Shared → Prop} {s : Shared}
theorem in_listF {l : Addr} {vs : List Value} {fl : List Int} {k : Int} {u : Tok} {Q : Value → Shared → Prop} (hl : s.heap.IsList l vs.toArray) (hi : IntsAre vs fl) (h : Q (.bool (fl.contains k)) s) :
    wpAny (model prog w) A (compareOp .In (.int k u) (.ref l)) Q E s := by
  refine PySem.SeqAt.in_listAt (valIs k) hl (fun y hy => valIs_eqAt hi y (by simpa using hy)) ?_
  rw [List.any_toArray, any_valIs hi]; exact h
theorem notin_listF {l : Addr} {vs : List Value} {fl : List Int} {k : Int} {u : Tok} {Q : Value → Shared → Prop} (hl : s.heap.IsList l vs.toArray) (hi : IntsAre vs fl) (h : Q (.bool (!fl.contains k)) s) :
    wpAny (model prog w) A (compareOp .NotIn (.int k u) (.ref l)) Q E s := by
  refine PySem.SeqAt.notIn_listAt (valIs k) hl (fun y hy => valIs_eqAt hi y (by simpa using hy)) ?_
  rw [List.any_toArray, any_valIs hi]; exact h
def bytesIn (ks : List Int) : Value → Bool
  | .bytes b _ => KBw.bInts b == ks
  | _ => false
theorem in_tupB {l : Addr} {vs : List Value} {c : Array UInt8} {ks : List Int} {u : Tok} {Q : Value → Shared → Prop} (hl : s.heap.IsTuple l vs.toArray) (hc : KBw.bInts c = ks) (hv : ∀ y ∈ vs, ∃ b t, y = .bytes b t) (h : Q (.bool (vs.any (bytesIn ks))) s) :
    wpAny (model prog w) A (compareOp .In (.bytes c u) (.ref l)) Q E s := by
  refine PySem.SeqAt.in_tupleAt (bytesIn ks) hl (fun y hy => ?_) ?_
  · obtain ⟨b, t, rfl⟩ := hv y (by simpa using hy)
    exact eqAt_bytes rfl hc
  · rw [List.any_toArray]; exact h
end
end Mine
end
section
open PySem PySem.W PyProof.Rows PySem.Calls PySem.Spec
namespace Mine
abbrev BRet (h₀ : Heap) (L : Addr) (m : PySem.Str → Option Value) (news : List (Addr × Obj)) (s : Shared) (Q : Value → Shared → Prop) (ks : List Int) : Prop :=
  ∀ (c : Array UInt8) (t : Tok) (h' : Heap) (tk' : Nat), KBw.bInts c = ks → Fr h₀ L h' m → News h₀ L h' news → Q (.bytes c t) { s with heap := h', toks := tk' }
def digT (tbl : List Int) (b n : Nat) : List Int := if h : 2 ≤ b ∧ 0 < n then tbl.getD (n % b) 0 :: digT tbl b (n / b) else []
termination_by n
decreasing_by exact Nat.div_lt_self h.2 h.1
def digD (tbl : List Int) (b n : Nat) : List Int := if n = 0 then [tbl.getD 0 0] else digT tbl b n
def digs (n b : Int) (tbl : List Int) : List Int := (digD tbl b.toNat n.toNat).reverse
def digM (tbl : List Int) (b : Nat) (found : List Int) (rest : Nat) : List Int := found ++ (if found = [] ∧ rest = 0 then [tbl.getD 0 0] else digT tbl b rest)
theorem digM_start {tbl : List Int} {b n : Nat} : digM tbl b [] n = digD tbl b n := by
  unfold digM digD
  by_cases h : n = 0
  · simp [h]
  · simp [h]
theorem digM_step {tbl found : List Int} {b rest : Nat} (hb : 2 ≤ b) (h : 0 < rest ∨ found = []) : digM tbl b (found ++ [tbl.getD (rest % b) 0]) (rest / b) = digM tbl b found rest := by
  unfold digM
  by_cases h0 : rest = 0
  · subst h0
    have hf : found = [] := h.resolve_left (by omega)
    subst hf
    have e : digT tbl b 0 = [] := by rw [digT, dif_neg (by omega)]
    simp [e]
  · have e : digT tbl b rest = tbl.getD (rest % b) 0 :: digT tbl b (rest / b) := by rw [digT, dif_pos ⟨hb, by omega⟩]
    rw [if_neg (by simp), if_neg (fun x => h0 x.2), e]
    simp
theorem digM_stop {tbl found : List Int} {b : Nat} (h : found ≠ []) : digM tbl b found 0 = found := by
  unfold digM
  have e : digT tbl b 0 = [] := by rw [digT, dif_neg (by omega)]
  rw [if_neg (fun x => h x.1), e, List.append_nil]
theorem digT_len {tbl : List Int} {b : Nat} (hb : 2 ≤ b) : ∀ (k n : Nat), n < 2 ^ k → (digT tbl b n).length ≤ k := by
  intro k
  induction k with
  | zero => intro n h; rw [digT, dif_neg (by omega)]; simp
  | succ k ih =>
    intro n h
    rw [digT]
    split
    · rw [List.length_cons]
      have h2 : n / b < 2 ^ k := by
        have : n / b ≤ n / 2 := Nat.div_le_div_left hb (by omega)
        have : n < 2 * 2 ^ k := by rw [Nat.pow_succ] at h; omega
        omega
      have := ih _ h2
      omega
    · simp
theorem digD_len {tbl : List Int} {b k n : Nat} (hb : 2 ≤ b) (hk : 1 ≤ k) (h : n < 2 ^ k) : (digD tbl b n).length ≤ k := by
  unfold digD
  split
  · simpa using hk
  · exact digT_len hb k n h
theorem digT_in {tbl : List Int} {b : Nat} (ht : KBa.In tbl) (n : Nat) : KBa.In (digT tbl b n) := by
  induction n using Nat.strongRecOn with
  | ind n ih =>
    rw [digT]
    split
    · rename_i h
      intro k hk
      rcases List.mem_cons.mp hk with rfl | hk
      · exact KBw.getD_in ht
      · exact ih _ (Nat.div_lt_self h.2 h.1) k hk
    · intro k hk; cases hk
theorem digD_in {tbl : List Int} {b n : Nat} (ht : KBa.In tbl) : KBa.In (digD tbl b n) := by
  unfold digD
  split
  · intro k hk
    obtain rfl := List.mem_singleton.mp hk
    exact KBw.getD_in ht
  · exact digT_in ht n
theorem digM_bd {tbl found : List Int} {b rest n : Nat} (hb : 2 ≤ b) (hn : n < 2 ^ 65) (h : digM tbl b found rest = digD tbl b n) : found.length ≤ 65 := by
  have h1 := digD_len (tbl := tbl) hb (by omega) hn
  rw [← h] at h1
  unfold digM at h1
  rw [List.length_append] at h1
  omega
def dirObj (P : Params) (k1 k2 k3 k4 : Tok) (fv wv pv lv : Value) : Obj := dictOf [⟨PyData.keyHash P (PySem.Str.ofString "flags"), .str (PySem.Str.ofString "flags") k1, fv⟩, ⟨PyData.keyHash P (PySem.Str.ofString "width"), .str (PySem.Str.ofString "width") k2, wv⟩, ⟨PyData.keyHash P (PySem.Str.ofString "precision"), .str (PySem.Str.ofString "precision") k3, pv⟩, ⟨PyData.keyHash P (PySem.Str.ofString "letter"), .str (PySem.Str.ofString "letter") k4, lv⟩] 4
def DirAt (P : Params) (news : List (Addr × Obj)) (x : Addr) (fb : Array UInt8) (wd : Int) (pr : Option Int) (lt : Int) : Prop := ∃ dx k1 k2 k3 k4 t1 t2 t3 t4, (x, instObj 248 dx) ∈ news ∧ (dx, dirObj P k1 k2 k3 k4 (.bytes fb t1) (.int wd t2) (optV pr t3) (.int lt t4)) ∈ news
theorem DirAt.sub {P : Params} {news news' : List (Addr × Obj)} {x : Addr} {fb : Array UInt8} {wd lt : Int} {pr : Option Int} (H : DirAt P news x fb wd pr lt) (hs : ∀ p ∈ news, p ∈ news') : DirAt P news' x fb wd pr lt :=
  let ⟨dx, k1, k2, k3, k4, t1, t2, t3, t4, h1, h2⟩ := H; ⟨dx, k1, k2, k3, k4, t1, t2, t3, t4, hs _ h1, hs _ h2⟩
def padS (flags : List Int) (wd : Int) (body : List Int) : List Int := if flags.contains 45 = true then body ++ List.replicate (wd - body.length).toNat 32 else List.replicate (wd - body.length).toNat 32 ++ body
def fillS (flags : List Int) (wd : Int) (pr : Option Int) (sign ds : List Int) : List Int := padS flags wd (sign ++ (if flags.contains 48 = true ∧ flags.contains 45 = false ∧ pr = none then List.replicate (wd - sign.length - ds.length).toNat 48 ++ ds else ds))
def leastS (pr : Option Int) (n : Int) (ds : List Int) : List Int := match pr with | none => ds | some p => if p = 0 ∧ n = 0 then [] else List.replicate (p - ds.length).toNat 48 ++ ds
def signS (flags : List Int) (n : Int) : List Int := if n < 0 then [45] else if flags.contains 43 = true then [43] else if flags.contains 32 = true then [32] else []
def signedS (flags : List Int) (wd : Int) (pr : Option Int) (n : Int) : List Int := fillS flags wd pr (signS flags n) (leastS pr n (digs (Int.natAbs n : Nat) 10 smallT))
def octS (flags : List Int) (ds : List Int) : List Int := if flags.contains 35 = true ∧ ds.take 1 ≠ [48] then 48 :: ds else ds
def preS (flags : List Int) (n lt : Int) : List Int := if flags.contains 35 = true ∧ n ≠ 0 then [48, lt] else []
def unsignedS (flags : List Int) (wd : Int) (pr : Option Int) (lt n : Int) : List Int :=
  if lt = 117 then fillS flags wd pr [] (leastS pr n (digs n 10 smallT))
  else if lt = 111 then fillS flags wd pr [] (octS flags (leastS pr n (digs n 8 smallT)))
  else fillS flags wd pr (preS flags n lt) (leastS pr n (digs n 16 (if lt = 120 then smallT else greatT)))
theorem fmodN {a b : Int} (ha : 0 ≤ a) (hb : 0 < b) : (a.fmod b).toNat = a.toNat % b.toNat := by
  rw [Int.fmod_eq_emod_of_nonneg _ (by omega), Int.toNat_emod ha (by omega)]
theorem fdivN {a b : Int} (ha : 0 ≤ a) (hb : 0 < b) : (a.fdiv b).toNat = a.toNat / b.toNat := by
  rw [Int.fdiv_eq_ediv_of_nonneg _ (by omega)]
  obtain ⟨m, rfl⟩ := Int.eq_ofNat_of_zero_le ha
  obtain ⟨n, rfl⟩ := Int.eq_ofNat_of_zero_le (show 0 ≤ b by omega)
  rw [← Int.natCast_ediv]
  rfl
theorem fdiv_nn {a b : Int} (ha : 0 ≤ a) (hb : 0 < b) : 0 ≤ a.fdiv b := by
  rw [Int.fdiv_eq_ediv_of_nonneg _ (by omega)]
  exact Int.ediv_nonneg ha (by omega)
theorem digM_stepI {tbl found : List Int} {bs rest n : Int} (hb : 2 ≤ bs) (h0 : 0 ≤ rest) (h : 0 < rest ∨ found = []) (ht : KBa.In tbl)
    (hp : digM tbl bs.toNat found rest.toNat = digD tbl bs.toNat n.toNat) (hi : KBa.In found) :
    digM tbl bs.toNat (found ++ [tbl.getD (rest.fmod bs).toNat 0]) (rest.fdiv bs).toNat = digD tbl bs.toNat n.toNat ∧ 0 ≤ rest.fdiv bs ∧ KBa.In (found ++ [tbl.getD (rest.fmod bs).toNat 0]) := by
  refine ⟨?_, fdiv_nn h0 (by omega), ?_⟩
  · rw [fmodN h0 (by omega), fdivN h0 (by omega), digM_step (by omega) (h.imp (by omega) id)]
    exact hp
  · intro k hk
    rcases List.mem_append.mp hk with hk | hk
    · exact hi k hk
    · obtain rfl := List.mem_singleton.mp hk
      exact KBw.getD_in ht
theorem dig_meas {found : List Int} {x rest bs : Int} (hb : 2 ≤ bs) (h0 : 0 ≤ rest) (h : 0 < rest ∨ found = []) :
    (rest.fdiv bs).toNat + (if found ++ [x] = [] then 1 else 0) < rest.toNat + (if found = [] then 1 else 0) := by
  rw [fdivN h0 (by omega), if_neg (by simp)]
  by_cases hf : found = []
  · rw [if_pos hf]
    have := Nat.div_le_self rest.toNat bs.toNat
    omega
  · rw [if_neg hf]
    have h1 : 0 < rest := h.resolve_right hf
    have := Nat.div_lt_self (n := rest.toNat) (k := bs.toNat) (by omega) (by omega)
    omega
theorem bints_In {b : Array UInt8} {ks : List Int} (h : KBw.bInts b = ks) : KBa.In ks := by
  subst h
  exact fun k hk => KBw.ints_in hk
theorem digM_fin {tbl found : List Int} {b : Nat} {rest : Int} {D : List Int} (hp : digM tbl b found rest.toNat = D) (h : ¬ 0 < rest) (hne : found ≠ []) : found = D := by
  have e : rest.toNat = 0 := by omega
  rw [e, digM_stop hne] at hp
  exact hp
theorem digs_len {tbl : List Int} {n b : Int} (hb : 2 ≤ b) (h : n < 2 ^ 65) : (digs n b tbl).length ≤ 65 := by
  unfold digs
  rw [List.length_reverse]
  exact digD_len (by omega) (by omega) (by omega)
theorem leastS_len {pr : Option Int} {n : Int} {ds : List Int} (hp : ∀ p, pr = some p → 0 ≤ p ∧ p ≤ 100) (h : ds.length ≤ 65) : (leastS pr n ds).length ≤ 300 := by
  unfold leastS
  cases pr with
  | none => dsimp only; omega
  | some p =>
    have := hp p rfl
    dsimp only
    split
    · simp
    · rw [List.length_append, List.length_replicate]
      omega
theorem signS_len {flags : List Int} {n : Int} : (signS flags n).length ≤ 3 := by
  unfold signS
  repeat' split
  all_goals simp
theorem leastS_len2 {pr : Option Int} {n : Int} {ds : List Int} (hp : ∀ p, pr = some p → 0 ≤ p ∧ p ≤ 100) (h : ds.length ≤ 65) : (leastS pr n ds).length ≤ 299 := by
  unfold leastS
  cases pr with
  | none => dsimp only; omega
  | some p =>
    have := hp p rfl
    dsimp only
    split
    · simp
    · rw [List.length_append, List.length_replicate]
      omega
theorem take_clip1 {l : List Int} : l.take (clipAt l.length 1) = l.take 1 := by
  have e : clipAt l.length 1 = min 1 l.length := KBc.clip_lit l.length 1
  rw [e]
  cases l <;> simp
def isDg (c : Int) : Bool := decide (48 ≤ c ∧ c ≤ 57)
def numStep (ks : List Int) (p : Int × Int) : Int × Int := if p.2 < ks.length ∧ isDigit (ks.getD p.2.toNat 0) = true then (10 * p.1 + ks.getD p.2.toNat 0 - 48, p.2 + 1) else p
def numAt (ks : List Int) (i : Int) : Int × Int := numStep ks (numStep ks (0, i))
theorem numStep_bd {ks : List Int} {p : Int × Int} {b : Int} (h0 : 0 ≤ p.2) (h1 : p.2 ≤ ks.length) (h2 : 0 ≤ p.1) (h3 : p.1 ≤ b) : p.2 ≤ (numStep ks p).2 ∧ (numStep ks p).2 ≤ ks.length ∧ 0 ≤ (numStep ks p).1 ∧ (numStep ks p).1 ≤ 10 * b + 9 := by
  unfold numStep
  split
  · rename_i h
    obtain ⟨h4, h5⟩ := h
    simp only [isDigit, decide_eq_true_eq] at h5
    dsimp only
    omega
  · omega
theorem numAt_bd {ks : List Int} {i : Int} (h0 : 0 ≤ i) (h1 : i ≤ ks.length) : i ≤ (numAt ks i).2 ∧ (numAt ks i).2 ≤ ks.length ∧ 0 ≤ (numAt ks i).1 ∧ (numAt ks i).1 ≤ 99 := by
  unfold numAt
  have a := numStep_bd (ks := ks) (p := (0, i)) (b := 0) h0 h1 (by dsimp only; omega) (by dsimp only; omega)
  dsimp only at a
  have b := numStep_bd (ks := ks) (p := numStep ks (0, i)) (b := 9) (by omega) a.2.1 a.2.2.1 (by omega)
  omega
abbrev isFlag (c : Int) : Bool := [45, 43, 32, 35, 48].contains c
def flagE (ks : List Int) (i : Int) : Int := i + ((ks.drop i.toNat).takeWhile isFlag).length
theorem flagE_step {ks : List Int} {i : Int} (h0 : 0 ≤ i) (h1 : i < ks.length) (h : isFlag (ks.getD i.toNat 0) = true) : flagE ks (i + 1) = flagE ks i := by
  unfold flagE
  rw [dropI h0 h1, List.takeWhile_cons, h]
  simp only [if_true, List.length_cons]
  omega
theorem flagE_stop {ks : List Int} {i : Int} (h0 : 0 ≤ i) (h : i < ks.length → isFlag (ks.getD i.toNat 0) = false) : flagE ks i = i := by
  unfold flagE
  by_cases h1 : i < ks.length
  · rw [dropI h0 h1, List.takeWhile_cons, h h1]; simp
  · rw [List.drop_eq_nil_of_le (by omega)]; simp
theorem flagE_bd {ks : List Int} {i : Int} (h0 : 0 ≤ i) (h1 : i ≤ ks.length) : i ≤ flagE ks i ∧ flagE ks i ≤ ks.length := by
  unfold flagE
  have h := (List.takeWhile_sublist (l := ks.drop i.toNat) isFlag).length_le
  rw [List.length_drop] at h
  omega
def flagsOf (ks : List Int) (i : Int) : List Int := (ks.drop i.toNat).takeWhile isFlag
def wdOf (ks : List Int) (i : Int) : Int × Int := numAt ks (flagE ks i)
def prOf (ks : List Int) (i : Int) : Option Int × Int := if (wdOf ks i).2 < ks.length ∧ ks.getD (wdOf ks i).2.toNat 0 = 46 then (some (numAt ks ((wdOf ks i).2 + 1)).1, (numAt ks ((wdOf ks i).2 + 1)).2) else (none, (wdOf ks i).2)
theorem take_tw {p : Int → Bool} : ∀ {l : List Int}, l.take (l.takeWhile p).length = l.takeWhile p
  | [] => rfl
  | c :: r => by
    rw [List.takeWhile_cons]
    cases h : p c
    · simp
    · simp only [if_true, List.length_cons, List.take_succ_cons, take_tw]
theorem flag_fix {ks : List Int} {i i₀ : Int} (hE : flagE ks i = flagE ks i₀) (h0 : 0 ≤ i) (h : i < ks.length → isFlag (ks.getD i.toNat 0) = false) : i = flagE ks i₀ := (flagE_stop h0 h).symm.trans hE
theorem flags_cut {ks : List Int} {i : Int} (h0 : 0 ≤ i) (h1 : i ≤ ks.length) : List.take (clipAt ks.length (flagE ks i) - clipAt ks.length i) (List.drop (clipAt ks.length i) ks) = flagsOf ks i := by
  have hb := flagE_bd h0 h1
  rw [clipAt_in (by omega) hb.2, clipAt_in h0 h1]
  have e : (flagE ks i).toNat - i.toNat = ((ks.drop i.toNat).takeWhile isFlag).length := by unfold flagE; omega
  rw [e]
  exact take_tw
theorem flagsOf_len {ks : List Int} {i : Int} : ((flagsOf ks i).length : Int) = flagE ks i - i := by unfold flagsOf flagE; omega
theorem prOf_pos {ks : List Int} {i : Int} (h1 : (numAt ks (flagE ks i)).2 < ks.length) (h2 : ks.getD (numAt ks (flagE ks i)).2.toNat 0 = 46) : prOf ks i = (some (numAt ks ((numAt ks (flagE ks i)).2 + 1)).1, (numAt ks ((numAt ks (flagE ks i)).2 + 1)).2) := if_pos ⟨h1, h2⟩
theorem prOf_neg {ks : List Int} {i : Int} (h2 : ¬ ks.getD (numAt ks (flagE ks i)).2.toNat 0 = 46) : prOf ks i = (none, (numAt ks (flagE ks i)).2) := if_neg fun h => h2 h.2
theorem prOf_end {ks : List Int} {i : Int} (h2 : ¬ (numAt ks (flagE ks i)).2 < ks.length) : prOf ks i = (none, (numAt ks (flagE ks i)).2) := if_neg fun h => h2 h.1
def plObj (P : Params) (k1 k2 : Tok) (vv lv : Value) : Obj := dictOf [⟨PyData.keyHash P (PySem.Str.ofString "values"), .str (PySem.Str.ofString "values") k1, vv⟩, ⟨PyData.keyHash P (PySem.Str.ofString "limits"), .str (PySem.Str.ofString "limits") k2, lv⟩] 2
def PlAt (P : Params) (news : List (Addr × Obj)) (x : Addr) (n : Int) (lx : Addr) : Prop := ∃ dx k1 k2 vx tn ep, (x, instObj 311 dx) ∈ news ∧ (dx, plObj P k1 k2 (.ref vx) (.ref lx)) ∈ news ∧ (vx, listOf #[.int n tn] ep) ∈ news
theorem PlAt.sub {P : Params} {news news' : List (Addr × Obj)} {x lx : Addr} {n : Int} (H : PlAt P news x n lx) (hs : ∀ p ∈ news, p ∈ news') : PlAt P news' x n lx :=
  let ⟨dx, k1, k2, vx, tn, ep, h1, h2, h3⟩ := H; ⟨dx, k1, k2, vx, tn, ep, hs _ h1, hs _ h2, hs _ h3⟩
def signsS (ls : List Int) : Nat := if ([45] == ls.take 1 || ([43] == ls.take 1 || ([32] == ls.take 1 || false))) = true then 1 else if ([48, 120] == ls.take 2 || ([48, 88] == ls.take 2 || false)) = true then 2 else 0
def standsS (ks ls fl : List Int) (wd : Int) (le : Option Int) : Bool :=
  if wd - ls.length ≤ 0 then ks == ls
  else if (ks.length : Int) ≠ wd then false
  else if fl.contains 45 = true then ks == ls ++ List.replicate (wd - ls.length).toNat 32
  else if fl.contains 48 = false ∨ le.isSome = true then ks == List.replicate (wd - ls.length).toNat 32 ++ ls
  else ks == ls.take (signsS ls) ++ List.replicate (wd - ls.length).toNat 48 ++ ls.drop (signsS ls)
theorem take_clip2 {l : List Int} : l.take (clipAt l.length 2) = l.take 2 := by
  have e : clipAt l.length 2 = min 2 l.length := KBc.clip_lit l.length 2
  rw [e]
  rcases l with _ | ⟨a, _ | ⟨b, l⟩⟩ <;> simp
theorem drop_clip1 {l : List Int} : l.drop (clipAt l.length 1) = l.drop 1 := by
  have e : clipAt l.length 1 = min 1 l.length := KBc.clip_lit l.length 1
  rw [e]
  cases l <;> simp
theorem drop_clip2 {l : List Int} : l.drop (clipAt l.length 2) = l.drop 2 := by
  have e : clipAt l.length 2 = min 2 l.length := KBc.clip_lit l.length 2
  rw [e]
  rcases l with _ | ⟨a, _ | ⟨b, l⟩⟩ <;> simp
theorem take_clip0 {l : List Int} : l.take (clipAt l.length 0) = [] := by
  have e : clipAt l.length 0 = min 0 l.length := KBc.clip_lit l.length 0
  rw [e]; simp
theorem drop_clip0 {l : List Int} : l.drop (clipAt l.length 0) = l := by
  have e : clipAt l.length 0 = min 0 l.length := KBc.clip_lit l.length 0
  rw [e]; simp
theorem take_dropAll {l : List Int} {k : Nat} : (l.drop k).take (l.length - k) = l.drop k := List.take_of_length_le (by simp)
end Mine
end
section
open PySem PySem.W PyProof.Rows PySem.Calls PySem.Spec
namespace Mine
set_option maxRecDepth 100000
theorem drop_add {l : List Int} {i : Int} {k : Nat} (h : 0 ≤ i) : l.drop (i + (k : Int)).toNat = (l.drop i.toNat).drop k := by
  have e : (i + (k : Int)).toNat = i.toNat + k := by omega
  rw [e, List.drop_drop]
theorem drop_app {l a r : List Int} {i : Int} (h0 : 0 ≤ i) (h : l.drop i.toNat = a ++ r) : l.drop (i + (a.length : Int)).toNat = r := by
  rw [drop_add h0, h]; simp
theorem getD_drop {l : List Int} {i : Int} (h0 : 0 ≤ i) : l.getD i.toNat 0 = (l.drop i.toNat).getD 0 0 := by
  simp [List.getD_eq_getElem?_getD]
theorem len_drop {l r : List Int} {i : Int} (h0 : 0 ≤ i) (h1 : i ≤ l.length) (h : l.drop i.toNat = r) : (l.length : Int) = i + r.length := by
  have := congrArg List.length h
  rw [List.length_drop] at this
  omega
theorem takeW_app {p : Int → Bool} {a r : List Int} (ha : ∀ x ∈ a, p x = true) (hr : r = [] ∨ p (r.getD 0 0) = false) : (a ++ r).takeWhile p = a := by
  induction a with
  | nil => rcases r with _ | ⟨c, r⟩
           · rfl
           · rcases hr with hr | hr
             · cases hr
             · have hc : p c = false := hr
               simp [List.takeWhile_cons, hc]
  | cons c a ih =>
    have hc : p c = true := ha c (.head _)
    rw [List.cons_append, List.takeWhile_cons, hc, if_pos rfl, ih fun x hx => ha x (.tail _ hx)]
theorem skipB_at {ks bl r : List Int} {i : Int} (h : ks.drop i.toNat = bl ++ r) (hb : ∀ x ∈ bl, isBlank x = true) (hr : r = [] ∨ isBlank (r.getD 0 0) = false) : skipB ks i = i + bl.length := by
  unfold skipB
  rw [h, takeW_app hb hr]
def valB (b : Int) (ds : List Int) : Int := ds.foldl (fun a c => a * b + digitOf c) 0
theorem readD_at {ks ds r : List Int} {i b : Int} (h : ks.drop i.toNat = ds ++ r) (hb : ∀ x ∈ ds, isDig b x = true) (hr : r = [] ∨ isDig b (r.getD 0 0) = false) : readD ks i b = (valB b ds, i + ds.length) := by
  unfold readD readG
  rw [h, takeW_app hb hr]
  rfl
def isHex (x : Int) : Bool := decide (48 ≤ x ∧ x ≤ 57 ∨ 97 ≤ x ∧ x ≤ 102 ∨ 65 ≤ x ∧ x ≤ 70)
theorem isDig_hex {b x : Int} (hb : b ≤ 16) (h : isDig b x = true) : isHex x = true := by
  unfold isDig digitOf at h
  simp only [Bool.and_eq_true, decide_eq_true_eq] at h
  unfold isHex
  rw [decide_eq_true_eq]
  obtain ⟨h1, h2⟩ := h
  split at h1
  · omega
  · split at h1
    · rw [if_neg (by assumption), if_pos (by assumption)] at h2; omega
    · split at h1
      · rw [if_neg (by assumption), if_neg (by assumption), if_pos (by assumption)] at h2; omega
      · omega
theorem hex_not {x : Int} (h : isHex x = true) : isBlank x = false ∧ x ≠ 43 ∧ x ≠ 45 ∧ x ≠ 120 ∧ x ≠ 88 ∧ x ≠ 32 := by
  unfold isHex at h
  rw [decide_eq_true_eq] at h
  refine ⟨?_, by omega, by omega, by omega, by omega, by omega⟩
  unfold isBlank
  simp only [List.contains_cons, List.contains_nil, Bool.or_eq_false_iff, beq_eq_false_iff_ne, ne_eq, Bool.or_false]
  omega
theorem isDig_32 {b : Int} : isDig b 32 = false := by unfold isDig digitOf; simp
theorem isDig_0 {b : Int} : isDig b 0 = false := by unfold isDig digitOf; simp
abbrev bl (n : Nat) : List Int := List.replicate n 32
theorem bl_blank {n : Nat} : ∀ x ∈ bl n, isBlank x = true := fun x hx => by rw [List.eq_of_mem_replicate hx]; rfl
theorem bl_head {n : Nat} {b : Int} : bl n = [] ∨ isDig b ((bl n).getD 0 0) = false := by
  cases n with
  | zero => exact .inl rfl
  | succ n => exact .inr isDig_32
theorem getD_hex {ds r : List Int} (h : ∀ x ∈ ds, isHex x = true) (hne : ds ≠ []) : isHex ((ds ++ r).getD 0 0) = true := by
  cases ds with
  | nil => exact absurd rfl hne
  | cons c ds => exact h c (.head _)
theorem textIn_blank {n : Nat} {bs wd : Int} : textIn (bl n) bs wd = none := by
  have h0 : skipB (bl n) 0 = n := by
    have := skipB_at (ks := bl n) (bl := bl n) (r := []) (i := 0) (by simp) bl_blank (.inl rfl)
    rw [this]; simp
  have h1 : sgn (bl n) = false := by unfold sgn; rw [h0]; simp
  have h2 : iOne (bl n) = n := by unfold iOne; rw [h1, h0]; simp
  have h3 : markd (bl n) bs = false := by
    unfold markd; rw [h2]
    have : decide ((n : Int) + 2 < ((bl n).length : Int)) = false := by rw [decide_eq_false_iff_not, List.length_replicate]; omega
    rw [this]; simp
  have h4 : iTwo (bl n) bs = n := by unfold iTwo mkd; rw [h3, h2]; simp
  unfold textIn fEnd
  have h5 : readD (bl n) (iTwo (bl n) bs) (bThree (bl n) bs) = (valB (bThree (bl n) bs) [], iTwo (bl n) bs + (([] : List Int).length : Int)) :=
    readD_at (r := []) (by rw [h4]; simp) (fun x hx => nomatch hx) (.inl rfl)
  rw [h5, if_pos (.inl (by simp))]
theorem textIn_core {a c : Nat} {sg mk ds : List Int} {bs wd B : Int} (hsg : sg = [] ∨ sg = [43] ∨ sg = [45]) (hds : ∀ x ∈ ds, isDig B x = true) (hB0 : 0 < B) (hB : B ≤ 16)
    (hmk : (mk = [] ∧ B = if bs = 0 then 10 else bs) ∨ ((mk = [48, 120] ∨ mk = [48, 88]) ∧ bs = 16 ∧ B = 16 ∧ ds ≠ [])) (hne : sg ≠ [] ∨ ds ≠ []) :
    textIn (bl a ++ (sg ++ (mk ++ (ds ++ bl c)))) bs wd = if ds = [] then none else some (wrapI (if sg = [45] then -(valB B ds) else valB B ds) wd) := by
  generalize hks : bl a ++ (sg ++ (mk ++ (ds ++ bl c))) = ks
  have hhex : ∀ x ∈ ds, isHex x = true := fun x hx => isDig_hex hB (hds x hx)
  have hlen : (ks.length : Int) = a + sg.length + mk.length + ds.length + c := by rw [← hks]; simp; omega
  have d0 : ks.drop (0 : Int).toNat = bl a ++ (sg ++ (mk ++ (ds ++ bl c))) := by rw [hks]; rfl
  -- the rest behind the sign opens with a figure, a blank or nothing
  have hcore : sg ++ (mk ++ (ds ++ bl c)) = [] ∨ isBlank ((sg ++ (mk ++ (ds ++ bl c))).getD 0 0) = false := by
    right
    rcases hsg with rfl | rfl | rfl
    · have hd : ds ≠ [] := hne.resolve_left fun h => h rfl
      rcases hmk with ⟨rfl, _⟩ | ⟨rfl | rfl, _⟩
      · exact (hex_not (getD_hex hhex hd)).1
      · rfl
      · rfl
    · rfl
    · rfl
  have s0 : skipB ks 0 = a := by rw [skipB_at d0 bl_blank hcore]; simp
  have d1 : ks.drop (a : Int).toNat = sg ++ (mk ++ (ds ++ bl c)) := by
    have := drop_app (i := 0) (by omega) d0
    simpa using this
  have d2 : ks.drop ((a : Int) + sg.length).toNat = mk ++ (ds ++ bl c) := drop_app (by omega) d1
  have d3 : ks.drop ((a : Int) + sg.length + mk.length).toNat = ds ++ bl c := drop_app (by omega) d2
  have d4 : ks.drop ((a : Int) + sg.length + mk.length + ds.length).toNat = bl c := drop_app (by omega) d3
  have g1 : ks.getD (a : Int).toNat 0 = (sg ++ (mk ++ (ds ++ bl c))).getD 0 0 := by rw [getD_drop (by omega), d1]
  have g2 : ks.getD ((a : Int) + sg.length).toNat 0 = (mk ++ (ds ++ bl c)).getD 0 0 := by rw [getD_drop (by omega), d2]
  have s1 : sgn ks = decide (sg ≠ []) := by
    unfold sgn
    rw [s0, g1]
    rcases hsg with rfl | rfl | rfl
    · have hd : ds ≠ [] := hne.resolve_left fun h => h rfl
      have hn : [43, 45].contains ((([] : List Int) ++ (mk ++ (ds ++ bl c))).getD 0 0) = false := by
        rcases hmk with ⟨rfl, _⟩ | ⟨rfl | rfl, _⟩
        · obtain ⟨_, h1, h2, _⟩ := hex_not (getD_hex (r := bl c) hhex hd)
          show [43, 45].contains ((ds ++ bl c).getD 0 0) = false
          simp only [List.contains_cons, List.contains_nil, Bool.or_eq_false_iff, beq_eq_false_iff_ne, ne_eq, Bool.or_false]
          exact ⟨h1, h2⟩
        · rfl
        · rfl
      rw [hn]; simp
    · have hl : decide ((a : Int) < (ks.length : Int)) = true := by rw [decide_eq_true_eq, hlen]; simp; omega
      rw [hl]; rfl
    · have hl : decide ((a : Int) < (ks.length : Int)) = true := by rw [decide_eq_true_eq, hlen]; simp; omega
      rw [hl]; rfl
  have i1 : iOne ks = a + sg.length := by
    unfold iOne
    rw [s1, s0]
    rcases hsg with rfl | rfl | rfl <;> simp
  have b1 : below ks = decide (sg = [45]) := by
    unfold below
    rw [s1, s0, g1]
    rcases hsg with rfl | rfl | rfl
    · simp
    · rfl
    · rfl
  have m1 : mkd ks bs = decide (mk ≠ []) := by
    unfold mkd markd
    rw [i1]
    rcases hmk with ⟨rfl, _⟩ | ⟨hm, rfl, rfl, hd⟩
    · have hx : [120, 88].contains (ks.getD ((a : Int) + sg.length + 1).toNat 0) = false := by
        have e : ks.getD ((a : Int) + sg.length + 1).toNat 0 = (ds ++ bl c).getD 1 0 := by
          have := drop_add (l := ks) (i := (a : Int) + sg.length) (k := 1) (by omega)
          rw [show ((1 : Nat) : Int) = 1 from rfl] at this
          rw [getD_drop (by omega), this, d2]
          simp [List.getD_eq_getElem?_getD]
        rw [e]
        have hx : ∀ x ∈ ds ++ bl c, x ≠ 120 ∧ x ≠ 88 := fun x hx => by
          rcases List.mem_append.mp hx with hx | hx
          · have := hex_not (hhex x hx); exact ⟨this.2.2.2.1, this.2.2.2.2.1⟩
          · rw [List.eq_of_mem_replicate hx]; decide
        generalize ds ++ bl c = l at hx
        rcases l with _ | ⟨p, _ | ⟨q, l⟩⟩
        · rfl
        · rfl
        · obtain ⟨h1, h2⟩ := hx q (.tail _ (.head _))
          show [120, 88].contains q = false
          simp only [List.contains_cons, List.contains_nil, Bool.or_eq_false_iff, beq_eq_false_iff_ne, ne_eq, Bool.or_false]
          exact ⟨h1, h2⟩
      rw [hx]; simp
    · have hml : mk.length = 2 := by rcases hm with rfl | rfl <;> rfl
      have hdl : 0 < ds.length := List.length_pos_iff.mpr hd
      have hl : decide ((a : Int) + sg.length + 2 < (ks.length : Int)) = true := by rw [decide_eq_true_eq, hlen, hml]; omega
      have e0 : ks.getD ((a : Int) + sg.length).toNat 0 = 48 := by rw [g2]; rcases hm with rfl | rfl <;> rfl
      have e1 : [120, 88].contains (ks.getD ((a : Int) + sg.length + 1).toNat 0) = true := by
        have e : ks.getD ((a : Int) + sg.length + 1).toNat 0 = (mk ++ (ds ++ bl c)).getD 1 0 := by
          have := drop_add (l := ks) (i := (a : Int) + sg.length) (k := 1) (by omega)
          rw [show ((1 : Nat) : Int) = 1 from rfl] at this
          rw [getD_drop (by omega), this, d2]
          simp [List.getD_eq_getElem?_getD]
        rw [e]
        rcases hm with rfl | rfl <;> rfl
      have e2 : isDig 16 (ks.getD ((a : Int) + sg.length + 2).toNat 0) = true := by
        rw [hml] at d3
        rw [getD_drop (by omega), show ((a : Int) + sg.length + 2) = (a : Int) + sg.length + ((2 : Nat) : Int) from rfl, d3]
        cases ds with
        | nil => exact absurd rfl hd
        | cons x ds => exact hds x (.head _)
      have hne2 : mk ≠ [] := by rcases hm with rfl | rfl <;> simp
      rw [hl, e0, e1, e2]
      simp [hne2]
  have i2 : iTwo ks bs = a + sg.length + mk.length := by
    unfold iTwo
    rw [m1, i1]
    rcases hmk with ⟨rfl, _⟩ | ⟨rfl | rfl, _⟩ <;> simp
  have b3 : bThree ks bs = B := by
    unfold bThree bTwo
    rw [m1]
    rcases hmk with ⟨rfl, e⟩ | ⟨hm, rfl, rfl, hd⟩
    · simp [e]
    · have hne2 : mk ≠ [] := by rcases hm with rfl | rfl <;> simp
      simp [hne2]
  have f1 : fEnd ks bs = (valB B ds, (a : Int) + sg.length + mk.length + ds.length) := by
    unfold fEnd
    rw [i2, b3]
    exact readD_at d3 hds bl_head
  have f2 : skipB ks ((a : Int) + sg.length + mk.length + ds.length) = ks.length := by
    rw [skipB_at (bl := bl c) (r := []) (by rw [d4, List.append_nil]) bl_blank (.inl rfl), hlen]
    simp
  unfold textIn
  rw [f1, i2, b1]
  dsimp only
  rw [f2]
  by_cases hd : ds = []
  · subst hd; simp
  · have hdl : 0 < ds.length := List.length_pos_iff.mpr hd
    rw [if_neg (by omega), if_neg hd]
    simp
end Mine
end
section
open PySem PySem.W PyProof.Rows PySem.Calls PySem.Spec
namespace Mine
set_option maxRecDepth 100000
def GoodT (tbl : List Int) (b : Nat) : Prop := 2 ≤ b ∧ b ≤ 16 ∧ ∀ k, k < b → digitOf (tbl.getD k 0) = k
theorem small_good {b : Nat} (h1 : 2 ≤ b) (h2 : b ≤ 16) : GoodT smallT b := ⟨h1, h2, fun k hk => by
  have : k < 16 := by omega
  rcases k with _ | _ | _ | _ | _ | _ | _ | _ | _ | _ | _ | _ | _ | _ | _ | _ | k <;> first | rfl | omega⟩
theorem great_good {b : Nat} (h1 : 2 ≤ b) (h2 : b ≤ 16) : GoodT greatT b := ⟨h1, h2, fun k hk => by
  have : k < 16 := by omega
  rcases k with _ | _ | _ | _ | _ | _ | _ | _ | _ | _ | _ | _ | _ | _ | _ | _ | k <;> first | rfl | omega⟩
theorem digT_dig {tbl : List Int} {b : Nat} (g : GoodT tbl b) (n : Nat) : ∀ x ∈ digT tbl b n, isDig b x = true := by
  induction n using Nat.strongRecOn with
  | ind n ih =>
    rw [digT]
    split
    · rename_i h
      intro x hx
      rcases List.mem_cons.mp hx with rfl | hx
      · have hk : n % b < b := Nat.mod_lt _ (by omega)
        unfold isDig
        rw [g.2.2 _ hk]
        simp only [Bool.and_eq_true, decide_eq_true_eq]
        omega
      · exact ih _ (Nat.div_lt_self h.2 h.1) x hx
    · intro x hx; cases hx
theorem digs_dig {tbl : List Int} {b : Nat} (g : GoodT tbl b) {n : Int} : ∀ x ∈ digs n b tbl, isDig b x = true := by
  intro x hx
  unfold digs at hx
  rw [List.mem_reverse, Int.toNat_natCast] at hx
  unfold digD at hx
  split at hx
  · obtain rfl := List.mem_singleton.mp hx
    unfold isDig
    rw [g.2.2 0 (by have := g.1; omega)]
    have := g.1
    simp only [Bool.and_eq_true, decide_eq_true_eq]
    omega
  · exact digT_dig g _ x hx
theorem valB_app {b : Int} {xs : List Int} {x : Int} : valB b (xs ++ [x]) = valB b xs * b + digitOf x := by
  unfold valB; rw [List.foldl_append]; rfl
theorem digT_val {tbl : List Int} {b : Nat} (g : GoodT tbl b) (n : Nat) : valB b (digT tbl b n).reverse = n := by
  induction n using Nat.strongRecOn with
  | ind n ih =>
    rw [digT]
    split
    · rename_i h
      have hk : n % b < b := Nat.mod_lt _ (by omega)
      rw [List.reverse_cons, valB_app, ih _ (Nat.div_lt_self h.2 h.1), g.2.2 _ hk]
      have := Nat.div_add_mod n b
      have e : ((b * (n / b) + n % b : Nat) : Int) = (n : Int) := by rw [this]
      rw [← e]
      push_cast
      rw [Int.mul_comm]
    · rename_i h
      have : n = 0 := by have := g.1; omega
      subst this
      rfl
theorem digs_val {tbl : List Int} {b : Nat} (g : GoodT tbl b) {n : Int} (hn : 0 ≤ n) : valB b (digs n b tbl) = n := by
  unfold digs
  rw [Int.toNat_natCast]
  unfold digD
  split
  · rename_i h
    have : n = 0 := by omega
    subst this
    show (0 : Int) * b + digitOf (tbl.getD 0 0) = 0
    rw [g.2.2 0 (by have := g.1; omega)]
    simp
  · rw [digT_val g]; omega
theorem digs_ne {tbl : List Int} {n b : Int} (hb : 2 ≤ b) : digs n b tbl ≠ [] := by
  unfold digs digD
  split
  · simp
  · rw [digT, dif_pos ⟨by omega, by omega⟩]; simp
theorem valB_zero {b : Int} {k : Nat} {ds : List Int} : valB b (List.replicate k 48 ++ ds) = valB b ds := by
  unfold valB
  rw [List.foldl_append]
  congr 1
  induction k with
  | zero => rfl
  | succ k ih =>
    rw [List.replicate_succ, List.foldl_cons]
    have : (0 : Int) * b + digitOf 48 = 0 := by rw [Int.zero_mul]; rfl
    rw [this]; exact ih
theorem dig48 {b : Int} (hb : 2 ≤ b) : isDig b 48 = true := by
  unfold isDig
  rw [show digitOf 48 = 0 from rfl]
  simp only [Bool.and_eq_true, decide_eq_true_eq]
  omega
theorem leastS_dig {b : Int} (hb : 2 ≤ b) {pr : Option Int} {n : Int} {ds : List Int} (h : ∀ x ∈ ds, isDig b x = true) : ∀ x ∈ leastS pr n ds, isDig b x = true := by
  unfold leastS
  cases pr with
  | none => exact h
  | some p =>
    dsimp only
    split
    · intro x hx; cases hx
    · intro x hx
      rcases List.mem_append.mp hx with hx | hx
      · rw [List.eq_of_mem_replicate hx]; exact dig48 hb
      · exact h x hx
theorem leastS_val {b : Int} {pr : Option Int} {n : Int} {ds : List Int} (h : ¬ (pr = some 0 ∧ n = 0)) : valB b (leastS pr n ds) = valB b ds := by
  unfold leastS
  cases pr with
  | none => rfl
  | some p =>
    dsimp only
    rw [if_neg (fun x => h ⟨by rw [x.1], x.2⟩), valB_zero]
theorem leastS_ne {pr : Option Int} {n : Int} {ds : List Int} (hd : ds ≠ []) (h : ¬ (pr = some 0 ∧ n = 0)) : leastS pr n ds ≠ [] := by
  unfold leastS
  cases pr with
  | none => exact hd
  | some p =>
    dsimp only
    rw [if_neg (fun x => h ⟨by rw [x.1], x.2⟩)]
    simp [hd]
theorem leastS_nil {n : Int} {ds : List Int} (hn : n = 0) : leastS (some 0) n ds = [] := by
  unfold leastS
  simp [hn]
theorem padS_shape {flags body : List Int} {wd : Int} : ∃ a c, padS flags wd body = bl a ++ (body ++ bl c) := by
  unfold padS
  split
  · exact ⟨0, (wd - body.length).toNat, rfl⟩
  · exact ⟨(wd - body.length).toNat, 0, by simp only [bl, List.replicate_zero, List.append_nil]⟩
theorem fillS_shape {flags sign ds : List Int} {wd : Int} {pr : Option Int} : ∃ a z c, fillS flags wd pr sign ds = bl a ++ (sign ++ (List.replicate z 48 ++ (ds ++ bl c))) ∧ (pr ≠ none → z = 0) := by
  unfold fillS
  split
  · rename_i h
    obtain ⟨a, c, e⟩ := padS_shape (flags := flags) (wd := wd) (body := sign ++ (List.replicate (wd - sign.length - ds.length).toNat 48 ++ ds))
    exact ⟨a, (wd - sign.length - ds.length).toNat, c, by rw [e]; simp only [List.append_assoc], fun hp => absurd h.2.2 hp⟩
  · obtain ⟨a, c, e⟩ := padS_shape (flags := flags) (wd := wd) (body := sign ++ ds)
    exact ⟨a, 0, c, by rw [e]; simp only [List.append_assoc, List.replicate_zero, List.nil_append], fun _ => rfl⟩
/-- reading back what fillS writes: the sign, the mark, the figures -/
theorem fill_read {flags sg mk ds : List Int} {wd bs B : Int} {pr : Option Int} {bits : Int} (hB2 : 2 ≤ B) (hB : B ≤ 16)
    (hsg : sg = [] ∨ sg = [43] ∨ sg = [45] ∨ sg = [32]) (hds : ∀ x ∈ ds, isDig B x = true)
    (hmk : (mk = [] ∧ B = if bs = 0 then 10 else bs) ∨ ((mk = [48, 120] ∨ mk = [48, 88]) ∧ bs = 16 ∧ B = 16 ∧ ds ≠ []))
    (hpr : ds = [] → pr ≠ none) :
    textIn (fillS flags wd pr (sg ++ mk) ds) bs bits = if ds = [] then none else some (wrapI (if sg = [45] then -(valB B ds) else valB B ds) bits) := by
  obtain ⟨a, z, c, e, hz⟩ := fillS_shape (flags := flags) (sign := sg ++ mk) (ds := ds) (wd := wd) (pr := pr)
  rw [e]
  have hz48 : ∀ x ∈ List.replicate z 48 ++ ds, isDig B x = true := fun x hx => by
    rcases List.mem_append.mp hx with hx | hx
    · rw [List.eq_of_mem_replicate hx]; exact dig48 hB2
    · exact hds x hx
  have hnil : List.replicate z 48 ++ ds = [] ↔ ds = [] := by
    constructor
    · intro h; exact (List.append_eq_nil_iff.mp h).2
    · intro h; rw [h, hz (hpr h)]; rfl
  have hmk' : (mk = [] ∧ B = if bs = 0 then 10 else bs) ∨ ((mk = [48, 120] ∨ mk = [48, 88]) ∧ bs = 16 ∧ B = 16 ∧ List.replicate z 48 ++ ds ≠ []) :=
    hmk.imp id fun h => ⟨h.1, h.2.1, h.2.2.1, fun x => h.2.2.2 (hnil.mp x)⟩
  have fin : ∀ (a' : Nat) (sg' : List Int), (sg' = [] ∨ sg' = [43] ∨ sg' = [45]) → (sg = [45] ↔ sg' = [45]) →
      textIn (bl a' ++ (sg' ++ (mk ++ ((List.replicate z 48 ++ ds) ++ bl c)))) bs bits = if ds = [] then none else some (wrapI (if sg = [45] then -(valB B ds) else valB B ds) bits) := by
    intro a' sg' h1 h2
    by_cases hne : sg' ≠ [] ∨ List.replicate z 48 ++ ds ≠ []
    · rw [textIn_core h1 hz48 (by omega) hB hmk' hne, valB_zero]
      simp only [hnil, h2]
    · have h3 : sg' = [] := Classical.byContradiction fun h => hne (.inl h)
      have h4 : List.replicate z 48 ++ ds = [] := Classical.byContradiction fun h => hne (.inr h)
      have h5 : mk = [] := by
        rcases hmk' with h | h
        · exact h.1
        · exact absurd h4 h.2.2.2
      rw [h3, h4, h5, if_pos (hnil.mp h4)]
      have : bl a' ++ (([] : List Int) ++ (([] : List Int) ++ (([] : List Int) ++ bl c))) = bl (a' + c) := by simp [bl]
      rw [this]; exact textIn_blank
  rcases hsg with rfl | rfl | rfl | rfl
  · have := fin a [] (.inl rfl) Iff.rfl
    simpa only [List.append_assoc, List.nil_append] using this
  · have := fin a [43] (.inr (.inl rfl)) Iff.rfl
    simpa only [List.append_assoc] using this
  · have := fin a [45] (.inr (.inr rfl)) Iff.rfl
    simpa only [List.append_assoc] using this
  · have := fin (a + 1) [] (.inl rfl) (by simp)
    have e2 : bl (a + 1) = bl a ++ [32] := by simp [bl, List.replicate_succ']
    rw [e2] at this
    simpa only [List.append_assoc, List.nil_append] using this
end Mine
end
section
open PySem PySem.W PyProof.Rows PySem.Calls PySem.Spec
namespace Mine
set_option maxRecDepth 100000
theorem wrap_two {bits n : Int} (hb : 1 ≤ bits) (h0 : -2 ^ (bits - 1).toNat ≤ n) (h1 : n < 2 ^ (bits - 1).toNat) : wrapI n bits = n ∧ wrapI (n % 2 ^ bits.toNat) bits = n ∧ (n % 2 ^ bits.toNat = 0 ↔ n = 0) ∧ 0 ≤ n % 2 ^ bits.toNat := by
  have e : bits.toNat = (bits - 1).toNat + 1 := by omega
  have hp : (0 : Int) < 2 ^ (bits - 1).toNat := Int.pow_pos (by omega)
  have e2 : (2 : Int) ^ bits.toNat = 2 * 2 ^ (bits - 1).toNat := by rw [e, Int.pow_succ, Int.mul_comm]
  unfold wrapI
  rw [e2, Int.emod_emod]
  generalize (2 : Int) ^ (bits - 1).toNat = H at h0 h1 hp
  have hm : n % (2 * H) = if 0 ≤ n then n else n + 2 * H := by
    split
    · exact Int.emod_eq_of_lt (by omega) (by omega)
    · rw [← Int.add_emod_right]
      exact Int.emod_eq_of_lt (by omega) (by omega)
  rw [hm]
  split
  · rw [if_neg (by omega)]; omega
  · rw [if_pos (by omega)]; omega
def fmtS (fl : List Int) (wd : Int) (pr : Option Int) (lt n bits : Int) : List Int := if lt = 100 ∨ lt = 105 then signedS fl wd pr n else unsignedS fl wd pr lt (n % 2 ^ bits.toNat)
def nothS (fl : List Int) (pr : Option Int) (lt n : Int) : Bool := decide (pr = some 0 ∧ n = 0 ∧ ¬ (lt = 111 ∧ fl.contains 35 = true))
theorem signS_in {fl : List Int} {n : Int} : (signS fl n = [] ∨ signS fl n = [43] ∨ signS fl n = [45] ∨ signS fl n = [32]) ∧ (signS fl n = [45] ↔ n < 0) := by
  unfold signS
  split
  · simp_all
  · split
    · simp_all
    · split <;> simp_all
theorem octS_dig {b : Int} (hb : 2 ≤ b) {fl ds : List Int} (h : ∀ x ∈ ds, isDig b x = true) : ∀ x ∈ octS fl ds, isDig b x = true := by
  unfold octS
  split
  · intro x hx
    rcases List.mem_cons.mp hx with rfl | hx
    · exact dig48 hb
    · exact h x hx
  · exact h
theorem octS_val {b : Int} {fl ds : List Int} : valB b (octS fl ds) = valB b ds := by
  unfold octS
  split
  · exact valB_zero (k := 1)
  · rfl
theorem octS_nil {fl ds : List Int} : octS fl ds = [] ↔ (ds = [] ∧ ¬ fl.contains 35 = true) := by
  unfold octS
  split
  · rename_i h; simp_all
  · rename_i h
    constructor
    · intro e; subst e; exact ⟨rfl, fun x => h ⟨x, by simp⟩⟩
    · exact fun e => e.1
theorem least_iff {pr : Option Int} {n : Int} {ds : List Int} (hd : ds ≠ []) : leastS pr n ds = [] ↔ (pr = some 0 ∧ n = 0) := by
  constructor
  · intro e
    exact Classical.byContradiction fun h => leastS_ne hd h e
  · rintro ⟨rfl, hn⟩
    exact leastS_nil hn
theorem least_none {pr : Option Int} {n : Int} {ds : List Int} (hd : ds ≠ []) (h : leastS pr n ds = []) : pr ≠ none := by
  rw [((least_iff hd).mp h).1]; simp
theorem least_full {b : Nat} {tbl : List Int} (g : GoodT tbl b) {pr : Option Int} {m : Int} (hm : 0 ≤ m) (h : ¬ leastS pr m (digs m b tbl) = []) : valB b (leastS pr m (digs m b tbl)) = m := by
  rw [leastS_val (fun x => h ((least_iff (digs_ne (by have := g.1; omega))).mpr x)), digs_val g hm]
theorem fmt_read {fl : List Int} {wd n bits kl bs : Int} {pr : Option Int} (hb : 1 ≤ bits) (h0 : -2 ^ (bits - 1).toNat ≤ n) (h1 : n < 2 ^ (bits - 1).toNat) (hk : 0 ≤ kl) (hk6 : kl < 6)
    (hbs : bs = ([10, 10, 10, 8, 16, 16] : List Int).getD kl.toNat 0 ∨ (bs = 0 ∧ ([10, 10, 10, 8, 16, 16] : List Int).getD kl.toNat 0 = 10)) :
    textIn (fmtS fl wd pr (([100, 105, 117, 111, 120, 88] : List Int).getD kl.toNat 0) n bits) bs bits = if nothS fl pr (([100, 105, 117, 111, 120, 88] : List Int).getD kl.toNat 0) n = true then none else some n := by
  obtain ⟨w1, w2, w3, w4⟩ := wrap_two hb h0 h1
  have sgnd : ∀ lt : Int, (lt = 100 ∨ lt = 105) → (bs = 10 ∨ bs = 0) → textIn (fmtS fl wd pr lt n bits) bs bits = if nothS fl pr lt n = true then none else some n := by
    intro lt hlt hbs
    have hdn : digs (Int.natAbs n : Nat) 10 smallT ≠ [] := digs_ne (by omega)
    have g := small_good (b := 10) (by omega) (by omega)
    unfold fmtS
    rw [if_pos hlt]
    unfold signedS
    have := fill_read (flags := fl) (sg := signS fl n) (mk := []) (ds := leastS pr n (digs (Int.natAbs n : Nat) 10 smallT)) (wd := wd) (bs := bs) (B := 10) (pr := pr) (bits := bits) (by omega) (by omega) signS_in.1
      (leastS_dig (by omega) (digs_dig (b := 10) g)) (.inl ⟨rfl, by rcases hbs with rfl | rfl <;> rfl⟩) (least_none hdn)
    rw [List.append_nil] at this
    rw [this]
    have hn : nothS fl pr lt n = decide (pr = some 0 ∧ n = 0) := by
      unfold nothS
      have : ¬ lt = 111 := by omega
      simp [this]
    rw [hn]
    by_cases hz : pr = some 0 ∧ n = 0
    · rw [if_pos ((least_iff hdn).mpr hz), if_pos (by simpa using hz)]
    · have lf : valB 10 (leastS pr n (digs (Int.natAbs n : Nat) 10 smallT)) = (Int.natAbs n : Nat) := by
        rw [leastS_val hz]; exact digs_val (b := 10) g (by omega)
      rw [if_neg (fun x => hz ((least_iff hdn).mp x)), lf, if_neg (show ¬ (decide (pr = some 0 ∧ n = 0) = true) by simpa using hz)]
      congr 1
      have hs := (signS_in (fl := fl) (n := n)).2
      by_cases hneg : n < 0
      · rw [if_pos (hs.mpr hneg)]
        have : -((n.natAbs : Nat) : Int) = n := by omega
        rw [this]; exact w1
      · rw [if_neg (fun x => hneg (hs.mp x))]
        have : ((n.natAbs : Nat) : Int) = n := by omega
        rw [this]; exact w1
  have nn : ∀ lt : Int, ¬ lt = 111 → nothS fl pr lt n = decide (pr = some 0 ∧ n % 2 ^ bits.toNat = 0) := fun lt h => by
    unfold nothS
    simp [h, w3]
  have hc : kl = 0 ∨ kl = 1 ∨ kl = 2 ∨ kl = 3 ∨ kl = 4 ∨ kl = 5 := by omega
  rcases hc with rfl | rfl | rfl | rfl | rfl | rfl
  · exact sgnd 100 (.inl rfl) (hbs.imp id fun h => h.1)
  · exact sgnd 105 (.inr rfl) (hbs.imp id fun h => h.1)
  · show textIn (fmtS fl wd pr 117 n bits) bs bits = if nothS fl pr 117 n = true then none else some n
    have hbs' : bs = 10 ∨ bs = 0 := hbs.imp id fun h => h.1
    have g := small_good (b := 10) (by omega) (by omega)
    have hdn : digs (n % 2 ^ bits.toNat) 10 smallT ≠ [] := digs_ne (by omega)
    unfold fmtS unsignedS
    rw [if_neg (by omega), if_pos rfl]
    have := fill_read (flags := fl) (sg := []) (mk := []) (ds := leastS pr (n % 2 ^ bits.toNat) (digs (n % 2 ^ bits.toNat) 10 smallT)) (wd := wd) (bs := bs) (B := 10) (pr := pr) (bits := bits) (by omega) (by omega) (.inl rfl)
      (leastS_dig (by omega) (digs_dig (b := 10) g)) (.inl ⟨rfl, by rcases hbs' with rfl | rfl <;> rfl⟩) (least_none hdn)
    rw [List.append_nil] at this
    rw [this, nn 117 (by omega)]
    by_cases hz : leastS pr (n % 2 ^ bits.toNat) (digs (n % 2 ^ bits.toNat) 10 smallT) = []
    · rw [if_pos hz, if_pos (by simpa using (least_iff hdn).mp hz)]
    · have hz' : ¬ (pr = some 0 ∧ n % 2 ^ bits.toNat = 0) := fun x => hz ((least_iff hdn).mpr x)
      have lf := least_full (b := 10) g w4 hz
      rw [if_neg hz, if_neg (show ¬ ([] : List Int) = [45] by simp), if_neg (show ¬ (decide (pr = some 0 ∧ n % 2 ^ bits.toNat = 0) = true) by simpa using hz')]
      congr 1
      exact (congrArg (fun v => wrapI v bits) lf).trans w2
  · show textIn (fmtS fl wd pr 111 n bits) bs bits = if nothS fl pr 111 n = true then none else some n
    have hbs' : bs = 8 := by
      rcases hbs with h | h
      · exact h
      · have h8 : (8 : Int) = 10 := h.2
        omega
    subst hbs'
    have g := small_good (b := 8) (by omega) (by omega)
    have hdn : digs (n % 2 ^ bits.toNat) 8 smallT ≠ [] := digs_ne (by omega)
    unfold fmtS unsignedS
    rw [if_neg (by omega), if_neg (by omega), if_pos rfl]
    have := fill_read (flags := fl) (sg := []) (mk := []) (ds := octS fl (leastS pr (n % 2 ^ bits.toNat) (digs (n % 2 ^ bits.toNat) 8 smallT))) (wd := wd) (bs := 8) (B := 8) (pr := pr) (bits := bits) (by omega) (by omega) (.inl rfl)
      (octS_dig (by omega) (leastS_dig (by omega) (digs_dig (b := 8) g))) (.inl ⟨rfl, rfl⟩) (fun h => least_none hdn (octS_nil.mp h).1)
    rw [List.append_nil] at this
    rw [this]
    have hnn : nothS fl pr 111 n = decide (octS fl (leastS pr (n % 2 ^ bits.toNat) (digs (n % 2 ^ bits.toNat) 8 smallT)) = []) := by
      unfold nothS
      rw [decide_eq_decide, octS_nil, least_iff hdn, w3]
      simp [and_assoc]
    rw [hnn]
    by_cases hz : octS fl (leastS pr (n % 2 ^ bits.toNat) (digs (n % 2 ^ bits.toNat) 8 smallT)) = []
    · rw [if_pos hz, if_pos (by simpa using hz)]
    · rw [if_neg hz, if_neg (show ¬ ([] : List Int) = [45] by simp), if_neg (show ¬ (decide (octS fl (leastS pr (n % 2 ^ bits.toNat) (digs (n % 2 ^ bits.toNat) 8 smallT)) = []) = true) by simpa using hz), octS_val]
      congr 1
      by_cases hl : leastS pr (n % 2 ^ bits.toNat) (digs (n % 2 ^ bits.toNat) 8 smallT) = []
      · have hn0 := w3.mp ((least_iff hdn).mp hl).2
        rw [hl]
        subst hn0
        show wrapI 0 bits = 0
        exact w1
      · exact (congrArg (fun v => wrapI v bits) (least_full (b := 8) g w4 hl)).trans w2
  all_goals
    have hbs' : bs = 16 := by
      rcases hbs with h | h
      · exact h
      · have h8 : (16 : Int) = 10 := h.2
        omega
    subst hbs'
  · show textIn (fmtS fl wd pr 120 n bits) 16 bits = if nothS fl pr 120 n = true then none else some n
    have g := small_good (b := 16) (by omega) (by omega)
    have hdn : digs (n % 2 ^ bits.toNat) 16 smallT ≠ [] := digs_ne (by omega)
    unfold fmtS unsignedS
    rw [if_neg (by omega), if_neg (by omega), if_neg (by omega), if_pos rfl]
    have hmk : (preS fl (n % 2 ^ bits.toNat) 120 = [] ∧ (16 : Int) = if (16 : Int) = 0 then 10 else 16) ∨ ((preS fl (n % 2 ^ bits.toNat) 120 = [48, 120] ∨ preS fl (n % 2 ^ bits.toNat) 120 = [48, 88]) ∧ (16 : Int) = 16 ∧ (16 : Int) = 16 ∧ leastS pr (n % 2 ^ bits.toNat) (digs (n % 2 ^ bits.toNat) 16 smallT) ≠ []) := by
      unfold preS
      split
      · rename_i h; exact .inr ⟨.inl rfl, rfl, rfl, fun x => h.2 ((least_iff hdn).mp x).2⟩
      · exact .inl ⟨rfl, rfl⟩
    have := fill_read (flags := fl) (sg := []) (mk := preS fl (n % 2 ^ bits.toNat) 120) (ds := leastS pr (n % 2 ^ bits.toNat) (digs (n % 2 ^ bits.toNat) 16 smallT)) (wd := wd) (bs := 16) (B := 16) (pr := pr) (bits := bits) (by omega) (by omega) (.inl rfl)
      (leastS_dig (by omega) (digs_dig (b := 16) g)) hmk (least_none hdn)
    rw [List.nil_append] at this
    rw [this, nn 120 (by omega)]
    by_cases hz : leastS pr (n % 2 ^ bits.toNat) (digs (n % 2 ^ bits.toNat) 16 smallT) = []
    · rw [if_pos hz, if_pos (by simpa using (least_iff hdn).mp hz)]
    · have hz' : ¬ (pr = some 0 ∧ n % 2 ^ bits.toNat = 0) := fun x => hz ((least_iff hdn).mpr x)
      have lf := least_full (b := 16) g w4 hz
      rw [if_neg hz, if_neg (show ¬ ([] : List Int) = [45] by simp), if_neg (show ¬ (decide (pr = some 0 ∧ n % 2 ^ bits.toNat = 0) = true) by simpa using hz')]
      congr 1
      exact (congrArg (fun v => wrapI v bits) lf).trans w2
  · show textIn (fmtS fl wd pr 88 n bits) 16 bits = if nothS fl pr 88 n = true then none else some n
    have g := great_good (b := 16) (by omega) (by omega)
    have hdn : digs (n % 2 ^ bits.toNat) 16 greatT ≠ [] := digs_ne (by omega)
    unfold fmtS unsignedS
    rw [if_neg (by omega), if_neg (by omega), if_neg (by omega), if_neg (by omega)]
    have hmk : (preS fl (n % 2 ^ bits.toNat) 88 = [] ∧ (16 : Int) = if (16 : Int) = 0 then 10 else 16) ∨ ((preS fl (n % 2 ^ bits.toNat) 88 = [48, 120] ∨ preS fl (n % 2 ^ bits.toNat) 88 = [48, 88]) ∧ (16 : Int) = 16 ∧ (16 : Int) = 16 ∧ leastS pr (n % 2 ^ bits.toNat) (digs (n % 2 ^ bits.toNat) 16 greatT) ≠ []) := by
      unfold preS
      split
      · rename_i h; exact .inr ⟨.inr rfl, rfl, rfl, fun x => h.2 ((least_iff hdn).mp x).2⟩
      · exact .inl ⟨rfl, rfl⟩
    have := fill_read (flags := fl) (sg := []) (mk := preS fl (n % 2 ^ bits.toNat) 88) (ds := leastS pr (n % 2 ^ bits.toNat) (digs (n % 2 ^ bits.toNat) 16 greatT)) (wd := wd) (bs := 16) (B := 16) (pr := pr) (bits := bits) (by omega) (by omega) (.inl rfl)
      (leastS_dig (by omega) (digs_dig (b := 16) g)) hmk (least_none hdn)
    rw [List.nil_append] at this
    rw [this, nn 88 (by omega)]
    by_cases hz : leastS pr (n % 2 ^ bits.toNat) (digs (n % 2 ^ bits.toNat) 16 greatT) = []
    · rw [if_pos hz, if_pos (by simpa using (least_iff hdn).mp hz)]
    · have hz' : ¬ (pr = some 0 ∧ n % 2 ^ bits.toNat = 0) := fun x => hz ((least_iff hdn).mpr x)
      have lf := least_full (b := 16) g w4 hz
      rw [if_neg hz, if_neg (show ¬ ([] : List Int) = [45] by simp), if_neg (show ¬ (decide (pr = some 0 ∧ n % 2 ^ bits.toNat = 0) = true) by simpa using hz')]
      congr 1
      exact (congrArg (fun v => wrapI v bits) lf).trans w2
end Mine
end
section
open PySem PySem.W PyProof.Rows PySem.Calls PySem.Spec
namespace Mine
set_option maxRecDepth 100000
theorem padS_len {fl body : List Int} {wd : Int} (h : wd ≤ 100) : (padS fl wd body).length ≤ body.length + 100 := by
  unfold padS
  split <;> (rw [List.length_append, List.length_replicate]; omega)
theorem fillS_len {fl ss ds : List Int} {wd : Int} {pr : Option Int} (h : wd ≤ 100) (h1 : ss.length ≤ 3) (h2 : ds.length ≤ 300) : (fillS fl wd pr ss ds).length ≤ 503 := by
  unfold fillS
  refine Nat.le_trans (padS_len h) ?_
  split
  · rw [List.length_append, List.length_append, List.length_replicate]; omega
  · rw [List.length_append]; omega
theorem octS_len {fl ds : List Int} {k : Nat} (h : ds.length ≤ k) : (octS fl ds).length ≤ k + 1 := by
  unfold octS
  split
  · rw [List.length_cons]; omega
  · omega
theorem preS_len {fl : List Int} {n lt : Int} : (preS fl n lt).length ≤ 3 := by
  unfold preS
  split <;> simp
theorem fmtS_len {fl : List Int} {wd lt n bits : Int} {pr : Option Int} (hp : ∀ p, pr = some p → 0 ≤ p ∧ p ≤ 100) (h : wd ≤ 100) (hn : n.natAbs < 2 ^ 65) (hb2 : bits ≤ 64) : (fmtS fl wd pr lt n bits).length ≤ 503 := by
  have hq : n % 2 ^ bits.toNat < 2 ^ 65 := by
    have h0 : (0 : Int) < 2 ^ bits.toNat := Int.pow_pos (by omega)
    refine Int.lt_of_lt_of_le (Int.emod_lt_of_pos _ h0) ?_
    exact_mod_cast Nat.pow_le_pow_right (n := 2) (by omega) (by omega : bits.toNat ≤ 65)
  unfold fmtS
  split
  · unfold signedS
    exact fillS_len h signS_len (leastS_len hp (digs_len (by omega) (by omega)))
  · unfold unsignedS
    split
    · exact fillS_len h (by simp) (leastS_len hp (digs_len (by omega) hq))
    · split
      · exact fillS_len h (by simp) (octS_len (leastS_len2 hp (digs_len (by omega) hq)))
      · exact fillS_len h preS_len (leastS_len hp (digs_len (by omega) hq))
theorem wdOf_bd {ks : List Int} {i : Int} (h0 : 0 ≤ i) (h1 : i ≤ ks.length) : 0 ≤ (wdOf ks i).1 ∧ (wdOf ks i).1 ≤ 100 := by
  have hf := flagE_bd h0 h1
  have := numAt_bd (ks := ks) (i := flagE ks i) (by omega) (by omega)
  unfold wdOf
  omega
theorem prOf_bd {ks : List Int} {i : Int} (h0 : 0 ≤ i) (h1 : i ≤ ks.length) : ∀ p, (prOf ks i).1 = some p → 0 ≤ p ∧ p ≤ 100 := by
  intro p
  have hf := flagE_bd h0 h1
  have ha := numAt_bd (ks := ks) (i := flagE ks i) (by omega) (by omega)
  unfold prOf wdOf
  split
  · rename_i h
    have hb := numAt_bd (ks := ks) (i := (numAt ks (flagE ks i)).2 + 1) (by omega) (by omega)
    intro e
    obtain rfl := Option.some.inj e
    omega
  · intro e; cases e
end Mine
end
section
open PySem PySem.W PyProof.Rows PySem.Calls PySem.Spec
namespace Mine
set_option maxRecDepth 100000
def ltOf (k : Int) : Int := [100, 105, 117, 111, 120, 88].getD k.toNat 0
def bsOf (k : Int) : Int := [10, 10, 10, 8, 16, 16].getD k.toNat 0
def dotOf (k : Int) : List Int := [[], [], [46], [46, 51], [46, 49, 50]].getD k.toNat []
def leOf (k : Int) : Option Int := [none, none, some 0, some 3, some 12].getD k.toNat none
def widS (wd : Int) : List Int := if 0 < wd then digs wd 10 smallT else []
theorem ltOf_in {k : Int} (h0 : 0 ≤ k) (h6 : k < 6) : ltOf k = 100 ∨ ltOf k = 105 ∨ ltOf k = 117 ∨ ltOf k = 111 ∨ ltOf k = 120 ∨ ltOf k = 88 := by
  have hc : k = 0 ∨ k = 1 ∨ k = 2 ∨ k = 3 ∨ k = 4 ∨ k = 5 := by omega
  rcases hc with rfl | rfl | rfl | rfl | rfl | rfl <;> simp [ltOf]
theorem getD_app {p r : List Int} {j : Int} (h : 0 ≤ j) : (p ++ r).getD ((p.length : Int) + j).toNat 0 = r.getD j.toNat 0 := by
  have e : ((p.length : Int) + j).toNat = p.length + j.toNat := by omega
  rw [e, List.getD_eq_getElem?_getD, List.getD_eq_getElem?_getD, List.getElem?_append_right (by omega)]
  congr 2; omega
theorem numStep_app {p r : List Int} {v j : Int} (h : 0 ≤ j) : numStep (p ++ r) (v, (p.length : Int) + j) = ((numStep r (v, j)).1, (p.length : Int) + (numStep r (v, j)).2) := by
  unfold numStep
  dsimp only
  rw [getD_app h]
  have e : ((p.length : Int) + j < ((p ++ r).length : Int)) ↔ (j < (r.length : Int)) := by rw [List.length_append]; omega
  simp only [e]
  split
  · simp; omega
  · rfl
theorem numStep_nn {r : List Int} {q : Int × Int} (h : 0 ≤ q.2) : 0 ≤ (numStep r q).2 := by
  unfold numStep
  split
  · dsimp only; omega
  · exact h
theorem numAt_app {p r : List Int} {j : Int} (h : 0 ≤ j) : numAt (p ++ r) ((p.length : Int) + j) = ((numAt r j).1, (p.length : Int) + (numAt r j).2) := by
  unfold numAt
  rw [numStep_app h]
  exact numStep_app (numStep_nn h)
theorem digs_small {n : Int} (h0 : 0 < n) (h1 : n < 10) : digs n 10 smallT = [48 + n] := by
  have hc : n = 1 ∨ n = 2 ∨ n = 3 ∨ n = 4 ∨ n = 5 ∨ n = 6 ∨ n = 7 ∨ n = 8 ∨ n = 9 := by omega
  rcases hc with rfl | rfl | rfl | rfl | rfl | rfl | rfl | rfl | rfl <;>
  · unfold digs digD
    rw [if_neg (by decide), digT, dif_pos (by decide), digT, dif_neg (by decide)]
    rfl
theorem digs_two {n : Int} (h0 : 10 ≤ n) (h1 : n ≤ 20) : digs n 10 smallT = [48 + n / 10, 48 + n % 10] := by
  have hc : n = 10 ∨ n = 11 ∨ n = 12 ∨ n = 13 ∨ n = 14 ∨ n = 15 ∨ n = 16 ∨ n = 17 ∨ n = 18 ∨ n = 19 ∨ n = 20 := by omega
  rcases hc with rfl | rfl | rfl | rfl | rfl | rfl | rfl | rfl | rfl | rfl | rfl <;>
  · unfold digs digD
    rw [if_neg (by decide), digT, dif_pos (by decide), digT, dif_pos (by decide), digT, dif_neg (by decide)]
    rfl
theorem isDigit_lit {c : Int} (h0 : 48 ≤ c) (h1 : c ≤ 57) : isDigit c = true := by unfold isDigit; rw [decide_eq_true_eq]; exact ⟨h0, h1⟩
theorem numStep_yes {ks : List Int} {p : Int × Int} (h1 : p.2 < ks.length) (h2 : isDigit (ks.getD p.2.toNat 0) = true) : numStep ks p = (10 * p.1 + ks.getD p.2.toNat 0 - 48, p.2 + 1) := if_pos ⟨h1, h2⟩
theorem numStep_no {ks : List Int} {p : Int × Int} (h2 : isDigit (ks.getD p.2.toNat 0) = false) : numStep ks p = p := if_neg fun x => by rw [h2] at x; cases x.2
theorem numAt_0 {c : Int} {r : List Int} (hc : isDigit c = false) : numAt (c :: r) 0 = (0, 0) := by
  unfold numAt
  rw [numStep_no (ks := c :: r) (p := (0, 0)) hc, numStep_no (ks := c :: r) (p := (0, 0)) hc]
theorem numAt_1 {x c : Int} {r : List Int} (hx : isDigit x = true) (hc : isDigit c = false) : numAt (x :: c :: r) 0 = (x - 48, 1) := by
  unfold numAt
  rw [numStep_yes (ks := x :: c :: r) (p := (0, 0)) (by simp only [List.length_cons]; omega) hx]
  show numStep (x :: c :: r) (10 * 0 + x - 48, 1) = _
  rw [numStep_no (ks := x :: c :: r) (p := (10 * 0 + x - 48, 1)) hc]
  simp
theorem numAt_2 {x y : Int} {r : List Int} (hx : isDigit x = true) (hy : isDigit y = true) : numAt (x :: y :: r) 0 = (10 * (x - 48) + y - 48, 2) := by
  unfold numAt
  rw [numStep_yes (ks := x :: y :: r) (p := (0, 0)) (by simp only [List.length_cons]; omega) hx]
  show numStep (x :: y :: r) (10 * 0 + x - 48, 1) = _
  rw [numStep_yes (ks := x :: y :: r) (p := (10 * 0 + x - 48, 1)) (by simp only [List.length_cons]; omega) hy]
  show (10 * (10 * 0 + x - 48) + y - 48, (1 : Int) + 1) = _
  simp
theorem wid_num {wd c : Int} {r : List Int} (h0 : 0 ≤ wd) (h1 : wd ≤ 20) (hc : isDigit c = false) : numAt (widS wd ++ (c :: r)) 0 = (wd, ((widS wd).length : Int)) := by
  unfold widS
  split
  · by_cases h : wd < 10
    · rw [digs_small (by assumption) h]
      show numAt ((48 + wd) :: c :: r) 0 = _
      rw [numAt_1 (isDigit_lit (by omega) (by omega)) hc]
      simp
      omega
    · rw [digs_two (by omega) h1]
      show numAt ((48 + wd / 10) :: (48 + wd % 10) :: c :: r) 0 = _
      rw [numAt_2 (isDigit_lit (by omega) (by omega)) (isDigit_lit (by omega) (by omega))]
      simp
      omega
  · show numAt (c :: r) 0 = _
    rw [numAt_0 hc]
    simp
    omega
theorem wid_head {wd : Int} {x : Int} {r : List Int} (h0 : 0 ≤ wd) (h1 : wd ≤ 20) (hx : isFlag x = false ∧ x ≠ 37) : isFlag ((widS wd ++ (x :: r)).getD 0 0) = false ∧ (widS wd ++ (x :: r)).getD 0 0 ≠ 37 := by
  unfold widS
  split
  · by_cases h : wd < 10
    · rw [digs_small (by assumption) h]
      show isFlag (48 + wd) = false ∧ 48 + wd ≠ 37
      have hc : wd = 1 ∨ wd = 2 ∨ wd = 3 ∨ wd = 4 ∨ wd = 5 ∨ wd = 6 ∨ wd = 7 ∨ wd = 8 ∨ wd = 9 := by omega
      rcases hc with rfl | rfl | rfl | rfl | rfl | rfl | rfl | rfl | rfl <;> decide
    · rw [digs_two (by omega) h1]
      show isFlag (48 + wd / 10) = false ∧ 48 + wd / 10 ≠ 37
      have hc : wd / 10 = 1 ∨ wd / 10 = 2 := by omega
      rcases hc with h | h <;> rw [h] <;> decide
  · exact hx
/-- the directive is read as it was drawn -/
structure Parsed (ks fl : List Int) (wd : Int) (le : Option Int) (lt : Int) : Prop where
  c0 : ks.getD 0 0 = 37
  c1 : ks.getD 1 0 ≠ 37
  ln : 1 < ks.length
  fe : flagE ks 1 ≤ 6
  en : (prOf ks 1).2 + 1 = ks.length
  nd : isDigit (ks.getD (prOf ks 1).2.toNat 0) = false
  fl : flagsOf ks 1 = fl
  wd : (wdOf ks 1).1 = wd
  pr : (prOf ks 1).1 = le
  lt : ks.getD (prOf ks 1).2.toNat 0 = lt
theorem parse_all {fl : List Int} {wd kp kl : Int} (hf5 : fl.length ≤ 5) (hfg : ∀ c ∈ fl, isFlag c = true) (h0 : 0 ≤ wd) (h1 : wd ≤ 20) (hp0 : 0 ≤ kp) (hp5 : kp < 5) (hk0 : 0 ≤ kl) (hk6 : kl < 6) :
    Parsed (37 :: (fl ++ (widS wd ++ (dotOf kp ++ [ltOf kl])))) fl wd (leOf kp) (ltOf kl) := by
  have hlt := ltOf_in hk0 hk6
  have hltd : isDigit (ltOf kl) = false := by rcases hlt with h | h | h | h | h | h <;> rw [h] <;> decide
  have hltf : isFlag (ltOf kl) = false ∧ ltOf kl ≠ 37 := by rcases hlt with h | h | h | h | h | h <;> rw [h] <;> decide
  have hlt46 : ltOf kl ≠ 46 := by omega
  -- the tail behind the width: a point or the letter stands first
  obtain ⟨c, r, ht, hcd, hcf⟩ : ∃ c r, dotOf kp ++ [ltOf kl] = c :: r ∧ isDigit c = false ∧ (isFlag c = false ∧ c ≠ 37) := by
    have hc : kp = 0 ∨ kp = 1 ∨ kp = 2 ∨ kp = 3 ∨ kp = 4 := by omega
    rcases hc with rfl | rfl | rfl | rfl | rfl
    · exact ⟨_, [], rfl, hltd, hltf⟩
    · exact ⟨_, [], rfl, hltd, hltf⟩
    · exact ⟨46, _, rfl, by decide, by decide⟩
    · exact ⟨46, _, rfl, by decide, by decide⟩
    · exact ⟨46, _, rfl, by decide, by decide⟩
  generalize hR : widS wd ++ (dotOf kp ++ [ltOf kl]) = R
  have hRc : R = widS wd ++ (c :: r) := by rw [← hR, ht]
  have hhd : isFlag (R.getD 0 0) = false ∧ R.getD 0 0 ≠ 37 := by rw [hRc]; exact wid_head h0 h1 hcf
  have hRne : R ≠ [] := by rw [hRc]; simp
  have hRl : 0 < R.length := List.length_pos_iff.mpr hRne
  have hks : 37 :: (fl ++ R) = (37 :: fl) ++ R := rfl
  have hpl : ((37 :: fl).length : Int) = 1 + fl.length := by simp; omega
  have hdrop : (37 :: (fl ++ R)).drop (1 : Int).toNat = fl ++ R := rfl
  have htw : (fl ++ R).takeWhile isFlag = fl := takeW_app hfg (.inr hhd.1)
  have eF : flagsOf (37 :: (fl ++ R)) 1 = fl := by unfold flagsOf; rw [hdrop, htw]
  have eE : flagE (37 :: (fl ++ R)) 1 = ((37 :: fl).length : Int) + 0 := by unfold flagE; rw [hdrop, htw, hpl]; omega
  have eN : numAt R 0 = (wd, ((widS wd).length : Int)) := by rw [hRc]; exact wid_num h0 h1 hcd
  have eW : wdOf (37 :: (fl ++ R)) 1 = (wd, ((37 :: fl).length : Int) + (widS wd).length) := by
    unfold wdOf
    rw [eE, hks, numAt_app (by omega), eN]
  have hgd : (37 :: (fl ++ R)).getD (((37 :: fl).length : Int) + ((widS wd).length : Int)).toNat 0 = (dotOf kp ++ [ltOf kl]).getD 0 0 := by
    rw [hks, getD_app (by omega), ← hR]
    have := getD_app (p := widS wd) (r := dotOf kp ++ [ltOf kl]) (j := 0) (by omega)
    rw [Int.add_zero] at this
    exact this
  have hlen : ((37 :: (fl ++ R)).length : Int) = ((37 :: fl).length : Int) + (widS wd).length + (dotOf kp).length + 1 := by
    rw [hks, List.length_append, ← hR]; simp; omega
  have eP : (prOf (37 :: (fl ++ R)) 1).1 = leOf kp ∧ (prOf (37 :: (fl ++ R)) 1).2 = ((37 :: fl).length : Int) + (widS wd).length + (dotOf kp).length := by
    unfold prOf
    rw [eW]
    dsimp only
    rw [hgd, hlen]
    -- a number behind the point
    have dotn : ∀ (ds : List Int) (v : Int), dotOf kp = 46 :: ds → numAt (ds ++ [ltOf kl]) 0 = (v, (ds.length : Int)) → leOf kp = some v →
        ((if ((37 :: fl).length : Int) + (widS wd).length < ((37 :: fl).length : Int) + (widS wd).length + (dotOf kp).length + 1 ∧ (dotOf kp ++ [ltOf kl]).getD 0 0 = 46 then (some (numAt (37 :: (fl ++ R)) (((37 :: fl).length : Int) + (widS wd).length + 1)).1, (numAt (37 :: (fl ++ R)) (((37 :: fl).length : Int) + (widS wd).length + 1)).2) else (none, ((37 :: fl).length : Int) + (widS wd).length)) : Option Int × Int).1 = leOf kp ∧
        ((if ((37 :: fl).length : Int) + (widS wd).length < ((37 :: fl).length : Int) + (widS wd).length + (dotOf kp).length + 1 ∧ (dotOf kp ++ [ltOf kl]).getD 0 0 = 46 then (some (numAt (37 :: (fl ++ R)) (((37 :: fl).length : Int) + (widS wd).length + 1)).1, (numAt (37 :: (fl ++ R)) (((37 :: fl).length : Int) + (widS wd).length + 1)).2) else (none, ((37 :: fl).length : Int) + (widS wd).length)) : Option Int × Int).2 = ((37 :: fl).length : Int) + (widS wd).length + (dotOf kp).length := by
      intro ds v hd hn hl
      have hcat : 37 :: (fl ++ R) = ((37 :: fl) ++ (widS wd ++ [46])) ++ (ds ++ [ltOf kl]) := by rw [← hR, hd]; simp
      have hpos : ((37 :: fl).length : Int) + (widS wd).length + 1 = (((37 :: fl) ++ (widS wd ++ [46])).length : Int) + 0 := by simp; omega
      rw [if_pos ⟨by omega, by rw [hd]; rfl⟩, hpos]
      conv in numAt (37 :: (fl ++ R)) _ => rw [hcat]
      rw [hcat, numAt_app (by omega), hn, hl]
      refine ⟨rfl, ?_⟩
      rw [hd]
      simp
      omega
    have hc : kp = 0 ∨ kp = 1 ∨ kp = 2 ∨ kp = 3 ∨ kp = 4 := by omega
    rcases hc with rfl | rfl | rfl | rfl | rfl
    · rw [if_neg (fun x => hlt46 x.2)]; exact ⟨rfl, by simp [dotOf]⟩
    · rw [if_neg (fun x => hlt46 x.2)]; exact ⟨rfl, by simp [dotOf]⟩
    · exact dotn [] 0 rfl (numAt_0 hltd) rfl
    · exact dotn [51] 3 rfl (numAt_1 (x := 51) (by decide) hltd) rfl
    · exact dotn [49, 50] 12 rfl (numAt_2 (x := 49) (y := 50) (by decide) (by decide)) rfl
  have eL : (37 :: (fl ++ R)).getD (prOf (37 :: (fl ++ R)) 1).2.toNat 0 = ltOf kl := by
    rw [eP.2]
    have hcat : 37 :: (fl ++ R) = ((37 :: fl) ++ (widS wd ++ dotOf kp)) ++ [ltOf kl] := by rw [← hR]; simp
    have hpos : ((37 :: fl).length : Int) + (widS wd).length + (dotOf kp).length = (((37 :: fl) ++ (widS wd ++ dotOf kp)).length : Int) + 0 := by simp; omega
    rw [hpos, hcat, getD_app (by omega)]
    rfl
  refine ⟨rfl, ?_, ?_, ?_, ?_, ?_, eF, by rw [eW], eP.1, eL⟩
  · show (fl ++ R).getD 0 0 ≠ 37
    cases fl with
    | nil => exact hhd.2
    | cons x fl =>
      have hx := hfg x (.head _)
      show x ≠ 37
      rintro rfl
      cases hx
  · rw [List.length_cons, List.length_append]; omega
  · rw [eE, hpl]; omega
  · rw [eP.2, hlen]
  · rw [eL]; exact hltd
end Mine
end
section
open PySem PySem.W PyProof.Rows PySem.Calls PySem.Spec
namespace Mine
set_option maxRecDepth 100000
theorem fill_bare {fl S D : List Int} {pr : Option Int} (h : fl.contains 48 = false) : fillS fl 0 pr S D = S ++ D := by
  unfold fillS
  rw [if_neg (fun x => by rw [h] at x; cases x.1)]
  unfold padS
  have e : (0 - ((S ++ D).length : Int)).toNat = 0 := by omega
  rw [e]
  split <;> simp
theorem stands_fill {fl kept S D : List Int} {wd : Int} {pr : Option Int} (hk : kept.contains 48 = false) (hS : pr = none → signsS (S ++ D) = S.length) :
    standsS (fillS fl wd pr S D) (fillS kept 0 pr S D) fl wd pr = true := by
  rw [fill_bare hk]
  have hl : ((S ++ D).length : Int) = S.length + D.length := by rw [List.length_append]; omega
  unfold standsS
  by_cases hz : fl.contains 48 = true ∧ fl.contains 45 = false ∧ pr = none
  · obtain ⟨h1, h2, rfl⟩ := hz
    have ef : fillS fl wd none S D = List.replicate (wd - ((S ++ (List.replicate (wd - S.length - D.length).toNat 48 ++ D)).length : Int)).toNat 32 ++ (S ++ (List.replicate (wd - S.length - D.length).toNat 48 ++ D)) := by
      unfold fillS
      rw [if_pos ⟨h1, h2, rfl⟩]
      unfold padS
      rw [if_neg (by rw [h2]; simp)]
    by_cases hm : wd - ((S ++ D).length : Int) ≤ 0
    · rw [if_pos hm, ef]
      have e1 : (wd - S.length - D.length).toNat = 0 := by omega
      rw [e1]
      have e2 : (wd - ((S ++ (List.replicate 0 48 ++ D)).length : Int)).toNat = 0 := by simp; omega
      rw [e2]
      simp
    · have e0 : (wd - S.length - D.length) = wd - ((S ++ D).length : Int) := by omega
      rw [e0] at ef
      have e2 : (wd - ((S ++ (List.replicate (wd - ((S ++ D).length : Int)).toNat 48 ++ D)).length : Int)).toNat = 0 := by
        rw [List.length_append, List.length_append, List.length_replicate]; omega
      rw [e2, List.replicate_zero, List.nil_append] at ef
      rw [if_neg hm, ef, if_neg (by
        intro hx; apply hx
        rw [List.length_append, List.length_append, List.length_replicate]; omega), if_neg (by rw [h2]; simp), if_neg (by rw [h1]; simp), hS rfl]
      simp
  · have ef : fillS fl wd pr S D = padS fl wd (S ++ D) := by unfold fillS; rw [if_neg hz]
    rw [ef]
    by_cases hm : wd - ((S ++ D).length : Int) ≤ 0
    · rw [if_pos hm]
      have e2 : (wd - ((S ++ D).length : Int)).toNat = 0 := by omega
      unfold padS
      rw [e2]
      split <;> simp
    · rw [if_neg hm]
      have hlen : ((padS fl wd (S ++ D)).length : Int) = wd := by
        unfold padS
        split <;> (rw [List.length_append, List.length_replicate]; omega)
      rw [if_neg (by rw [hlen]; simp)]
      by_cases h45 : fl.contains 45 = true
      · rw [if_pos h45]
        unfold padS
        rw [if_pos h45]
        simp
      · rw [if_neg h45]
        have h48 : fl.contains 48 = false ∨ pr.isSome = true := by
          cases h : fl.contains 48
          · exact .inl rfl
          · right
            cases pr with
            | none => exact absurd ⟨h, by simpa using h45, rfl⟩ hz
            | some p => rfl
        rw [if_pos h48]
        unfold padS
        rw [if_neg h45]
        simp
theorem widS_len {wd : Int} (h1 : wd ≤ 20) : (widS wd).length ≤ 2 := by
  unfold widS
  split
  · by_cases h : wd < 10
    · rw [digs_small (by assumption) h]; simp
    · rw [digs_two (by omega) h1]; simp
  · simp
theorem dotOf_len {kp : Int} (h0 : 0 ≤ kp) (h5 : kp < 5) : (dotOf kp).length ≤ 3 := by
  have hc : kp = 0 ∨ kp = 1 ∨ kp = 2 ∨ kp = 3 ∨ kp = 4 := by omega
  rcases hc with rfl | rfl | rfl | rfl | rfl <;> simp [dotOf]
theorem kept_contains {fl : List Int} {c : Int} (h : c ≠ 48) : (fl.filter (fun x => x != 48)).contains c = fl.contains c := by
  induction fl with
  | nil => rfl
  | cons x fl ih =>
    by_cases hx : x = 48
    · subst hx
      rw [List.filter_cons_of_neg (by simp), ih, List.contains_cons]
      have : (c == 48) = false := by simpa using h
      rw [this, Bool.false_or]
    · rw [List.filter_cons_of_pos (by simpa using hx), List.contains_cons, List.contains_cons, ih]
theorem kept_48 {fl : List Int} : (fl.filter (fun x => x != 48)).contains 48 = false := by
  rw [List.contains_eq_mem]
  simp
theorem kept_sub {fl : List Int} : ∀ c ∈ fl.filter (fun x => x != 48), c ∈ fl := fun _ h => (List.mem_filter.mp h).1
theorem kept_len {fl : List Int} : (fl.filter (fun x => x != 48)).length ≤ fl.length := List.length_filter_le _ _
theorem signs_dig {D : List Int} (h : ∀ x ∈ D, isHex x = true) : signsS D = 0 := by
  unfold signsS
  rcases D with _ | ⟨x, _ | ⟨y, D⟩⟩
  · rfl
  · obtain ⟨_, h1, h2, _, _, h5⟩ := hex_not (h x (.head _))
    have a1 : (45 == x) = false := by simpa using fun e => h2 e.symm
    have a2 : (43 == x) = false := by simpa using fun e => h1 e.symm
    have a3 : (32 == x) = false := by simpa using fun e => h5 e.symm
    simp [a1, a2, a3]
  · obtain ⟨_, h1, h2, _, _, h5⟩ := hex_not (h x (.head _))
    obtain ⟨_, _, _, h3, h4, _⟩ := hex_not (h y (.tail _ (.head _)))
    have g1 : ¬ 45 = x := fun e => h2 e.symm
    have g2 : ¬ 43 = x := fun e => h1 e.symm
    have g3 : ¬ 32 = x := fun e => h5 e.symm
    have g4 : ¬ 120 = y := fun e => h3 e.symm
    have g5 : ¬ 88 = y := fun e => h4 e.symm
    simp [g1, g2, g3, g4, g5]
theorem signs_one {D : List Int} {s : Int} (h : s = 45 ∨ s = 43 ∨ s = 32) : signsS (s :: D) = 1 := by
  unfold signsS
  rcases h with rfl | rfl | rfl <;> simp
theorem signs_two {D : List Int} {s : Int} (h : s = 120 ∨ s = 88) : signsS (48 :: s :: D) = 2 := by
  unfold signsS
  rcases h with rfl | rfl <;> simp
theorem sign_len {fl D : List Int} {n : Int} (h : ∀ x ∈ D, isHex x = true) : signsS (signS fl n ++ D) = (signS fl n).length := by
  rcases (signS_in (fl := fl) (n := n)).1 with e | e | e | e <;> rw [e]
  · exact signs_dig h
  · exact signs_one (.inr (.inl rfl))
  · exact signs_one (.inl rfl)
  · exact signs_one (.inr (.inr rfl))
theorem pre_len {fl D : List Int} {n lt : Int} (hl : lt = 120 ∨ lt = 88) (h : ∀ x ∈ D, isHex x = true) : signsS (preS fl n lt ++ D) = (preS fl n lt).length := by
  unfold preS
  split
  · exact signs_two hl
  · exact signs_dig h
theorem stands_fmt {fl : List Int} {wd n bits kl : Int} {pr : Option Int} (hk0 : 0 ≤ kl) (hk6 : kl < 6) :
    standsS (fmtS fl wd pr (ltOf kl) n bits) (fmtS (fl.filter (fun x => x != 48)) 0 pr (ltOf kl) n bits) fl wd pr = true := by
  have hs : signS (fl.filter (fun x => x != 48)) n = signS fl n := by unfold signS; rw [kept_contains (by omega), kept_contains (by omega)]
  have ho : ∀ ds, octS (fl.filter (fun x => x != 48)) ds = octS fl ds := fun ds => by unfold octS; rw [kept_contains (by omega)]
  have hp : ∀ m lt, preS (fl.filter (fun x => x != 48)) m lt = preS fl m lt := fun m lt => by unfold preS; rw [kept_contains (by omega)]
  have hex10 : ∀ m : Int, ∀ x ∈ leastS pr n (digs m 10 smallT), isHex x = true := fun m x hx => isDig_hex (b := 10) (by omega) (leastS_dig (b := 10) (by omega) (digs_dig (b := 10) (small_good (by omega) (by omega))) x hx)
  have hexg : ∀ (b : Nat) (tbl : List Int) (g : GoodT tbl b) (m : Int), ∀ x ∈ leastS pr m (digs m b tbl), isHex x = true := fun b tbl g m x hx => isDig_hex (b := b) (by have := g.2.1; omega) (leastS_dig (by have := g.1; omega) (digs_dig g) x hx)
  have hlt := ltOf_in hk0 hk6
  generalize ltOf kl = lt at hlt
  unfold fmtS
  split
  · unfold signedS
    rw [hs]
    exact stands_fill kept_48 fun _ => sign_len (hex10 _)
  · rename_i h
    unfold unsignedS
    split
    · exact stands_fill kept_48 fun _ => signs_dig (hexg 10 smallT (small_good (by omega) (by omega)) _)
    · split
      · rw [ho]
        refine stands_fill kept_48 fun _ => signs_dig fun x hx => ?_
        exact isDig_hex (b := 8) (by omega) (octS_dig (b := 8) (by omega) (leastS_dig (b := 8) (by omega) (digs_dig (b := 8) (small_good (by omega) (by omega)))) x hx)
      · rw [hp]
        refine stands_fill kept_48 fun _ => pre_len (by omega) ?_
        split
        · exact hexg 16 smallT (small_good (by omega) (by omega)) _
        · exact hexg 16 greatT (great_good (by omega) (by omega)) _
end Mine
end
section
open PySem PySem.W PyProof.Rows PySem.Calls PySem.Spec
namespace Mine
section
theorem site_dp {dp D D' R : Nat} (h : dp + D < R) (hd : Nat.ble (D' + 1) D = true) : dp + 1 + D' < R := by
  have := Nat.le_of_ble_eq_true hd
  omega
theorem site_un {un D D' R : Nat} (h : un + 8 * D + 100 < R) (hd : Nat.ble (D' + 1) D = true) : un + 3 + 8 * D' + 100 < R := by
  have := Nat.le_of_ble_eq_true hd
  omega
variable {w : World} {loose : List PySem.Str} {mean : ExcName → Option Value} {mg mb : PySem.Str → Option Value} {dp un : Nat} {gd : Option (List Code)} {cn : PySem.Str} {cs : Scope} {a : Addr} {ccd : Value} {cl : List (PySem.Str × Addr)} {outer : List Env} {A₀ : Around} {base h₀ : Heap} {L : Addr} {m : PySem.Str → Option Value} {news : List (Addr × Obj)} {s : Shared} {Q E : Value → Shared → Prop}
set_option linter.all false
set_option maxRecDepth 100000
set_option maxHeartbeats 8000000
local macro_rules | `(tactic| walk_at $s:str) => `(tactic| k_extra $s)
theorem words_1 : True := by
  k_with "site" => ((refine ⟨by k_asm, by k_asm, by k_asm, by k_asm, by k_asm, ?_, ?_, ?_⟩; (first | exact rfl | assumption); ((try dsimp only [Around.deeper, Around.in1, ktrTop]); first | (refine site_dp (by assumption) ?_; exact rfl) | omega); ((try dsimp only [Around.deeper, Around.in1, ktrTop]); first | (refine site_un (by assumption) ?_; exact rfl) | omega)))
  k_with "enter" => ((refine wpAny_call ?_; k_dflt (refine' code_def (binds := (by k_extra "binds")) ?k1 ?k2 ?k3 ?k4 ?k5 ?kA ?kF ?kK ?k6 ?k7 ?k8 ?k9 ?kB ?_ ?c2 ?c3 ?c4 ?c5; (case kA => exact rfl); (case kF => exact rfl); (case kK => assumption); (case k1 => k_asm); (case k2 => k_asm); (case k3 => k_asm); (case k4 => k_asm); (case k5 => k_asm); (case k6 => k_is); (case k7 => k_is); (case k8 => (dsimp only [ktrTop]; omega)); (case k9 => exact BindsTo.of_eq rfl); (case c5 => decide); (case kB => exact locs rfl); (case c2 => exact rfl); (case c3 => exact rfl); (case c4 => exact rfl); k_whole; intro g' L' h' FG' F' N' B' X' T'; (try dsimp only); (try k_fold))))
  k_with "sub" => ((intro p hp; first | exact hp | exact .tail _ hp | exact .tail _ (.tail _ hp) | exact .tail _ (.tail _ (.tail _ hp)) | exact .tail _ (.tail _ (.tail _ (.tail _ hp))) | exact .tail _ (.tail _ (.tail _ (.tail _ (.tail _ hp))))))
  k_with "lits" => ((try simp only [KBw.ints_list, List.map_cons, List.map_nil, UInt8.reduceToNat, Int.cast_ofNat_Int]))
  k_with "bi" => (first | assumption | exact bi_small | exact bi_great | kba_ints2 | exact KBw.ints_list _)
  k_with "compareOp In int bytes" => ((k_here; (with_reducible show wpAny _ _ (compareOp CmpOp.In (Value.int _ _) (Value.bytes _ _)) _ _ _); (refine in_bytes (by walk_at "bi") (by first | assumption | omega) (by first | assumption | omega) ?_); walk_at "lits"))
  k_with "compareOp NotIn int bytes" => ((k_here; (with_reducible show wpAny _ _ (compareOp CmpOp.NotIn (Value.int _ _) (Value.bytes _ _)) _ _ _); (refine notin_bytes (by walk_at "bi") (by first | assumption | omega) (by first | assumption | omega) ?_); walk_at "lits"))
  k_with "compareOp Eq bytes bytes" => ((k_here; (refine eq_bytesK (by walk_at "bi") (by walk_at "bi") ?_); walk_at "lits"))
  k_with "compareOp NotEq bytes bytes" => ((k_here; (refine ne_bytesK (by walk_at "bi") (by walk_at "bi") ?_); walk_at "lits"))
  k_with "binaryOp Mult bytes int" => ((k_here; (refine mul_bytesK (by walk_at "bi") (by simp) (by omega) (by omega) (by simp) ?_); intro b9 t9 k9 hb9; (try simp only [KBw.ints_list, List.map_cons, List.map_nil, UInt8.reduceToNat, Int.cast_ofNat_Int, List.flatten_replicate_singleton, posI_toNat] at hb9)))
  k_with "exec While Compare cons nil" => (k_extra "while")
  k_with "exec While BoolOp cons nil" => (k_extra "while")
  k_with "sz" => (first | assumption | omega | ((simp only [List.length_map, List.length_append, List.length_cons, List.length_nil, List.length_replicate, List.length_reverse]); omega) | ((simp only [List.length_map, List.length_append, List.length_cons, List.length_nil, List.length_replicate, List.length_reverse] at *); omega))
  k_with "CutPost" => ((dsimp only [CutPost]))
  k_with "cutE1" => ((rename News _ _ _ _ => nE'; refine cut_end _ (by assumption) nE' (by walk_at "sub") (by kst_all) (by ksw_same) (by k_extra "cutp")))
  k_with "cutE2" => ((rename News _ _ _ _ => nE'; refine cut_end ⟨_, _⟩ (by assumption) nE' (by walk_at "sub") (by kst_all) (by ksw_same) (by k_extra "cutp")))
  k_with "cutE3" => ((rename News _ _ _ _ => nE'; refine cut_end ⟨_, _, _⟩ (by assumption) nE' (by walk_at "sub") (by kst_all) (by ksw_same) (by k_extra "cutp")))
  k_with "cutE4" => ((rename News _ _ _ _ => nE'; refine cut_end ⟨_, _, _, _⟩ (by assumption) nE' (by walk_at "sub") (by kst_all) (by ksw_same) (by k_extra "cutp")))
  k_with "CutEnd" => (k_extra "cutE")
  k_with "execs cons" => (k_extra "cut")
  k_with "nn" => (first | k_asm | (refine' cb_drop ?cbN ?cbS; (case cbN => assumption); (case cbS => walk_at "sub")))
  k_with "idx" => (first | assumption | omega | exact (fmod_bd (by omega)).1 | exact Int.lt_of_lt_of_le (fmod_bd (by omega)).2 (by omega))
  k_with "subscriptTail" => ((k_here; (with_reducible show wpAny _ _ (subscriptTail _ _ (Value.bytes _ _) (Value.int _ _)) _ _ _); (refine KBw.item_K (by walk_at "bi") (by walk_at "sz") (by walk_at "idx") (by walk_at "idx") ?_); intro _ _ kbaLo kbaHi))
  k_with "ints" => (first | exact IntsAre.nil | (with_reducible assumption) | l_intsC)
  k_with "units" => (((try dsimp only [Around.deeper, Around.in1, ktrTop]); omega))
  k_with "compareOp Eq ref ref" => ((k_here; (with_reducible show wpAny _ _ (compareOp CmpOp.Eq (Value.ref _) (Value.ref _)) _ _ _); k_dflt (refine' eq_intsK ?k1 ?k2 ?k3 ?k4 ?k5 ?_; (case k1 => is_list); (case k2 => walk_at "ints"); (case k3 => is_list); (case k4 => walk_at "ints"); (case k5 => walk_at "units"); k_whole)))
  k_with "lsz" => ((rw [sizeLine_eq]; (try simp only [List.size_toArray, List.length_append, List.length_cons, List.length_nil, List.length_reverse, List.length_map, List.length_replicate]); omega))
  k_with "call builtin:list.append" => ((k_here; (with_reducible show wpAny _ _ (call (Value.builtin "list.append") [Value.ref _, _]) _ _ _); k_dflt (refine' append_K ?k1 ?k2 ?k3 ?_ ?z; (case k1 => k_asm); (case k2 => k_asm); (case k3 => k_upd); (case z => walk_at "lsz"); k_whole); intro h' F' N'; (try k_sweep)))
  k_with "call builtin:list.reverse" => ((k_here; k_dflt (refine' kl_reverse ?F ?N ?e ?U ?z ?_; (case F => k_asm); (case N => k_asm); (case U => k_upd); (case e => exact rfl); (case z => walk_at "lsz")); intro h' F' N'; (try dsimp only at N'); (try k_sweep)))
  k_with "inb" => (first | assumption | (intro k hk; simp only [List.mem_cons, List.not_mem_nil, or_false] at hk; omega) | kba_in)
  k_with "call type:bytes" => ((k_here; (with_reducible show wpAny _ _ (call (Value.type "bytes") [Value.ref _]) _ _ _); k_dflt (refine' KBa.make_K ?kbaF ?kbaN ?kbah ?kbal ?kbai ?kbar ?kban ?_; (case kbaF => k_asm); (case kbaN => k_asm); (case kbah => rfl); (case kbal => is_list); (case kbai => walk_at "ints"); (case kbar => walk_at "inb"); (case kban => walk_at "sz")); intro _ _ _ F' N' kbaIn; (try k_sweep)))
  trivial
local macro_rules | `(tactic| k_mem) => `(tactic| first | exact List.Mem.tail _ (by assumption) | exact List.Mem.tail _ (.tail _ (by assumption)) | exact List.Mem.tail _ (.tail _ (.tail _ (by assumption))) | exact List.Mem.tail _ (.tail _ (.tail _ (.tail _ (by assumption)))) | exact List.Mem.tail _ (.tail _ (.tail _ (.tail _ (.tail _ (by assumption))))) | fail "no such entry")
theorem words_2 : True := by
  k_with "binaryOp Add bytes bytes" => ((k_here; (with_reducible show wpAny _ _ (binaryOp Operator.Add (Value.bytes _ _) (Value.bytes _ _)) _ _ _); (refine KBa.add_K (by walk_at "bi") (by walk_at "bi") (by walk_at "sz") ?_); intro _ _ kbaApp; (try simp only [KBw.ints_list, List.map_cons, List.map_nil, UInt8.reduceToNat, Int.cast_ofNat_Int, List.nil_append, List.append_nil] at kbaApp)))
  k_with "fin" => ((simp only [if_true, if_false, Bool.false_eq_true, Bool.true_eq_false, reduceCtorEq, and_true, true_and, and_false, false_and, and_self, or_true, true_or, or_false, false_or, ne_eq, not_true_eq_false, not_false_eq_true, decide_true, decide_false, Bool.not_true, Bool.not_false, Bool.true_and, Bool.and_true, Bool.false_and, Bool.and_false, Option.some.injEq, List.map_nil, List.map_cons, UInt8.reduceToNat, Int.cast_ofNat_Int, *]; done))
  k_with "call builtin:abs" => (((with_reducible refine abs_k ?_); intro _ _))
  k_with "call builtin:ord" => ((k_here; first | (with_reducible show wpAny _ _ (call _ [Value.str (PySem.Str.ofString "u") _]) _ _ _; refine ord_k 117 (by decide) (by decide) ?_) | (with_reducible show wpAny _ _ (call _ [Value.str (PySem.Str.ofString "o") _]) _ _ _; refine ord_k 111 (by decide) (by decide) ?_) | (with_reducible show wpAny _ _ (call _ [Value.str (PySem.Str.ofString "x") _]) _ _ _; refine ord_k 120 (by decide) (by decide) ?_)))
  k_with "UnrEnd" => (((refine UnrEnd.intro (by assumption) (by assumption) _ (fun p hp => hp) ?off ?_); (case off => (intro p hp; exact Nat.ne_of_lt (off_lt (by assumption) hp)))))
  trivial
theorem reset_B1 : True ∧ True := by
  w_top off
  exact ⟨trivial, trivial⟩
theorem c_digit_of {n : Int} {t : Tok} (S : Site w A₀ base h₀ outer L s.heap m news loose mean mg mb cs dp un 1)
  (hret : CbRet h₀ L m news s Q (.int (digitOf n))) :
  wpAny (model PG w) (ktrTop dp un gd cn cs L a ccd cl outer) (call (.ref 98) [.int n t]) Q E s := by
  obtain ⟨B, F, X, N, T, hk, hdp, hun⟩ := S
  k_with "binds" => exact [(PySem.Str.ofString "octet", .int n t)]
  walk_at "enter"
  k_steps
  all_goals (refine cb_retI hret ?_ (by k_asm) (by k_asm))
  all_goals (unfold digitOf; repeat' split)
  all_goals omega
theorem words_3 : True := by
  k_with "call ref" => ((k_here; (with_reducible show wpAny _ _ (call (Value.ref 98) [Value.int _ _]) _ _ _); k_dflt (refine' c_digit_of (by walk_at "site") ?_); intro t9 h9 tk9 F9 N9; (try dsimp only)))
  trivial
theorem c_is_number {n : Int} {t : Tok} (S : Site w A₀ base h₀ outer L s.heap m news loose mean mg mb cs dp un 1)
  (hret : CbRet h₀ L m news s Q (fun _ => .bool true)) :
  wpAny (model PG w) (ktrTop dp un gd cn cs L a ccd cl outer) (call (.ref 77) [.int n t]) Q E s := by
  obtain ⟨B, F, X, N, T, hk, hdp, hun⟩ := S
  k_with "binds" => exact [(PySem.Str.ofString "value", .int n t)]
  walk_at "enter"
  k_steps
  all_goals (refine cb_retB hret ?_ (by k_asm) (by k_asm))
  all_goals rfl
theorem words_4 : True := by
  k_with "call ref" => ((k_here; (with_reducible show wpAny _ _ (call (Value.ref 77) [Value.int _ _]) _ _ _); k_dflt (refine' c_is_number (by walk_at "site") ?_); intro t9 h9 tk9 F9 N9; (try dsimp only)))
  trivial
theorem c_is_blank {n : Int} {t : Tok} (h0 : 0 ≤ n) (h1 : n < 256) (S : Site w A₀ base h₀ outer L s.heap m news loose mean mg mb cs dp un 1)
  (hret : CbRet h₀ L m news s Q (fun _ => .bool (isBlank n))) :
  wpAny (model PG w) (ktrTop dp un gd cn cs L a ccd cl outer) (call (.ref 91) [.int n t]) Q E s := by
  obtain ⟨B, F, X, N, T, hk, hdp, hun⟩ := S
  k_with "binds" => exact [(PySem.Str.ofString "octet", .int n t)]
  walk_at "enter"
  k_steps
  all_goals (refine cb_retB hret ?_ (by k_asm) (by k_asm))
  all_goals rfl
theorem words_5 : True := by
  k_with "call ref" => ((k_here; (with_reducible show wpAny _ _ (call (Value.ref 91) [Value.int _ _]) _ _ _); k_dflt (refine' c_is_blank (by first | assumption | omega) (by first | assumption | omega) (by walk_at "site") ?_); intro t9 h9 tk9 F9 N9; (try dsimp only)))
  trivial
theorem c_is_digit {n : Int} {t : Tok} (S : Site w A₀ base h₀ outer L s.heap m news loose mean mg mb cs dp un 1)
  (hret : CbRet h₀ L m news s Q (fun _ => .bool (isDigit n))) :
  wpAny (model PG w) (ktrTop dp un gd cn cs L a ccd cl outer) (call (.ref 161) [.int n t]) Q E s := by
  obtain ⟨B, F, X, N, T, hk, hdp, hun⟩ := S
  k_with "binds" => exact [(PySem.Str.ofString "octet", .int n t)]
  walk_at "enter"
  k_steps
  all_goals (refine cb_retB hret ?_ (by k_asm) (by k_asm))
  all_goals (simp [isDigit, *])
theorem words_6 : True := by
  k_with "call ref" => ((k_here; (with_reducible show wpAny _ _ (call (Value.ref 161) [Value.int _ _]) _ _ _); k_dflt (refine' c_is_digit (by walk_at "site") ?_); intro t9 h9 tk9 F9 N9; (try dsimp only)))
  trivial
theorem wrap_eq {n wd : Int} : Builtin.bitAnd n (1 * 2 ^ wd.toNat - 1) = n % 2 ^ wd.toNat := by rw [Int.one_mul, kbt_mask]
theorem c_wrap {n wd : Int} {t t2 : Tok} (h1 : 1 ≤ wd) (h2 : wd ≤ 64) (S : Site w A₀ base h₀ outer L s.heap m news loose mean mg mb cs dp un 1)
  (hret : CbRet h₀ L m news s Q (.int (wrapI n wd))) :
  wpAny (model PG w) (ktrTop dp un gd cn cs L a ccd cl outer) (call (.ref 84) [.int n t, .int wd t2]) Q E s := by
  obtain ⟨B, F, X, N, T, hk, hdp, hun⟩ := S
  k_with "binds" => exact [(PySem.Str.ofString "n", .int n t), (PySem.Str.ofString "width", .int wd t2)]
  walk_at "enter"
  k_steps
  all_goals (refine cb_retI hret ?_ (by k_asm) (by k_asm))
  all_goals first
    | (rename (_ ≤ Builtin.bitAnd _ _) => hx; rw [wrap_eq, Int.one_mul] at hx; rw [wrap_eq]; unfold wrapI; simp only [Int.one_mul, hx, if_true])
    | (rename (¬ _ ≤ Builtin.bitAnd _ _) => hx; rw [wrap_eq, Int.one_mul] at hx; rw [wrap_eq]; unfold wrapI; simp only [hx, if_false])
theorem words_7 : True := by
  k_with "call ref" => ((k_here; (with_reducible show wpAny _ _ (call (Value.ref 84) [Value.int _ _, Value.int _ _]) _ _ _); k_dflt (refine' c_wrap (by first | assumption | omega) (by first | assumption | omega) (by walk_at "site") ?_); intro t9 h9 tk9 F9 N9; (try dsimp only)))
  trivial
theorem c_skip_blanks {b : Array UInt8} {ks : List Int} {i₀ : Int} {t t2 : Tok} (hb : KBw.bInts b = ks) (hz : ks.length ≤ 100000) (h1 : 0 ≤ i₀) (h2 : i₀ ≤ ks.length) (S : Site w A₀ base h₀ outer L s.heap m news loose mean mg mb cs dp un 2)
  (hret : CbRet h₀ L m news s Q (.int (skipB ks i₀))) :
  wpAny (model PG w) (ktrTop dp un gd cn cs L a ccd cl outer) (call (.ref 112) [.bytes b t, .int i₀ t2]) Q E s := by
  obtain ⟨B, F, X, N, T, hk, hdp, hun⟩ := S
  k_with "while" => k_while (fun _ i => skipB ks i = skipB ks i₀ ∧ 0 ≤ i ∧ i ≤ ks.length) (fun _ i => (ks.length - i).toNat) "at"
  k_with "state" => first | exact ⟨rfl, by omega, by omega⟩ | exact ⟨(skipB_step (by assumption) (by assumption) (by assumption)).trans (by assumption), by omega, by omega⟩
  k_with "binds" => exact [(PySem.Str.ofString "text", .bytes b t), (PySem.Str.ofString "at", .int i₀ t2)]
  walk_at "enter"
  k_steps
  all_goals (refine cb_retI hret ?_ (by k_asm) (by k_asm))
  all_goals (rename (skipB _ _ = _) => hE; rw [← hE]; symm; refine skipB_stop (by assumption) ?_; intro hlt; first | assumption | omega)
theorem c_skip_b {b : Array UInt8} {ks : List Int} {i₀ : Int} {t t2 : Tok} (hb : KBw.bInts b = ks) (hz : ks.length ≤ 100000) (h1 : 0 ≤ i₀) (h2 : i₀ ≤ ks.length) (S : Site w A₀ base h₀ outer L s.heap m news loose mean mg mb cs dp un 2)
  (hret : ∀ (t : Tok) (h' : Heap) (tk' : Nat), Fr h₀ L h' m → News h₀ L h' news → i₀ ≤ skipB ks i₀ → skipB ks i₀ ≤ ks.length → Q (.int (skipB ks i₀) t) { s with heap := h', toks := tk' }) :
  wpAny (model PG w) (ktrTop dp un gd cn cs L a ccd cl outer) (call (.ref 112) [.bytes b t, .int i₀ t2]) Q E s :=
  c_skip_blanks hb hz h1 h2 S fun t h' tk' F N => hret t h' tk' F N (skipB_bd h1 h2).1 (skipB_bd h1 h2).2
theorem words_8 : True := by
  k_with "call ref" => ((k_here; (with_reducible show wpAny _ _ (call (Value.ref 112) [Value.bytes _ _, Value.int _ _]) _ _ _); k_dflt (refine' c_skip_b (by walk_at "bi") (by walk_at "sz") (by first | assumption | omega) (by walk_at "sz") (by walk_at "site") ?_); intro t9 h9 tk9 F9 N9 sb9 sc9; (try dsimp only)))
  trivial
theorem ret_tup2 {x y : Int} {tx ty : Tok} {p : Int × Int} {r : Addr} {h' : Heap} {tk' : Nat} (hret : ∀ r t1 t2 h' tk', Fr h₀ L h' m → News h₀ L h' ((r, tupObj [.int p.1 t1, .int p.2 t2]) :: news) → AllLt r news → Q (.ref r) { s with heap := h', toks := tk' })
  (e : (x, y) = p) (F : Fr h₀ L h' m) (N : News h₀ L h' ((r, tupObj [.int x tx, .int y ty]) :: news)) (l : ∀ p ∈ news, p.1 < r) : Q (.ref r) { s with heap := h', toks := tk' } := by
  subst e
  exact hret r tx ty h' tk' F N (allLt_of l)
theorem c_read_digits {b : Array UInt8} {ks : List Int} {i₀ bs : Int} {t t2 t3 : Tok} (hb : KBw.bInts b = ks) (hz : ks.length ≤ 100000) (h1 : 0 ≤ i₀) (h2 : i₀ ≤ ks.length) (h3 : 0 ≤ bs) (h4 : bs ≤ 16) (S : Site w A₀ base h₀ outer L s.heap m news loose mean mg mb cs dp un 2)
  (hret : ∀ r t1 t2 h' tk', Fr h₀ L h' m → News h₀ L h' ((r, tupObj [.int (readD ks i₀ bs).1 t1, .int (readD ks i₀ bs).2 t2]) :: news) → AllLt r news → Q (.ref r) { s with heap := h', toks := tk' }) :
  wpAny (model PG w) (ktrTop dp un gd cn cs L a ccd cl outer) (call (.ref 105) [.bytes b t, .int i₀ t2, .int bs t3]) Q E s := by
  obtain ⟨B, F, X, N, T, hk, hdp, hun⟩ := S
  k_with "while" => k_while (fun _ f i => readG ks f i bs = readD ks i₀ bs ∧ 0 ≤ i ∧ i ≤ ks.length) (fun _ _ i => (ks.length - i).toNat) "found" "at"
  k_with "state" => first | exact ⟨rfl, by omega, by omega⟩ | exact ⟨(readG_step (by assumption) (by assumption) (by (unfold isDig; simp only [Bool.and_eq_true, decide_eq_true_eq]; omega))).trans (by assumption), by omega, by omega⟩
  k_with "binds" => exact [(PySem.Str.ofString "text", .bytes b t), (PySem.Str.ofString "at", .int i₀ t2), (PySem.Str.ofString "base", .int bs t3)]
  walk_at "enter"
  k_steps
  all_goals (refine ret_tup2 hret ?_ (by k_asm) (by k_asm) (by assumption))
  all_goals (rename (readG _ _ _ _ = _) => hE; rw [← hE]; symm; refine readG_stop (by assumption) ?_; intro hlt; first | omega | (unfold isDig; simp only [Bool.and_eq_false_iff, decide_eq_false_iff_not]; omega))
theorem c_read_d {b : Array UInt8} {ks : List Int} {i₀ bs : Int} {t t2 t3 : Tok} (hb : KBw.bInts b = ks) (hz : ks.length ≤ 100000) (h1 : 0 ≤ i₀) (h2 : i₀ ≤ ks.length) (h3 : 0 ≤ bs) (h4 : bs ≤ 16) (S : Site w A₀ base h₀ outer L s.heap m news loose mean mg mb cs dp un 2)
  (hret : ∀ r t1 t2 h' tk', Fr h₀ L h' m → News h₀ L h' ((r, tupObj [.int (readD ks i₀ bs).1 t1, .int (readD ks i₀ bs).2 t2]) :: news) → AllLt r news → i₀ ≤ (readD ks i₀ bs).2 → (readD ks i₀ bs).2 ≤ ks.length → Q (.ref r) { s with heap := h', toks := tk' }) :
  wpAny (model PG w) (ktrTop dp un gd cn cs L a ccd cl outer) (call (.ref 105) [.bytes b t, .int i₀ t2, .int bs t3]) Q E s :=
  c_read_digits hb hz h1 h2 h3 h4 S fun r t1 t2 h' tk' F N l => hret r t1 t2 h' tk' F N l (readD_bd h1 h2).1 (readD_bd h1 h2).2
theorem words_9 : True := by
  k_with "call ref" => ((k_here; (with_reducible show wpAny _ _ (call (Value.ref 105) [Value.bytes _ _, Value.int _ _, Value.int _ _]) _ _ _); k_dflt (refine' c_read_d (by walk_at "bi") (by walk_at "sz") (by first | assumption | omega) (by walk_at "sz") (by first | assumption | omega) (by first | assumption | omega) (by walk_at "site") ?_); intro r9 t9 u9 h9 tk9 F9 N9 l9 rb9 rc9; (try dsimp only)))
  trivial
theorem reset_B2 : True ∧ True := by
  w_top off
  exact ⟨trivial, trivial⟩
def LimAt (news : List (Addr × Obj)) (x : Addr) (wd : Int) : Prop := ∃ dx es n t, (x, instObj 46 dx) ∈ news ∧ (dx, dictOf es n) ∈ news ∧ getL (PySem.Str.ofString "width") es = some (some (.int wd t))
theorem get_lim {A : Around} {expr : Bool} {x : Addr} {wd : Int} (F : Fr h₀ L s.heap m) (X : (hd.heap_39 w.params).In h₀) (N : News h₀ L s.heap news) (H : LimAt news x wd)
    (h : ∀ t, Q (.int wd t) { s with toks := s.toks + 1 }) : wpAny (model PG w) A (getAttr (.ref x) (PySem.Str.ofString "width") expr) Q E s := by
  obtain ⟨dx, es, n, t, h1, h2, h3⟩ := H
  refine get_own (attr := none) F X (InstAt.of_news N h1 h2) ?_ ?_ ?_ ?_ h3 ?_ (h t)
  · k_is
  · k_is
  · k_is
  · rfl
  · rfl
theorem LimAt.sub {news news' : List (Addr × Obj)} {x : Addr} {wd : Int} (H : LimAt news x wd) (hs : ∀ p ∈ news, p ∈ news') : LimAt news' x wd :=
  let ⟨dx, es, n, t, h1, h2, h3⟩ := H; ⟨dx, es, n, t, hs _ h1, hs _ h2, h3⟩
theorem words_10 : True := by
  k_with "getAttr ref" => ((k_here; (with_reducible show wpAny _ _ (getAttr (Value.ref _) (PySem.Str.ofString "width") _) _ _ _); (refine get_lim (by k_asm) (by k_asm) (by k_asm) (by walk_at "limat") ?_); intro t9; (try dsimp only)))
  k_with "limat" => (first | assumption | (refine LimAt.sub (by assumption) ?_; walk_at "sub") | exact ⟨_, _, _, _, by k_mem, by k_mem, by k_get⟩)
  k_with "tib" => ((simp only [sgn, iOne, below, markd, mkd, iTwo, bTwo, bThree, isDig] at *; simp_all))
  trivial
theorem ret_none {o : Option Int} {h' : Heap} {tk' : Nat} (hret : CbRet h₀ L m news s Q (optV o)) (e : o = none) (F : Fr h₀ L h' m) (N : News h₀ L h' news) : Q .none { s with heap := h', toks := tk' } := by
  subst e
  exact hret 0 h' tk' F N
theorem ret_some {o : Option Int} {v : Int} {t : Tok} {h' : Heap} {tk' : Nat} (hret : CbRet h₀ L m news s Q (optV o)) (e : o = some v) (F : Fr h₀ L h' m) (N : News h₀ L h' news) : Q (.int v t) { s with heap := h', toks := tk' } := by
  subst e
  exact hret t h' tk' F N
theorem c_text_in_base {b : Array UInt8} {ks : List Int} {bs wd : Int} {t t2 : Tok} {lx : Addr} (hb : KBw.bInts b = ks) (hz : ks.length ≤ 100000) (h3 : 0 ≤ bs) (h4 : bs ≤ 16) (h5 : 1 ≤ wd) (h6 : wd ≤ 64)
  (hlim : LimAt news lx wd)
  (S : Site w A₀ base h₀ outer L s.heap m news loose mean mg mb cs dp un 3)
  (hret : CbRet h₀ L m news s Q (optV (textIn ks bs wd))) :
  wpAny (model PG w) (ktrTop dp un gd cn cs L a ccd cl outer) (call (.ref 126) [.bytes b t, .int bs t2, .ref lx]) Q E s := by
  obtain ⟨B, F, X, N, T, hk, hdp, hun⟩ := S
  have hi1 := iOne_bd (ks := ks)
  have hi2 := iTwo_bd (ks := ks) (bs := bs)
  have hb2 := bTwo_bd (ks := ks) (bs := bs) h3 h4
  have hb3 := bThree_bd (ks := ks) (bs := bs) h3 h4
  have hmd : ∀ {P : Prop}, markd ks bs = true → (iOne ks + 2 < ks.length → P) → P := fun h k => k (markd_bd h)
  k_with "cut" => ((with_reducible show wpAny _ _ (execs (PySem.Stmt.If _ _ _ ⟨61, _, _, _⟩ :: _) _) _ _ _); (try dsimp only); (refine cut (σ := Int × Tok × Bool) (news := news) (fun c => [(PySem.Str.ofString "at", .int c.1 c.2.1), (PySem.Str.ofString "is_below", .bool c.2.2)]) [] (fun c => c.1 = iOne ks ∧ c.2.2 = below ks) (by k_asm) ?_ ?_); rotate_left; (rintro ⟨i1, t1, bl⟩ u h' tk ⟨e1, e2⟩ F1 N1; (try dsimp only at e1 e2); subst e1; subst e2; (try dsimp only [kstB] at F1)); rotate_right; all_goals (try k_fold))
  k_with "cut" => ((with_reducible show wpAny _ _ (execs (PySem.Stmt.Assign _ _ ⟨64, _, _, _⟩ :: _) _) _ _ _); (try dsimp only); (refine cut (σ := Bool) (news := news) (fun c => [(PySem.Str.ofString "is_marked", .bool c)]) [] (fun c => c = markd ks bs) (by k_asm) ?_ ?_); rotate_left; (rintro bl u h' tk e1 F1 N1; (try dsimp only at e1); subst e1; (try dsimp only [kstB] at F1); cases hmk : markd ks bs <;> rw [hmk] at F1; rotate_left; (have hmx := markd_bd hmk); rotate_right); rotate_right; all_goals (try k_fold))
  k_with "cut" => ((with_reducible show wpAny _ _ (execs (PySem.Stmt.If _ _ _ ⟨65, _, _, _⟩ :: _) _) _ _ _); (try dsimp only); (refine cut (σ := Int × Tok × Int × Tok) (news := news) (fun c => [(PySem.Str.ofString "at", .int c.1 c.2.1), (PySem.Str.ofString "base", .int c.2.2.1 c.2.2.2)]) [] (fun c => c.1 = iTwo ks bs ∧ c.2.2.1 = bTwo ks bs) (by k_asm) ?_ ?_); rotate_left; (rintro ⟨i1, t1, b1, t2⟩ u h' tk ⟨e1, e2⟩ F1 N1; (try dsimp only at e1 e2); subst e1; subst e2; (try dsimp only [kstB] at F1)); rotate_right; all_goals (try k_fold))
  k_with "cutE" => first | walk_at "cutE4" | walk_at "cutE3" | walk_at "cutE1"
  k_with "cutp" => (simp only [iOne, below, sgn, decide_true, decide_false, beqd, Bool.true_and, Bool.and_true, Bool.false_and, Bool.and_false, Bool.false_eq_true, if_true, if_false, and_self, *]; done)
  k_with "cutp" => (simp only [markd, decide_true, decide_false, beqd, Bool.true_and, Bool.and_true, Bool.false_and, Bool.and_false, Bool.true_or, Bool.or_true, Bool.false_or, Bool.or_false, *]; done)
  k_with "cutp" => (simp only [iTwo, bTwo, mkd, isDig, decide_true, decide_false, beqd, Bool.true_and, Bool.and_true, Bool.false_and, Bool.and_false, Bool.false_eq_true, if_true, if_false, and_self, *]; done)
  k_with "binds" => exact [(PySem.Str.ofString "text", .bytes b t), (PySem.Str.ofString "base", .int bs t2), (PySem.Str.ofString "limits", .ref lx)]
  walk_at "enter"
  k_steps
  all_goals first
    | refine ret_none hret ?_ (by k_asm) (by walk_at "nn")
    | refine ret_some hret ?_ (by k_asm) (by walk_at "nn")
  all_goals (simp only [textIn, fEnd, bThree, if_true, if_false, true_or, or_true, false_or, or_false, not_true_eq_false, not_false_eq_true, ne_eq, Bool.false_eq_true, *]; done)
theorem words_11 : True := by
  k_with "call ref" => ((k_here; (with_reducible show wpAny _ _ (call (Value.ref 126) [Value.bytes _ _, Value.int _ _, Value.ref _]) _ _ _); k_dflt (refine' c_text_in_base (by walk_at "bi") (by walk_at "sz") (by first | assumption | omega) (by first | assumption | omega) (by first | assumption | omega) (by first | assumption | omega) ?zL ?zS ?_); (case zS => walk_at "site"); (case zL => walk_at "limat"); intro t9 h9 tk9 F9 N9; (try dsimp only)))
  trivial
theorem c_str_to_number {b : Array UInt8} {ks : List Int} {wd : Int} {t : Tok} {lx : Addr} (hb : KBw.bInts b = ks) (hz : ks.length ≤ 100000) (h5 : 1 ≤ wd) (h6 : wd ≤ 64)
  (hlim : LimAt news lx wd)
  (S : Site w A₀ base h₀ outer L s.heap m news loose mean mg mb cs dp un 4)
  (hret : CbRet h₀ L m news s Q (optV (textIn ks 0 wd))) :
  wpAny (model PG w) (ktrTop dp un gd cn cs L a ccd cl outer) (call (.ref 119) [.bytes b t, .ref lx]) Q E s := by
  obtain ⟨B, F, X, N, T, hk, hdp, hun⟩ := S
  k_with "binds" => exact [(PySem.Str.ofString "text", .bytes b t), (PySem.Str.ofString "limits", .ref lx)]
  walk_at "enter"
  k_steps
  all_goals (exact hret _ _ _ (by k_asm) (by walk_at "nn"))
theorem words_12 : True := by
  k_with "call ref" => ((k_here; (with_reducible show wpAny _ _ (call (Value.ref 119) [Value.bytes _ _, Value.ref _]) _ _ _); k_dflt (refine' c_str_to_number (by walk_at "bi") (by walk_at "sz") (by first | assumption | omega) (by first | assumption | omega) ?zL ?zS ?_); (case zS => walk_at "site"); (case zL => walk_at "limat"); intro t9 h9 tk9 F9 N9; (try dsimp only)))
  trivial
theorem c_to_number {n : Int} {t : Tok} {lx : Addr}
  (S : Site w A₀ base h₀ outer L s.heap m news loose mean mg mb cs dp un 2)
  (hret : CbRet h₀ L m news s Q (fun _ => .int n t)) :
  wpAny (model PG w) (ktrTop dp un gd cn cs L a ccd cl outer) (call (.ref 133) [.int n t, .ref lx]) Q E s := by
  obtain ⟨B, F, X, N, T, hk, hdp, hun⟩ := S
  k_with "binds" => exact [(PySem.Str.ofString "value", .int n t), (PySem.Str.ofString "limits", .ref lx)]
  walk_at "enter"
  k_steps
  all_goals (exact hret 0 _ _ (by k_asm) (by walk_at "nn"))
theorem words_13 : True := by
  k_with "call ref" => ((k_here; (with_reducible show wpAny _ _ (call (Value.ref 133) [Value.int _ _, Value.ref _]) _ _ _); k_dflt (refine' c_to_number (by walk_at "site") ?_); intro t9 h9 tk9 F9 N9; (try dsimp only)))
  trivial
theorem reset_B3 : True ∧ True := by
  w_top off
  exact ⟨trivial, trivial⟩
theorem bret {ks ks' : List Int} {c : Array UInt8} {t : Tok} {h' : Heap} {tk' : Nat} (hret : BRet h₀ L m news s Q ks) (hc : KBw.bInts c = ks') (e : ks' = ks) (F : Fr h₀ L h' m) (N : News h₀ L h' news) : Q (.bytes c t) { s with heap := h', toks := tk' } := by
  subst e
  exact hret c t h' tk' hc F N
theorem c_digits_of {tb : Array UInt8} {tbl : List Int} {n bs : Int} {t1 t2 t3 : Tok} (htb : KBw.bInts tb = tbl) (hbl : bs ≤ tbl.length) (hb : 2 ≤ bs) (hb2 : bs ≤ 16) (htl : tbl.length ≤ 20) (hn : 0 ≤ n) (hn2 : PySem.Flt.Hid (n < 2 ^ 65))
  (S : Site w A₀ base h₀ outer L s.heap m news loose mean mg mb cs dp un 2)
  (hret : BRet h₀ L m news s Q (digs n bs tbl)) :
  wpAny (model PG w) (ktrTop dp un gd cn cs L a ccd cl outer) (call (.ref 175) [.int n t1, .int bs t2, .bytes tb t3]) Q E s := by
  obtain ⟨B, F, X, N, T, hk, hdp, hun⟩ := S
  k_with "binds" => exact [(PySem.Str.ofString "number", .int n t1), (PySem.Str.ofString "base", .int bs t2), (PySem.Str.ofString "table", .bytes tb t3)]
  k_with "while" => ((rename Fr _ _ _ _ => lF'); (rename News _ _ _ _ => lN'); (refine ksw_while (σ := List Value × List Int × Nat × Int × Tok) (fun c => (_, listOf c.1.toArray c.2.2.1) :: news) (fun c => [(PySem.Str.ofString "rest", .int c.2.2.2.1 c.2.2.2.2)]) (fun c => IntsAre c.1 c.2.1) [] (fun c => digM tbl bs.toNat c.2.1 c.2.2.2.1.toNat = digD tbl bs.toNat n.toNat ∧ 0 ≤ c.2.2.2.1 ∧ KBa.In c.2.1) (fun c => c.2.2.2.1.toNat + (if c.2.1 = [] then 1 else 0)) ([], [], 0, n, t1) lF' lN' ?_ ?_ ?_ ?_); (exact IntsAre.nil); (exact List.forall_mem_cons.mpr ⟨rfl, List.forall_mem_nil _⟩); (exact ⟨digM_start, by omega, by (intro k hk; cases hk)⟩); (clear lF' lN'; rintro ⟨vs, ns, ep, rest, tkr⟩ u h tkk hf ⟨hp1, hp2, hp3⟩ F1 N1; (dsimp only at hf hp1 hp2 hp3); (dsimp only [kstB] at F1); (dsimp only at N1); (have hv9 : vs.length ≤ 65 := by (rw [hf.length]; exact digM_bd (by omega) (by have := hn2.out; omega) hp1)); (have hn9 : ns.length ≤ 65 := by (rw [← hf.length]; exact hv9)); (have hrv := ints_rev hf); (have hir : KBa.In ns.reverse := fun k hk => hp3 k (List.mem_reverse.mp hk)); (try k_fold)))
  have hti := bints_In htb
  k_with "state" => first | exact ⟨digM_start, by omega, by (intro k hk; cases hk)⟩ | exact digM_stepI hb (by assumption) (Or.inl (by assumption)) hti (by assumption) (by assumption) | exact digM_stepI hb (by assumption) (Or.inr (of_decide_eq_true (by assumption))) hti (by assumption) (by assumption)
  k_with "measure" => first | exact dig_meas hb (by assumption) (Or.inl (by assumption)) | exact dig_meas hb (by assumption) (Or.inr (of_decide_eq_true (by assumption)))
  walk_at "enter"
  k_steps
  rename digM _ _ _ _ = _ => hp1
  refine bret hret (KBa.ints_make (by assumption)) ?_ (by k_asm) (by walk_at "nn")
  exact congrArg List.reverse (digM_fin hp1 (by assumption) (of_decide_eq_false (by assumption)))
theorem words_14 : True := by
  k_with "tbl" => (first | decide | assumption | (simp only [smallT, greatT, List.length_cons, List.length_nil]; omega))
  k_with "call ref" => ((k_here; (with_reducible show wpAny _ _ (call (Value.ref 175) [Value.int _ _, Value.int _ _, Value.bytes _ _]) _ _ _); k_dflt (refine' c_digits_of (by walk_at "bi") (by walk_at "tbl") (by omega) (by omega) (by walk_at "tbl") (by omega) (by first | assumption | exact ⟨by omega⟩) (by walk_at "site") ?_); intro b9 t9 h9 tk9 hb9 F9 N9; (try dsimp only)))
  trivial
theorem reset_B4 : True ∧ True := by
  w_top off
  exact ⟨trivial, trivial⟩
theorem words_15 : True := by
  k_with "dirat" => (first | assumption | (refine DirAt.sub (by assumption) ?_; walk_at "sub") | exact ⟨_, _, _, _, _, _, _, _, _, by k_mem, by k_mem⟩)
  trivial
theorem c_has {x : Addr} {fb : Array UInt8} {flags : List Int} {wd lt fl : Int} {pr : Option Int} {t : Tok} (hD : DirAt w.params news x fb wd pr lt) (hfb : KBw.bInts fb = flags) (h0 : 0 ≤ fl) (h1 : fl < 256)
  (S : Site w A₀ base h₀ outer L s.heap m news loose mean mg mb cs dp un 2)
  (hret : CbRet h₀ L m news s Q (fun _ => .bool (flags.contains fl))) :
  wpAny (model PG w) (ktrTop dp un gd cn cs L a ccd cl outer) (call (.ref 196) [.ref x, .int fl t]) Q E s := by
  obtain ⟨B, F, X, N, T, hk, hdp, hun⟩ := S
  obtain ⟨dx, k1, k2, k3, k4, t1, t2, t3, t4, hx, hd⟩ := hD
  k_with "binds" => exact [(PySem.Str.ofString "self", .ref x), (PySem.Str.ofString "flag", .int fl t)]
  walk_at "enter"
  k_steps
  all_goals (exact hret 0 _ _ (by k_asm) (by walk_at "nn"))
theorem words_16 : True := by
  k_with "call ref" => ((k_here; (with_reducible show wpAny _ _ (call (Value.ref 196) [Value.ref _, Value.int _ _]) _ _ _); k_dflt (refine' c_has ?zD ?zB (by first | assumption | omega) (by first | assumption | omega) ?zS ?_; (case zS => walk_at "site"); (case zD => walk_at "dirat"); (case zB => walk_at "bi")); intro t9 h9 tk9 F9 N9; (try dsimp only)))
  trivial
theorem c_padded {x : Addr} {fb body : Array UInt8} {flags bs : List Int} {wd lt : Int} {pr : Option Int} {t : Tok} (hD : DirAt w.params news x fb wd pr lt) (hfb : KBw.bInts fb = flags) (hb : KBw.bInts body = bs) (h0 : 0 ≤ wd) (h1 : wd ≤ 100) (hz : bs.length ≤ 1000)
  (S : Site w A₀ base h₀ outer L s.heap m news loose mean mg mb cs dp un 4)
  (hret : BRet h₀ L m news s Q (padS flags wd bs)) :
  wpAny (model PG w) (ktrTop dp un gd cn cs L a ccd cl outer) (call (.ref 203) [.ref x, .bytes body t]) Q E s := by
  obtain ⟨B, F, X, N, T, hk, hdp, hun⟩ := S
  have hD' := hD
  obtain ⟨dx, k1, k2, k3, k4, t1, t2, t3, t4, hx, hd⟩ := hD'
  k_with "binds" => exact [(PySem.Str.ofString "self", .ref x), (PySem.Str.ofString "body", .bytes body t)]
  walk_at "enter"
  k_steps
  all_goals (rename KBw.bInts _ = _ ++ _ => hbx; refine bret hret hbx ?_ (by k_asm) (by walk_at "nn"))
  all_goals (simp only [padS, if_true, if_false, Bool.false_eq_true, *]; done)
theorem words_17 : True := by
  k_with "call ref" => ((k_here; (with_reducible show wpAny _ _ (call (Value.ref 203) [Value.ref _, Value.bytes _ _]) _ _ _); k_dflt (refine' c_padded ?zD ?zB ?zC ?z1 ?z2 ?z3 ?zS ?_; (case zS => walk_at "site"); (case zD => walk_at "dirat"); (case zB => walk_at "bi"); (case zC => walk_at "bi"); (case z1 => first | assumption | omega); (case z2 => first | assumption | omega); (case z3 => walk_at "sz")); intro b9 t9 h9 tk9 hb9 F9 N9; (try dsimp only)))
  trivial
theorem c_filled {x : Addr} {fb sb db : Array UInt8} {flags ss ds : List Int} {wd lt : Int} {pr : Option Int} {t u : Tok} (hD : DirAt w.params news x fb wd pr lt) (hfb : KBw.bInts fb = flags) (hs : KBw.bInts sb = ss) (hd9 : KBw.bInts db = ds) (h0 : 0 ≤ wd) (h1 : wd ≤ 100) (hz : ss.length ≤ 3) (hz2 : ds.length ≤ 300)
  (S : Site w A₀ base h₀ outer L s.heap m news loose mean mg mb cs dp un 6)
  (hret : BRet h₀ L m news s Q (fillS flags wd pr ss ds)) :
  wpAny (model PG w) (ktrTop dp un gd cn cs L a ccd cl outer) (call (.ref 210) [.ref x, .bytes sb t, .bytes db u]) Q E s := by
  obtain ⟨B, F, X, N, T, hk, hdp, hun⟩ := S
  rcases pr with _ | p
  all_goals
    have hD' := hD
    obtain ⟨dx, k1, k2, k3, k4, t1, t2, t3, t4, hx, hd⟩ := hD'
    simp only [optV] at hd
    k_with "binds" => exact [(PySem.Str.ofString "self", .ref x), (PySem.Str.ofString "sign", .bytes sb t), (PySem.Str.ofString "digits", .bytes db u)]
    walk_at "enter"
    k_steps
  all_goals (refine bret hret (by assumption) ?_ (by k_asm) (by walk_at "nn"))
  all_goals (unfold fillS; walk_at "fin")
theorem words_18 : True := by
  k_with "call ref" => ((k_here; (with_reducible show wpAny _ _ (call (Value.ref 210) [Value.ref _, Value.bytes _ _, Value.bytes _ _]) _ _ _); k_dflt (refine' c_filled ?zD ?zB ?zC ?zE ?z1 ?z2 ?z3 ?z4 ?zS ?_; (case zS => walk_at "site"); (case zD => walk_at "dirat"); (case zB => walk_at "bi"); (case zC => walk_at "bi"); (case zE => walk_at "bi"); (case z1 => first | assumption | omega); (case z2 => first | assumption | omega); (case z3 => walk_at "sz"); (case z4 => walk_at "sz")); intro b9 t9 h9 tk9 hb9 F9 N9; (try dsimp only)))
  trivial
theorem c_with_least {x : Addr} {fb db : Array UInt8} {ds : List Int} {wd lt n : Int} {pr : Option Int} {t u : Tok} (hD : DirAt w.params news x fb wd pr lt) (hd9 : KBw.bInts db = ds) (hp : ∀ p, pr = some p → 0 ≤ p ∧ p ≤ 100) (hz2 : ds.length ≤ 100)
  (S : Site w A₀ base h₀ outer L s.heap m news loose mean mg mb cs dp un 2)
  (hret : BRet h₀ L m news s Q (leastS pr n ds)) :
  wpAny (model PG w) (ktrTop dp un gd cn cs L a ccd cl outer) (call (.ref 217) [.ref x, .int n t, .bytes db u]) Q E s := by
  obtain ⟨B, F, X, N, T, hk, hdp, hun⟩ := S
  rcases pr with _ | p
  rotate_left
  obtain ⟨hp0, hp1⟩ := hp p rfl
  all_goals
    have hD' := hD
    obtain ⟨dx, k1, k2, k3, k4, t1, t2, t3, t4, hx, hd⟩ := hD'
    simp only [optV] at hd
    k_with "binds" => exact [(PySem.Str.ofString "self", .ref x), (PySem.Str.ofString "number", .int n t), (PySem.Str.ofString "digits", .bytes db u)]
    walk_at "enter"
    k_steps
  all_goals (first | refine bret hret (by assumption) ?_ (by k_asm) (by walk_at "nn") | refine bret hret (KBw.ints_list _) ?_ (by k_asm) (by walk_at "nn"))
  all_goals (unfold leastS; walk_at "fin")
theorem words_19 : True := by
  k_with "call ref" => ((k_here; (with_reducible show wpAny _ _ (call (Value.ref 217) [Value.ref _, Value.int _ _, Value.bytes _ _]) _ _ _); k_dflt (refine' c_with_least ?zD ?zB ?z1 ?z2 ?zS ?_; (case zS => walk_at "site"); (case zD => walk_at "dirat"); (case zB => walk_at "bi"); (case z1 => assumption); (case z2 => walk_at "sz")); intro b9 t9 h9 tk9 hb9 F9 N9; (try dsimp only)))
  trivial
theorem c_signed {x : Addr} {fb : Array UInt8} {flags : List Int} {wd lt n : Int} {pr : Option Int} {t : Tok} (hD : DirAt w.params news x fb wd pr lt) (hfb : KBw.bInts fb = flags) (hp : ∀ p, pr = some p → 0 ≤ p ∧ p ≤ 100) (h0 : 0 ≤ wd) (h1 : wd ≤ 100) (hn : PySem.Flt.Hid (n.natAbs < 2 ^ 65))
  (S : Site w A₀ base h₀ outer L s.heap m news loose mean mg mb cs dp un 8)
  (hret : BRet h₀ L m news s Q (signedS flags wd pr n)) :
  wpAny (model PG w) (ktrTop dp un gd cn cs L a ccd cl outer) (call (.ref 224) [.ref x, .int n t]) Q E s := by
  obtain ⟨B, F, X, N, T, hk, hdp, hun⟩ := S
  have hnn : PySem.Flt.Hid (((n.natAbs : Nat) : Int) < 2 ^ 65) := ⟨by have := hn.out; omega⟩
  have hD' := hD
  obtain ⟨dx, k1, k2, k3, k4, t1, t2, t3, t4, hx, hd⟩ := hD'
  have hdl : (digs ((n.natAbs : Nat) : Int) 10 smallT).length ≤ 65 := digs_len (by omega) hnn.out
  have hll : (leastS pr n (digs ((n.natAbs : Nat) : Int) 10 smallT)).length ≤ 300 := leastS_len hp hdl
  have hsl : (signS flags n).length ≤ 3 := signS_len
  k_with "cut" => ((with_reducible show wpAny _ _ (execs (PySem.Stmt.If _ _ _ ⟨160, _, _, _⟩ :: _) _) _ _ _); (try dsimp only); (refine cut (σ := Array UInt8 × Tok) (news := news) (fun c => [(PySem.Str.ofString "sign", .bytes c.1 c.2)]) [] (fun c => KBw.bInts c.1 = signS flags n) (by k_asm) ?_ ?_); rotate_left; (rintro ⟨sb, ts⟩ u h' tk e1 F1 N1; (try dsimp only at e1); (try dsimp only [kstB] at F1)); rotate_right; all_goals (try k_fold))
  k_with "cutE" => walk_at "cutE2"
  k_with "cutp" => (unfold signS; (try rw [KBw.ints_list]); walk_at "fin")
  k_with "binds" => exact [(PySem.Str.ofString "self", .ref x), (PySem.Str.ofString "number", .int n t)]
  walk_at "enter"
  k_steps
  all_goals (refine bret hret (by assumption) ?_ (by k_asm) (by walk_at "nn"))
  all_goals rfl
theorem words_20 : True := by
  k_with "call ref" => ((k_here; (with_reducible show wpAny _ _ (call (Value.ref 224) [Value.ref _, Value.int _ _]) _ _ _); k_dflt (refine' c_signed ?zD ?zB ?z1 ?z2 ?z3 ?z4 ?zS ?_; (case zS => walk_at "site"); (case zD => walk_at "dirat"); (case zB => walk_at "bi"); (case z1 => assumption); (case z2 => first | assumption | omega); (case z3 => first | assumption | omega); (case z4 => first | assumption | exact ⟨by omega⟩)); intro b9 t9 h9 tk9 hb9 F9 N9; (try dsimp only)))
  trivial
theorem c_unsigned {x : Addr} {fb : Array UInt8} {flags : List Int} {wd lt n : Int} {pr : Option Int} {t : Tok} (hD : DirAt w.params news x fb wd pr lt) (hfb : KBw.bInts fb = flags) (hp : ∀ p, pr = some p → 0 ≤ p ∧ p ≤ 100) (h0 : 0 ≤ wd) (h1 : wd ≤ 100) (hn0 : 0 ≤ n) (hn : PySem.Flt.Hid (n < 2 ^ 65)) (hl0 : 0 ≤ lt) (hl1 : lt < 256)
  (S : Site w A₀ base h₀ outer L s.heap m news loose mean mg mb cs dp un 8)
  (hret : BRet h₀ L m news s Q (unsignedS flags wd pr lt n)) :
  wpAny (model PG w) (ktrTop dp un gd cn cs L a ccd cl outer) (call (.ref 231) [.ref x, .int n t]) Q E s := by
  obtain ⟨B, F, X, N, T, hk, hdp, hun⟩ := S
  have hD' := hD
  obtain ⟨dx, k1, k2, k3, k4, t1, t2, t3, t4, hx, hd⟩ := hD'
  have hdl : ∀ tbl b, 2 ≤ b → (digs n b tbl).length ≤ 65 := fun tbl b hb => digs_len hb hn.out
  have hll : ∀ tbl b, 2 ≤ b → (leastS pr n (digs n b tbl)).length ≤ 299 := fun tbl b hb => leastS_len2 hp (hdl tbl b hb)
  have h8 := hdl smallT 8 (by omega)
  have h10 := hdl smallT 10 (by omega)
  have h16 := hdl smallT 16 (by omega)
  have h16g := hdl greatT 16 (by omega)
  have g8 := hll smallT 8 (by omega)
  have g10 := hll smallT 10 (by omega)
  have g16 := hll smallT 16 (by omega)
  have g16g := hll greatT 16 (by omega)
  clear hdl hll
  k_with "binds" => exact [(PySem.Str.ofString "self", .ref x), (PySem.Str.ofString "number", .int n t)]
  walk_at "enter"
  k_steps
  all_goals (refine bret hret (by assumption) ?_ (by k_asm) (by walk_at "nn"))
  all_goals (simp only [take_clip1, bne_iff_ne, ne_eq, Bool.not_eq_true, bne_eq_false_iff_eq] at *)
  all_goals (unfold unsignedS octS preS; first | walk_at "fin" | (simp only [Int.reduceEq, Int.reduceNe, if_true, if_false, reduceIte, Bool.false_eq_true, Bool.true_eq_false, List.cons_append, List.nil_append, List.map_nil, ne_eq, not_true_eq_false, not_false_eq_true, and_true, true_and, and_false, false_and, and_self, *]; done) | skip)
theorem words_21 : True := by
  k_with "call ref" => ((k_here; (with_reducible show wpAny _ _ (call (Value.ref 231) [Value.ref _, Value.int _ _]) _ _ _); k_dflt (refine' c_unsigned ?zD ?zB ?z1 ?z2 ?z3 ?z4 ?z5 ?z6 ?z7 ?zS ?_; (case zS => walk_at "site"); (case zD => walk_at "dirat"); (case zB => walk_at "bi"); (case z1 => assumption); (case z2 => first | assumption | omega); (case z3 => first | assumption | omega); (case z4 => first | assumption | omega); (case z5 => first | assumption | exact ⟨by omega⟩); (case z6 => first | assumption | omega); (case z7 => first | assumption | omega)); intro b9 t9 h9 tk9 hb9 F9 N9; (try dsimp only)))
  trivial
theorem reset_B5 : True ∧ True := by
  w_top off
  exact ⟨trivial, trivial⟩
theorem c_number_at {b : Array UInt8} {ks : List Int} {i₀ : Int} {t t2 : Tok} (hb : KBw.bInts b = ks) (hz : ks.length ≤ 100000) (h1 : 0 ≤ i₀) (h2 : i₀ ≤ ks.length) (S : Site w A₀ base h₀ outer L s.heap m news loose mean mg mb cs dp un 2)
  (hret : ∀ r t1 t2 h' tk', Fr h₀ L h' m → News h₀ L h' ((r, tupObj [.int (numAt ks i₀).1 t1, .int (numAt ks i₀).2 t2]) :: news) → AllLt r news → i₀ ≤ (numAt ks i₀).2 → (numAt ks i₀).2 ≤ ks.length → 0 ≤ (numAt ks i₀).1 → (numAt ks i₀).1 ≤ 99 → Q (.ref r) { s with heap := h', toks := tk' }) :
  wpAny (model PG w) (ktrTop dp un gd cn cs L a ccd cl outer) (call (.ref 259) [.bytes b t, .int i₀ t2]) Q E s := by
  obtain ⟨B, F, X, N, T, hk, hdp, hun⟩ := S
  k_with "binds" => exact [(PySem.Str.ofString "text", .bytes b t), (PySem.Str.ofString "at", .int i₀ t2)]
  walk_at "enter"
  k_steps
  all_goals (refine ret_tup2 (p := numAt ks i₀) (fun r t1 t2 h' tk' F N l => hret r t1 t2 h' tk' F N l (numAt_bd h1 h2).1 (numAt_bd h1 h2).2.1 (numAt_bd h1 h2).2.2.1 (numAt_bd h1 h2).2.2.2) ?_ (by k_asm) (by k_asm) (by assumption))
  all_goals (simp only [numAt, numStep, and_self, true_and, and_true, if_true, if_false, Bool.false_eq_true, and_false, false_and, *])
theorem words_22 : True := by
  k_with "call ref" => ((k_here; (with_reducible show wpAny _ _ (call (Value.ref 259) [Value.bytes _ _, Value.int _ _]) _ _ _); k_dflt (refine' c_number_at ?zB ?z1 ?z2 ?z3 ?zS ?_; (case zS => walk_at "site"); (case zB => walk_at "bi"); (case z1 => walk_at "sz"); (case z2 => first | assumption | omega); (case z3 => walk_at "sz")); intro r9 t9 u9 h9 tk9 F9 N9 l9 nb9 nc9 nd9 ne9; (try dsimp only)))
  trivial
theorem c_Directive {fb : Array UInt8} {wd lt : Int} {pv : Value} {t1 t2 t4 : Tok} (S : Site w A₀ base h₀ outer L s.heap m news loose mean mg mb cs dp un 3)
  (hret : ∀ x dx k1 k2 k3 k4 h' tk', Fr h₀ L h' m → News h₀ L h' ((x, instObj 248 dx) :: (dx, dirObj w.params k1 k2 k3 k4 (.bytes fb t1) (.int wd t2) pv (.int lt t4)) :: news) → AllLt dx news → dx < x → Q (.ref x) { s with heap := h', toks := tk' }) :
  wpAny (model PG w) (ktrTop dp un gd cn cs L a ccd cl outer) (call (.ref 248) [.bytes fb t1, .int wd t2, pv, .int lt t4]) Q E s := by
  obtain ⟨B, F, X, N, T, hk, hdp, hun⟩ := S
  k_dflt (refine' call_cls ?k1 ?k2 ?k3 ?k4 ?k5 ?k6 ?_; (case k1 => k_asm); (case k2 => k_asm); (case k3 => k_asm); (case k4 => k_is); (case k5 => k_is); (case k6 => k_is); k_whole)
  intro x' d' h1 F1 N1 l1 l2
  (try k_lt l1)
  (try k_lt2 l2)
  (try k_sweep)
  k_dflt (refine' code_def (binds := [(PySem.Str.ofString "self", .ref x'), (PySem.Str.ofString "flags", .bytes fb t1), (PySem.Str.ofString "width", .int wd t2), (PySem.Str.ofString "precision", pv), (PySem.Str.ofString "letter", .int lt t4)]) ?k1 ?k2 ?k3 ?k4 ?k5 ?kA ?kF ?kK ?k6 ?k7 ?k8 ?k9 ?kB ?_ ?c2 ?c3 ?c4 ?c5; (case kA => exact rfl); (case kF => exact rfl); (case kK => assumption); (case k1 => k_asm); (case k2 => k_asm); (case k3 => k_asm); (case k4 => k_asm); (case k5 => k_asm); (case k6 => k_is); (case k7 => k_is); (case k8 => (show dp + 1 < recursionLimit; omega)); (case k9 => exact BindsTo.of_eq rfl); (case c5 => decide); (case kB => exact locs rfl); (case c2 => exact rfl); (case c3 => exact rfl); (case c4 => exact rfl); k_whole; intro g' L' h' FG' F' N' B' X' T'; (try dsimp only); (try k_fold))
  k_steps
  rename News h₀ _ _ _ => kN
  exact hret x' d' _ _ _ _ _ _ (by k_asm) kN (allLt_of l1) l2
theorem words_23 : True := by
  k_with "call ref" => ((k_here; (with_reducible show wpAny _ _ (call (Value.ref 248) [Value.bytes _ _, Value.int _ _, _, Value.int _ _]) _ _ _); k_dflt (refine' c_Directive (by walk_at "site") ?_); intro x9 y9 t9 u9 v9 w9 h9 tk9 F9 N9 l9 m9; (try dsimp only)))
  trivial
theorem c_read_directive {b : Array UInt8} {ks : List Int} {i₀ : Int} {t t2 : Tok} (hb : KBw.bInts b = ks) (hz : ks.length ≤ 100000) (h1 : 0 ≤ i₀) (h2 : i₀ ≤ ks.length)
  (hfl : flagE ks i₀ ≤ i₀ + 5) (hend : (prOf ks i₀).2 < ks.length) (hnd : isDigit (ks.getD (prOf ks i₀).2.toNat 0) = false)
  (S : Site w A₀ base h₀ outer L s.heap m news loose mean mg mb cs dp un 4)
  (hret : ∀ r x dx fb k1 k2 k3 k4 t1 t2 t3 t4 t5 h' tk', KBw.bInts fb = flagsOf ks i₀ → Fr h₀ L h' m → News h₀ L h' ((r, tupObj [.ref x, .int ((prOf ks i₀).2 + 1) t5, .none]) :: (x, instObj 248 dx) :: (dx, dirObj w.params k1 k2 k3 k4 (.bytes fb t1) (.int (wdOf ks i₀).1 t2) (optV (prOf ks i₀).1 t3) (.int (ks.getD (prOf ks i₀).2.toNat 0) t4)) :: news) → Q (.ref r) { s with heap := h', toks := tk' }) :
  wpAny (model PG w) (ktrTop dp un gd cn cs L a ccd cl outer) (call (.ref 266) [.bytes b t, .int i₀ t2]) Q E s := by
  obtain ⟨B, F, X, N, T, hk, hdp, hun⟩ := S
  have hfe := flagE_bd (ks := ks) h1 h2
  have hfll : (flagsOf ks i₀).length ≤ 5 := by have := flagsOf_len (ks := ks) (i := i₀); omega
  have hpb : 0 ≤ (prOf ks i₀).2 := by
    unfold prOf wdOf
    have ha := numAt_bd (ks := ks) (i := flagE ks i₀) (by omega) (by omega)
    split
    · have hb := numAt_bd (ks := ks) (i := (numAt ks (flagE ks i₀)).2 + 1) (by omega) (by omega)
      dsimp only; omega
    · dsimp only; omega
  k_with "cut" => ((with_reducible show wpAny _ _ (execs (PySem.Stmt.Assign _ _ ⟨200, _, _, _⟩ :: _) _) _ _ _); (try dsimp only); (refine cut (σ := Int × Tok × Array UInt8 × Tok) (news := news) (fun c => [(PySem.Str.ofString "at", .int c.1 c.2.1), (PySem.Str.ofString "flags", .bytes c.2.2.1 c.2.2.2)]) [] (fun c => c.1 = flagE ks i₀ ∧ KBw.bInts c.2.2.1 = flagsOf ks i₀) (by k_asm) ?_ ?_); rotate_left; (rintro ⟨i1, t1, fb, t2⟩ u h' tk ⟨e1, e2⟩ F1 N1; (try dsimp only at e1 e2); subst e1; (try dsimp only [kstB] at F1)); rotate_right; all_goals (try k_fold))
  k_with "cut" => ((with_reducible show wpAny _ _ (execs (PySem.Stmt.If _ _ _ ⟨205, _, _, _⟩ :: _) _) _ _ _); (try dsimp only); (refine cut (σ := Int × Tok × Tok) (news := news) (fun c => [(PySem.Str.ofString "at", .int c.1 c.2.1), (PySem.Str.ofString "precision", optV (prOf ks i₀).1 c.2.2)]) [] (fun c => c.1 = (prOf ks i₀).2) (by k_asm) ?_ ?_); rotate_left; (rintro ⟨i1, t1, t2⟩ u h' tk e1 F1 N1; (try dsimp only at e1); subst e1; (try dsimp only [kstB] at F1)); rotate_right; all_goals (try k_fold))
  k_with "cutE" => first | walk_at "cutE4" | ((first | simp only [prOf_pos (ks := ks) (i := i₀) (by assumption) (by assumption), optV] | simp only [prOf_neg (ks := ks) (i := i₀) (by assumption), optV] | simp only [prOf_end (ks := ks) (i := i₀) (by assumption), optV]); first | walk_at "cutE3" | (rename News _ _ _ _ => nE'; refine cut_end ⟨_, _, 0⟩ (by assumption) nE' (by walk_at "sub") (by kst_all) (by ksw_same) (by k_extra "cutp")))
  k_with "cutp" => (have hs := flag_fix (by assumption) (by omega) (by intro h9; first | assumption | omega); exact ⟨hs, by refine Eq.trans (by assumption) ?_; rw [hs]; exact flags_cut h1 h2⟩)
  k_with "cutp" => rfl
  k_with "while" => k_while (fun _ i => flagE ks i = flagE ks i₀ ∧ i₀ ≤ i ∧ i ≤ ks.length) (fun _ i => (ks.length - i).toNat) "at"
  k_with "state" => first | exact ⟨rfl, by omega, by omega⟩ | exact ⟨(flagE_step (by omega) (by assumption) (by assumption)).trans (by assumption), by omega, by omega⟩
  k_with "binds" => exact [(PySem.Str.ofString "text", .bytes b t), (PySem.Str.ofString "at", .int i₀ t2)]
  walk_at "enter"
  k_steps
  all_goals first
    | exact hret _ _ _ _ _ _ _ _ _ _ _ _ _ _ _ (by assumption) (by k_asm) (by walk_at "nn")
    | (exfalso; revert hfll; rename (_ < ((flagsOf ks i₀).length : Int)) => hx9; simp only [List.size_toArray, List.length_cons, List.length_nil] at hx9; omega)
theorem words_24 : True := by
  k_with "call ref" => ((k_here; (with_reducible show wpAny _ _ (call (Value.ref 266) [Value.bytes _ _, Value.int _ _]) _ _ _); k_dflt (refine' c_read_directive ?zB ?z1 ?z2 ?z3 ?z4 ?z5 ?z6 ?zS ?_; (case zS => walk_at "site"); (case zB => walk_at "bi"); (case z1 => walk_at "sz"); (case z2 => first | assumption | omega); (case z3 => walk_at "sz"); (case z4 => assumption); (case z5 => assumption); (case z6 => assumption)); intro r9 x9 y9 fb9 ka9 kb9 kc9 kd9 ta9 tb9 tc9 td9 te9 h9 tk9 hf9 F9 N9; (try dsimp only)))
  trivial
theorem reset_B6 : True ∧ True := by
  w_top off
  exact ⟨trivial, trivial⟩
local macro_rules | `(tactic| is_list) => `(tactic| exact isListOf (by k_asm) (by first | assumption | (apply List.Mem.tail; assumption) | (apply List.Mem.tail; apply List.Mem.tail; assumption)))
theorem words_25 : True := by
  k_with "plat" => (first | assumption | (refine PlAt.sub (by assumption) ?_; walk_at "sub") | exact ⟨_, _, _, _, _, _, by k_mem, by k_mem, by k_mem⟩)
  k_with "subscriptTail" => (((with_reducible show wpAny _ _ (subscriptTail _ _ (Value.ref _) (Value.int (2 - 2) _)) _ _ _); change wpAny _ _ (subscriptTail _ _ (Value.ref _) (Value.int 0 _)) _ _ _))
  trivial
theorem c_value {x lx : Addr} {n : Int} {t : Tok} (hP : PlAt w.params news x n lx)
  (S : Site w A₀ base h₀ outer L s.heap m news loose mean mg mb cs dp un 2)
  (hret : CbRet h₀ L m news s Q (.int n)) :
  wpAny (model PG w) (ktrTop dp un gd cn cs L a ccd cl outer) (call (.ref 287) [.ref x, .int 2 t]) Q E s := by
  obtain ⟨B, F, X, N, T, hk, hdp, hun⟩ := S
  obtain ⟨dx, k1, k2, vx, tn, ep, hx, hd, hv⟩ := hP
  k_with "binds" => exact [(PySem.Str.ofString "self", .ref x), (PySem.Str.ofString "number", .int 2 t)]
  walk_at "enter"
  k_steps
  exact hret _ _ _ (by k_asm) (by walk_at "nn")
theorem words_26 : True := by
  k_with "call ref" => ((k_here; (with_reducible show wpAny _ _ (call (Value.ref 287) [Value.ref _, Value.int 2 _]) _ _ _); k_dflt (refine' c_value ?zP ?zS ?_; (case zS => walk_at "site"); (case zP => walk_at "plat")); intro t9 h9 tk9 F9 N9; (try dsimp only)))
  trivial
theorem c_integer {x lx : Addr} {n : Int} {t : Tok} (hP : PlAt w.params news x n lx)
  (S : Site w A₀ base h₀ outer L s.heap m news loose mean mg mb cs dp un 4)
  (hret : CbRet h₀ L m news s Q (.int n)) :
  wpAny (model PG w) (ktrTop dp un gd cn cs L a ccd cl outer) (call (.ref 294) [.ref x, .int 2 t]) Q E s := by
  obtain ⟨B, F, X, N, T, hk, hdp, hun⟩ := S
  obtain ⟨dx, k1, k2, vx, tn, ep, hx, hd, hv⟩ := id hP
  k_with "binds" => exact [(PySem.Str.ofString "self", .ref x), (PySem.Str.ofString "number", .int 2 t)]
  walk_at "enter"
  k_steps
  exact hret _ _ _ (by k_asm) (by walk_at "nn")
theorem words_27 : True := by
  k_with "call ref" => ((k_here; (with_reducible show wpAny _ _ (call (Value.ref 294) [Value.ref _, Value.int 2 _]) _ _ _); k_dflt (refine' c_integer ?zP ?zS ?_; (case zS => walk_at "site"); (case zP => walk_at "plat")); intro t9 h9 tk9 F9 N9; (try dsimp only)))
  trivial
theorem c_item_sgn {x y lx : Addr} {fb : Array UInt8} {flags : List Int} {wd lt n bits : Int} {pr : Option Int} {t : Tok} (hD : DirAt w.params news x fb wd pr lt) (hP : PlAt w.params news y n lx) (hlim : LimAt news lx bits) (hfb : KBw.bInts fb = flags) (hp : ∀ p, pr = some p → 0 ≤ p ∧ p ≤ 100) (h0 : 0 ≤ wd) (h1 : wd ≤ 100) (hn : PySem.Flt.Hid (n.natAbs < 2 ^ 65)) (hl : lt = 100 ∨ lt = 105)
  (S : Site w A₀ base h₀ outer L s.heap m news loose mean mg mb cs dp un 9)
  (hret : BRet h₀ L m news s Q (signedS flags wd pr n)) :
  wpAny (model PG w) (ktrTop dp un gd cn cs L a ccd cl outer) (call (.ref 322) [.ref x, .ref y, .int 2 t]) Q E s := by
  obtain ⟨B, F, X, N, T, hk, hdp, hun⟩ := S
  obtain ⟨dx, k1, k2, k3, k4, t1, t2, t3, t4, hx, hd⟩ := id hD
  obtain ⟨dy, j1, j2, vx, tn, ep, hy, hdy, hvy⟩ := id hP
  have hc1 : [100, 105].contains lt = true := by rcases hl with rfl | rfl <;> rfl
  k_with "binds" => exact [(PySem.Str.ofString "told", .ref x), (PySem.Str.ofString "arguments", .ref y), (PySem.Str.ofString "number", .int 2 t)]
  walk_at "enter"
  k_steps
  refine bret hret (by assumption) rfl (by k_asm) (by walk_at "nn")
theorem fmod_pow {n : Int} {k : Nat} : n.fmod (1 * 2 ^ k) = n % 2 ^ k := by
  have h : (0 : Int) < 2 ^ k := Int.pow_pos (by omega)
  rw [Int.one_mul, Int.fmod_eq_emod_of_nonneg _ (by omega)]
theorem fmod_pow_bd {n : Int} {k : Nat} (hk : k ≤ 64) : 0 ≤ n.fmod (1 * 2 ^ k) ∧ n.fmod (1 * 2 ^ k) < 2 ^ 65 := by
  have h : (0 : Int) < 2 ^ k := Int.pow_pos (by omega)
  rw [fmod_pow]
  refine ⟨Int.emod_nonneg _ (by omega), Int.lt_of_lt_of_le (Int.emod_lt_of_pos _ h) ?_⟩
  exact_mod_cast Nat.pow_le_pow_right (n := 2) (by omega) (by omega : k ≤ 65)
theorem c_item_uns {x y lx : Addr} {fb : Array UInt8} {flags : List Int} {wd lt n bits : Int} {pr : Option Int} {t : Tok} (hD : DirAt w.params news x fb wd pr lt) (hP : PlAt w.params news y n lx) (hlim : LimAt news lx bits) (hfb : KBw.bInts fb = flags) (hp : ∀ p, pr = some p → 0 ≤ p ∧ p ≤ 100) (h0 : 0 ≤ wd) (h1 : wd ≤ 100) (hb1 : 1 ≤ bits) (hb2 : bits ≤ 64) (hl : lt = 117 ∨ lt = 111 ∨ lt = 120 ∨ lt = 88)
  (S : Site w A₀ base h₀ outer L s.heap m news loose mean mg mb cs dp un 9)
  (hret : BRet h₀ L m news s Q (unsignedS flags wd pr lt (n % 2 ^ bits.toNat))) :
  wpAny (model PG w) (ktrTop dp un gd cn cs L a ccd cl outer) (call (.ref 322) [.ref x, .ref y, .int 2 t]) Q E s := by
  obtain ⟨B, F, X, N, T, hk, hdp, hun⟩ := S
  obtain ⟨dx, k1, k2, k3, k4, t1, t2, t3, t4, hx, hd⟩ := id hD
  obtain ⟨dy, j1, j2, vx, tn, ep, hy, hdy, hvy⟩ := id hP
  have hq := fmod_pow_bd (n := n) (k := bits.toNat) (by omega)
  have hq0 := hq.1
  have hq1 : PySem.Flt.Hid (n.fmod (1 * 2 ^ bits.toNat) < 2 ^ 65) := ⟨hq.2⟩
  clear hq
  have hc1 : [100, 105].contains lt = false := by rcases hl with rfl | rfl | rfl | rfl <;> rfl
  have hc2 : [117, 111, 120, 88].contains lt = true := by rcases hl with rfl | rfl | rfl | rfl <;> rfl
  k_with "binds" => exact [(PySem.Str.ofString "told", .ref x), (PySem.Str.ofString "arguments", .ref y), (PySem.Str.ofString "number", .int 2 t)]
  walk_at "enter"
  k_steps
  refine bret hret (by assumption) (by rw [fmod_pow]) (by k_asm) (by walk_at "nn")

theorem reset_D1 : True ∧ True := by
  w_top off
  exact ⟨trivial, trivial⟩
theorem smallT_dec {r : Int} (h : 0 ≤ r) : (48 : Int) + r.fmod 10 = smallT.getD (r.fmod 10).toNat 0 := by
  have hb := fmod_bd (a := r) (b := 10) (by omega)
  generalize r.fmod 10 = k at hb
  obtain ⟨k, rfl⟩ := Int.eq_ofNat_of_zero_le hb.1
  have : k < 10 := by omega
  rcases k with _ | _ | _ | _ | _ | _ | _ | _ | _ | _ | k <;> first | rfl | omega
theorem smallT_in : KBa.In smallT := bints_In bi_small
theorem dig10_step {found : List Int} {rest n : Int} (h0 : 0 ≤ rest) (h : 0 < rest ∨ found = []) (hp : digM smallT 10 found rest.toNat = digD smallT 10 n.toNat) (hi : KBa.In found) :
    digM smallT 10 (found ++ [48 + rest.fmod 10]) (rest.fdiv 10).toNat = digD smallT 10 n.toNat ∧ 0 ≤ rest.fdiv 10 ∧ KBa.In (found ++ [48 + rest.fmod 10]) := by
  rw [smallT_dec h0]
  exact digM_stepI (tbl := smallT) (bs := 10) (n := n) (by omega) h0 h smallT_in hp hi
theorem c_law_decimal {n : Int} {t1 : Tok} (hn : 0 ≤ n) (hn2 : PySem.Flt.Hid (n < 2 ^ 65))
  (S : Site w A₀ base h₀ outer L s.heap m news loose mean mg mb cs dp un 2)
  (hret : BRet h₀ L m news s Q (digs n 10 smallT)) :
  wpAny (model PG w) (ktrTop dp un gd cn cs L a ccd cl outer) (call (.ref 357) [.int n t1]) Q E s := by
  obtain ⟨B, F, X, N, T, hk, hdp, hun⟩ := S
  k_with "binds" => exact [(PySem.Str.ofString "n", .int n t1)]
  k_with "while" => ((rename Fr _ _ _ _ => lF'); (rename News _ _ _ _ => lN'); (refine ksw_while (σ := List Value × List Int × Nat × Int × Tok) (fun c => (_, listOf c.1.toArray c.2.2.1) :: news) (fun c => [(PySem.Str.ofString "n", .int c.2.2.2.1 c.2.2.2.2)]) (fun c => IntsAre c.1 c.2.1) [] (fun c => digM smallT 10 c.2.1 c.2.2.2.1.toNat = digD smallT 10 n.toNat ∧ 0 ≤ c.2.2.2.1 ∧ KBa.In c.2.1) (fun c => c.2.2.2.1.toNat + (if c.2.1 = [] then 1 else 0)) ([], [], 0, n, t1) lF' lN' ?_ ?_ ?_ ?_); (exact IntsAre.nil); (exact List.forall_mem_cons.mpr ⟨rfl, List.forall_mem_nil _⟩); (exact ⟨digM_start, by omega, by (intro k hk; cases hk)⟩); (clear lF' lN'; rintro ⟨vs, ns, ep, rest, tkr⟩ u h tkk hf ⟨hp1, hp2, hp3⟩ F1 N1; (dsimp only at hf hp1 hp2 hp3); (dsimp only [kstB] at F1); (dsimp only at N1); (have hv9 : vs.length ≤ 65 := by (rw [hf.length]; exact digM_bd (by omega) (by have := hn2.out; omega) hp1)); (have hn9 : ns.length ≤ 65 := by (rw [← hf.length]; exact hv9)); (have hrv := ints_rev hf); (have hir : KBa.In ns.reverse := fun k hk => hp3 k (List.mem_reverse.mp hk)); (try k_fold)))
  k_with "state" => first | exact ⟨digM_start, by omega, by (intro k hk; cases hk)⟩ | exact dig10_step (by assumption) (Or.inl (by assumption)) (by assumption) (by assumption) | exact dig10_step (by assumption) (Or.inr (of_decide_eq_true (by assumption))) (by assumption) (by assumption)
  k_with "measure" => first | exact dig_meas (bs := 10) (by omega) (by assumption) (Or.inl (by assumption)) | exact dig_meas (bs := 10) (by omega) (by assumption) (Or.inr (of_decide_eq_true (by assumption)))
  walk_at "enter"
  k_steps
  rename digM _ _ _ _ = _ => hp1
  refine bret hret (KBa.ints_make (by assumption)) ?_ (by k_asm) (by walk_at "nn")
  exact congrArg List.reverse (digM_fin hp1 (by assumption) (of_decide_eq_false (by assumption)))
theorem words_28 : True := by
  k_with "call ref" => ((k_here; (with_reducible show wpAny _ _ (call (Value.ref 357) [Value.int _ _]) _ _ _); k_dflt (refine' c_law_decimal (by omega) (by first | assumption | exact ⟨by omega⟩) (by walk_at "site") ?_); intro b9 t9 h9 tk9 hb9 F9 N9; (try dsimp only)))
  trivial
theorem reset_D2 : True ∧ True := by
  w_top off
  exact ⟨trivial, trivial⟩
theorem c_text_eq {b : Array UInt8} {ks : List Int} {bs wd : Int} {t t2 : Tok} {lx : Addr} {o : Option Int} (he : textIn ks bs wd = o) (hb : KBw.bInts b = ks) (hz : ks.length ≤ 100000) (h3 : 0 ≤ bs) (h4 : bs ≤ 16) (h5 : 1 ≤ wd) (h6 : wd ≤ 64)
  (hlim : LimAt news lx wd)
  (S : Site w A₀ base h₀ outer L s.heap m news loose mean mg mb cs dp un 3)
  (hret : CbRet h₀ L m news s Q (optV o)) :
  wpAny (model PG w) (ktrTop dp un gd cn cs L a ccd cl outer) (call (.ref 126) [.bytes b t, .int bs t2, .ref lx]) Q E s := c_text_in_base hb hz h3 h4 h5 h6 hlim S (he ▸ hret)
theorem c_str_eq {b : Array UInt8} {ks : List Int} {wd : Int} {t : Tok} {lx : Addr} {o : Option Int} (he : textIn ks 0 wd = o) (hb : KBw.bInts b = ks) (hz : ks.length ≤ 100000) (h5 : 1 ≤ wd) (h6 : wd ≤ 64)
  (hlim : LimAt news lx wd)
  (S : Site w A₀ base h₀ outer L s.heap m news loose mean mg mb cs dp un 4)
  (hret : CbRet h₀ L m news s Q (optV o)) :
  wpAny (model PG w) (ktrTop dp un gd cn cs L a ccd cl outer) (call (.ref 119) [.bytes b t, .ref lx]) Q E s := c_str_to_number hb hz h5 h6 hlim S (he ▸ hret)
theorem words_29 : True := by
  k_with "call ref" => ((k_here; (with_reducible show wpAny _ _ (call (Value.ref 126) [Value.bytes _ _, Value.int _ _, Value.ref _]) _ _ _); k_dflt (refine' c_text_eq (by assumption) (by walk_at "bi") (by walk_at "sz") (by first | assumption | omega) (by first | assumption | omega) (by first | assumption | omega) (by first | assumption | omega) ?zL ?zS ?_); (case zS => walk_at "site"); (case zL => walk_at "limat"); intro t9 h9 tk9 F9 N9; (try dsimp only [optV])))
  k_with "call ref" => ((k_here; (with_reducible show wpAny _ _ (call (Value.ref 119) [Value.bytes _ _, Value.ref _]) _ _ _); k_dflt (refine' c_str_eq (by assumption) (by walk_at "bi") (by walk_at "sz") (by first | assumption | omega) (by first | assumption | omega) ?zL ?zS ?_); (case zS => walk_at "site"); (case zL => walk_at "limat"); intro t9 h9 tk9 F9 N9; (try dsimp only [optV])))
  trivial
def dueS (nothing : Bool) (n : Int) : Option Int := if nothing = true then none else some n
theorem c_back_true {b : Array UInt8} {ks : List Int} {n bs wd : Int} {t t2 t3 : Tok} {lx : Addr} (hb : KBw.bInts b = ks) (hz : ks.length ≤ 100000) (h3 : 0 ≤ bs) (h4 : bs ≤ 16) (h5 : 1 ≤ wd) (h6 : wd ≤ 64)
  (he : textIn ks bs wd = none) (he2 : bs = 10 → textIn ks 0 wd = none)
  (hlim : LimAt news lx wd)
  (S : Site w A₀ base h₀ outer L s.heap m news loose mean mg mb cs dp un 6)
  (hret : CbRet h₀ L m news s Q (fun _ => .bool true)) :
  wpAny (model PG w) (ktrTop dp un gd cn cs L a ccd cl outer) (call (.ref 371) [.bytes b t, .int n t2, .int bs t3, .bool true, .ref lx]) Q E s := by
  obtain ⟨B, F, X, N, T, hk, hdp, hun⟩ := S
  by_cases hbs : bs = 10
  all_goals
    first | replace he2 := he2 hbs | skip
    k_with "binds" => exact [(PySem.Str.ofString "came_out", .bytes b t), (PySem.Str.ofString "n", .int n t2), (PySem.Str.ofString "base", .int bs t3), (PySem.Str.ofString "is_nothing", .bool true), (PySem.Str.ofString "limits", .ref lx)]
    walk_at "enter"
    k_steps
    all_goals first
      | (exfalso; omega)
      | (refine cb_retB hret ?_ (by k_asm) (by k_asm); first | rfl | (simp only [bne_iff_ne, ne_eq, beq_self_eq_true, not_false_eq_true, *]; done))
theorem c_back_false {b : Array UInt8} {ks : List Int} {n bs wd : Int} {t t2 t3 : Tok} {lx : Addr} (hb : KBw.bInts b = ks) (hz : ks.length ≤ 100000) (h3 : 0 ≤ bs) (h4 : bs ≤ 16) (h5 : 1 ≤ wd) (h6 : wd ≤ 64)
  (he : textIn ks bs wd = some n) (he2 : bs = 10 → textIn ks 0 wd = some n)
  (hlim : LimAt news lx wd)
  (S : Site w A₀ base h₀ outer L s.heap m news loose mean mg mb cs dp un 6)
  (hret : CbRet h₀ L m news s Q (fun _ => .bool true)) :
  wpAny (model PG w) (ktrTop dp un gd cn cs L a ccd cl outer) (call (.ref 371) [.bytes b t, .int n t2, .int bs t3, .bool false, .ref lx]) Q E s := by
  obtain ⟨B, F, X, N, T, hk, hdp, hun⟩ := S
  by_cases hbs : bs = 10
  all_goals
    first | replace he2 := he2 hbs | skip
    k_with "binds" => exact [(PySem.Str.ofString "came_out", .bytes b t), (PySem.Str.ofString "n", .int n t2), (PySem.Str.ofString "base", .int bs t3), (PySem.Str.ofString "is_nothing", .bool false), (PySem.Str.ofString "limits", .ref lx)]
    walk_at "enter"
    k_steps
    all_goals first
      | (exfalso; omega)
      | (refine cb_retB hret ?_ (by k_asm) (by k_asm); first | rfl | (simp only [bne_iff_ne, ne_eq, beq_self_eq_true, not_false_eq_true, *]; done))
theorem c_law_is_back {b : Array UInt8} {ks : List Int} {n bs wd : Int} {nothing : Bool} {t t2 t3 : Tok} {lx : Addr} (hb : KBw.bInts b = ks) (hz : ks.length ≤ 100000) (h3 : 0 ≤ bs) (h4 : bs ≤ 16) (h5 : 1 ≤ wd) (h6 : wd ≤ 64)
  (he : textIn ks bs wd = dueS nothing n) (he2 : bs = 10 → textIn ks 0 wd = dueS nothing n)
  (hlim : LimAt news lx wd)
  (S : Site w A₀ base h₀ outer L s.heap m news loose mean mg mb cs dp un 6)
  (hret : CbRet h₀ L m news s Q (fun _ => .bool true)) :
  wpAny (model PG w) (ktrTop dp un gd cn cs L a ccd cl outer) (call (.ref 371) [.bytes b t, .int n t2, .int bs t3, .bool nothing, .ref lx]) Q E s := by
  cases nothing
  · exact c_back_false hb hz h3 h4 h5 h6 he he2 hlim S hret
  · exact c_back_true hb hz h3 h4 h5 h6 he he2 hlim S hret
theorem words_30 : True := by
  k_with "call ref" => ((k_here; (with_reducible show wpAny _ _ (call (Value.ref 371) [Value.bytes _ _, Value.int _ _, Value.int _ _, Value.bool _, Value.ref _]) _ _ _); k_dflt (refine' c_law_is_back ?zB ?z1 ?z2 ?z3 ?z4 ?z5 ?z6 ?z7 ?zL ?zS ?_; (case zS => walk_at "site"); (case zL => walk_at "limat"); (case zB => walk_at "bi"); (case z1 => walk_at "sz"); (case z2 => first | assumption | omega); (case z3 => first | assumption | omega); (case z4 => first | assumption | omega); (case z5 => first | assumption | omega); (case z6 => with_reducible assumption); (case z7 => with_reducible assumption)); intro t9 h9 tk9 F9 N9; (try dsimp only)))
  trivial
theorem reset_D3 : True ∧ True := by
  w_top off
  exact ⟨trivial, trivial⟩
local macro_rules | `(tactic| is_list) => `(tactic| exact isListOf (by k_asm) (by first | assumption | (apply List.Mem.tail; assumption) | (apply List.Mem.tail; apply List.Mem.tail; assumption)))
theorem words_31 : True := by
  k_with "compareOp In int ref" => ((k_here; k_dflt (refine' in_listF ?k1 ?k2 ?_; (case k1 => is_list); (case k2 => assumption))))
  k_with "compareOp NotIn int ref" => ((k_here; k_dflt (refine' notin_listF ?k1 ?k2 ?_; (case k1 => is_list); (case k2 => assumption))))
  k_with "tb1" => (exact isTupOf (by k_asm) (.head _))
  k_with "tb3" => (((repeat (refine List.forall_mem_cons.mpr ⟨⟨_, _, rfl⟩, ?_⟩)); exact List.forall_mem_nil _))
  k_with "compareOp In bytes ref" => ((k_here; (with_reducible show wpAny _ _ (compareOp CmpOp.In (Value.bytes _ _) (Value.ref _)) _ _ _); (refine in_tupB (by walk_at "tb1") (by walk_at "bi") (by walk_at "tb3") ?_); (try simp only [List.any_cons, List.any_nil, bytesIn, KBw.ints_list, List.map_cons, List.map_nil, UInt8.reduceToNat, Int.cast_ofNat_Int, take_clip1, take_clip2])))
  k_with "sz" => (((simp only [List.length_take, List.length_drop, List.length_map, List.length_append, List.length_cons, List.length_nil, List.length_replicate, List.length_reverse]); omega))
  trivial
theorem c_stands_none {b c : Array UInt8} {ks ls fl : List Int} {wd : Int} {t t2 t3 : Tok} {fa : Addr} {vs : List Value} {ep : Nat} (hb : KBw.bInts b = ks) (hc : KBw.bInts c = ls) (hz : ks.length ≤ 1000) (hz2 : ls.length ≤ 1000) (h5 : 0 ≤ wd) (h6 : wd ≤ 100)
  (hfl : (fa, listOf vs.toArray ep) ∈ news) (hfi : IntsAre vs fl)
  (S : Site w A₀ base h₀ outer L s.heap m news loose mean mg mb cs dp un 6)
  (hret : CbRet h₀ L m news s Q (fun _ => .bool (standsS ks ls fl wd none))) :
  wpAny (model PG w) (ktrTop dp un gd cn cs L a ccd cl outer) (call (.ref 378) [.bytes b t, .bytes c t2, .ref fa, .int wd t3, .none]) Q E s := by
  obtain ⟨B, F, X, N, T, hk, hdp, hun⟩ := S
  k_with "binds" => exact [(PySem.Str.ofString "came_out", .bytes b t), (PySem.Str.ofString "bare", .bytes c t2), (PySem.Str.ofString "flags", .ref fa), (PySem.Str.ofString "width", .int wd t3), (PySem.Str.ofString "least", .none)]
  walk_at "enter"
  k_steps
  all_goals (refine cb_retB hret ?_ (by k_asm) (by walk_at "nn"))
  all_goals (unfold standsS signsS; (try simp only [take_dropAll]); (try simp only [take_clip0, take_clip1, take_clip2, drop_clip0, drop_clip1, drop_clip2]); simp only [if_true, if_false, reduceIte, Bool.false_eq_true, Bool.true_eq_false, Option.isSome_none, Option.isSome_some, ne_eq, not_true_eq_false, not_false_eq_true, or_true, true_or, or_false, false_or, List.take_zero, List.drop_zero, *]; done)
theorem c_stands_some {b c : Array UInt8} {ks ls fl : List Int} {wd p : Int} {t t2 t3 t4 : Tok} {fa : Addr} {vs : List Value} {ep : Nat} (hb : KBw.bInts b = ks) (hc : KBw.bInts c = ls) (hz : ks.length ≤ 1000) (hz2 : ls.length ≤ 1000) (h5 : 0 ≤ wd) (h6 : wd ≤ 100)
  (hfl : (fa, listOf vs.toArray ep) ∈ news) (hfi : IntsAre vs fl)
  (S : Site w A₀ base h₀ outer L s.heap m news loose mean mg mb cs dp un 6)
  (hret : CbRet h₀ L m news s Q (fun _ => .bool (standsS ks ls fl wd (some p)))) :
  wpAny (model PG w) (ktrTop dp un gd cn cs L a ccd cl outer) (call (.ref 378) [.bytes b t, .bytes c t2, .ref fa, .int wd t3, (.int p t4)]) Q E s := by
  obtain ⟨B, F, X, N, T, hk, hdp, hun⟩ := S
  k_with "binds" => exact [(PySem.Str.ofString "came_out", .bytes b t), (PySem.Str.ofString "bare", .bytes c t2), (PySem.Str.ofString "flags", .ref fa), (PySem.Str.ofString "width", .int wd t3), (PySem.Str.ofString "least", (.int p t4))]
  walk_at "enter"
  k_steps
  all_goals (refine cb_retB hret ?_ (by k_asm) (by walk_at "nn"))
  all_goals (unfold standsS signsS; (try simp only [take_dropAll]); (try simp only [take_clip0, take_clip1, take_clip2, drop_clip0, drop_clip1, drop_clip2]); simp only [if_true, if_false, reduceIte, Bool.false_eq_true, Bool.true_eq_false, Option.isSome_none, Option.isSome_some, ne_eq, not_true_eq_false, not_false_eq_true, or_true, true_or, or_false, false_or, List.take_zero, List.drop_zero, *]; done)
theorem c_law_stands {b c : Array UInt8} {ks ls fl : List Int} {wd : Int} {le : Option Int} {t t2 t3 t4 : Tok} {fa : Addr} {vs : List Value} {ep : Nat} (hb : KBw.bInts b = ks) (hc : KBw.bInts c = ls) (hz : ks.length ≤ 1000) (hz2 : ls.length ≤ 1000) (h5 : 0 ≤ wd) (h6 : wd ≤ 100)
  (hfl : (fa, listOf vs.toArray ep) ∈ news) (hfi : IntsAre vs fl)
  (S : Site w A₀ base h₀ outer L s.heap m news loose mean mg mb cs dp un 6)
  (hret : CbRet h₀ L m news s Q (fun _ => .bool (standsS ks ls fl wd le))) :
  wpAny (model PG w) (ktrTop dp un gd cn cs L a ccd cl outer) (call (.ref 378) [.bytes b t, .bytes c t2, .ref fa, .int wd t3, optV le t4]) Q E s := by
  cases le
  · exact c_stands_none hb hc hz hz2 h5 h6 hfl hfi S hret
  · exact c_stands_some hb hc hz hz2 h5 h6 hfl hfi S hret

theorem reset_D5 : True ∧ True := by
  w_top off
  exact ⟨trivial, trivial⟩
theorem c_law_letters
  (S : Site w A₀ base h₀ outer L s.heap m news loose mean mg mb cs dp un 2)
  (hret : ∀ l (d : Fin 6 → Addr) (t u : Fin 6 → Tok) h' tk', Fr h₀ L h' m → News h₀ L h' ((l, listOf #[.ref (d 0), .ref (d 1), .ref (d 2), .ref (d 3), .ref (d 4), .ref (d 5)] 0) :: (d 5, tupObj [.bytes #[88] (t 5), .int 16 (u 5)]) :: (d 4, tupObj [.bytes #[120] (t 4), .int 16 (u 4)]) :: (d 3, tupObj [.bytes #[111] (t 3), .int 8 (u 3)]) :: (d 2, tupObj [.bytes #[117] (t 2), .int 10 (u 2)]) :: (d 1, tupObj [.bytes #[105] (t 1), .int 10 (u 1)]) :: (d 0, tupObj [.bytes #[100] (t 0), .int 10 (u 0)]) :: news) → Q (.ref l) { s with heap := h', toks := tk' }) :
  wpAny (model PG w) (ktrTop dp un gd cn cs L a ccd cl outer) (call (.ref 343) []) Q E s := by
  obtain ⟨B, F, X, N, T, hk, hdp, hun⟩ := S
  k_with "binds" => exact []
  walk_at "enter"
  k_steps
  rename News _ _ _ _ => N'
  exact hret _ (fun | 0 => _ | 1 => _ | 2 => _ | 3 => _ | 4 => _ | 5 => _) (fun | 0 => _ | 1 => _ | 2 => _ | 3 => _ | 4 => _ | 5 => _) (fun | 0 => _ | 1 => _ | 2 => _ | 3 => _ | 4 => _ | 5 => _) _ _ (by k_asm) N'
theorem c_law_precisions
  (S : Site w A₀ base h₀ outer L s.heap m news loose mean mg mb cs dp un 2)
  (hret : ∀ l (d : Fin 5 → Addr) (t u : Fin 5 → Tok) h' tk', Fr h₀ L h' m → News h₀ L h' ((l, listOf #[.ref (d 0), .ref (d 1), .ref (d 2), .ref (d 3), .ref (d 4)] 0) :: (d 4, tupObj [.bytes #[46, 49, 50] (t 4), .int 12 (u 4)]) :: (d 3, tupObj [.bytes #[46, 51] (t 3), .int 3 (u 3)]) :: (d 2, tupObj [.bytes #[46] (t 2), .int 0 (u 2)]) :: (d 1, tupObj [.bytes #[] (t 1), .none]) :: (d 0, tupObj [.bytes #[] (t 0), .none]) :: news) → Q (.ref l) { s with heap := h', toks := tk' }) :
  wpAny (model PG w) (ktrTop dp un gd cn cs L a ccd cl outer) (call (.ref 350) []) Q E s := by
  obtain ⟨B, F, X, N, T, hk, hdp, hun⟩ := S
  k_with "binds" => exact []
  walk_at "enter"
  k_steps
  rename News _ _ _ _ => N'
  exact hret _ (fun | 0 => _ | 1 => _ | 2 => _ | 3 => _ | 4 => _) (fun | 0 => _ | 1 => _ | 2 => _ | 3 => _ | 4 => _) (fun | 0 => 0 | 1 => 0 | 2 => _ | 3 => _ | 4 => _) _ _ (by k_asm) N'
theorem words_32 : True := by
  k_with "call ref" => ((k_here; (with_reducible show wpAny _ _ (call (Value.ref 343) _) _ _ _); (change wpAny _ _ (call (Value.ref 343) []) _ _ _); k_dflt (refine' c_law_letters (by walk_at "site") ?_); intro l9 d9 t9 u9 h9 tk9 F9 N9; (try dsimp only)))
  k_with "call ref" => ((k_here; (with_reducible show wpAny _ _ (call (Value.ref 350) _) _ _ _); (change wpAny _ _ (call (Value.ref 350) []) _ _ _); k_dflt (refine' c_law_precisions (by walk_at "site") ?_); intro l9 d9 t9 u9 h9 tk9 F9 N9; (try dsimp only)))
  trivial
theorem item_letters {A : Around} {value slice : PySem.Expr} {l : Addr} {d : Fin 6 → Addr} {t u : Fin 6 → Tok} {k : Int} {uk : Tok} (N : News h₀ L s.heap ((l, listOf #[.ref (d 0), .ref (d 1), .ref (d 2), .ref (d 3), .ref (d 4), .ref (d 5)] 0) :: (d 5, tupObj [.bytes #[88] (t 5), .int 16 (u 5)]) :: (d 4, tupObj [.bytes #[120] (t 4), .int 16 (u 4)]) :: (d 3, tupObj [.bytes #[111] (t 3), .int 8 (u 3)]) :: (d 2, tupObj [.bytes #[117] (t 2), .int 10 (u 2)]) :: (d 1, tupObj [.bytes #[105] (t 1), .int 10 (u 1)]) :: (d 0, tupObj [.bytes #[100] (t 0), .int 10 (u 0)]) :: news))
  (h0 : 0 ≤ k) (h1 : k < 6)
  (h : ∀ dk tk uk lb, KBw.bInts lb = [ltOf k] → News h₀ L s.heap ((dk, tupObj [.bytes lb tk, .int (bsOf k) uk]) :: news) → Q (.ref dk) s)
  (hs : subscripted slice false (.ref l) (.int k uk) = operate [.ref l, .int k uk] (getItem (.ref l) (.int k uk)) := by with_unfolding_all rfl) :
  wpAny (model PG w) A (subscriptTail value slice (.ref l) (.int k uk)) Q E s := by
  have hl : s.heap.IsList l (List.toArray [.ref (d 0), .ref (d 1), .ref (d 2), .ref (d 3), .ref (d 4), .ref (d 5)]) := isListOf N (.head _)
  have hc : k = 0 ∨ k = 1 ∨ k = 2 ∨ k = 3 ∨ k = 4 ∨ k = 5 := by omega
  rcases hc with rfl | rfl | rfl | rfl | rfl | rfl
  · exact item_litK (v := .ref (d 0)) hl (by decide) (by decide) rfl (h _ _ _ #[100] (by rw [KBw.ints_list]; rfl) fun p hp => N p (by rcases List.mem_cons.mp hp with rfl | hp; exact .tail _ (.tail _ (.tail _ (.tail _ (.tail _ (.tail _ (.head _)))))); exact .tail _ (.tail _ (.tail _ (.tail _ (.tail _ (.tail _ (.tail _ hp)))))))) hs
  · exact item_litK (v := .ref (d 1)) hl (by decide) (by decide) rfl (h _ _ _ #[105] (by rw [KBw.ints_list]; rfl) fun p hp => N p (by rcases List.mem_cons.mp hp with rfl | hp; exact .tail _ (.tail _ (.tail _ (.tail _ (.tail _ (.head _))))); exact .tail _ (.tail _ (.tail _ (.tail _ (.tail _ (.tail _ (.tail _ hp)))))))) hs
  · exact item_litK (v := .ref (d 2)) hl (by decide) (by decide) rfl (h _ _ _ #[117] (by rw [KBw.ints_list]; rfl) fun p hp => N p (by rcases List.mem_cons.mp hp with rfl | hp; exact .tail _ (.tail _ (.tail _ (.tail _ (.head _)))); exact .tail _ (.tail _ (.tail _ (.tail _ (.tail _ (.tail _ (.tail _ hp)))))))) hs
  · exact item_litK (v := .ref (d 3)) hl (by decide) (by decide) rfl (h _ _ _ #[111] (by rw [KBw.ints_list]; rfl) fun p hp => N p (by rcases List.mem_cons.mp hp with rfl | hp; exact .tail _ (.tail _ (.tail _ (.head _))); exact .tail _ (.tail _ (.tail _ (.tail _ (.tail _ (.tail _ (.tail _ hp)))))))) hs
  · exact item_litK (v := .ref (d 4)) hl (by decide) (by decide) rfl (h _ _ _ #[120] (by rw [KBw.ints_list]; rfl) fun p hp => N p (by rcases List.mem_cons.mp hp with rfl | hp; exact .tail _ (.tail _ (.head _)); exact .tail _ (.tail _ (.tail _ (.tail _ (.tail _ (.tail _ (.tail _ hp)))))))) hs
  · exact item_litK (v := .ref (d 5)) hl (by decide) (by decide) rfl (h _ _ _ #[88] (by rw [KBw.ints_list]; rfl) fun p hp => N p (by rcases List.mem_cons.mp hp with rfl | hp; exact .tail _ (.head _); exact .tail _ (.tail _ (.tail _ (.tail _ (.tail _ (.tail _ (.tail _ hp)))))))) hs
theorem item_precs {A : Around} {value slice : PySem.Expr} {l : Addr} {d : Fin 5 → Addr} {t u : Fin 5 → Tok} {k : Int} {uk : Tok} (N : News h₀ L s.heap ((l, listOf #[.ref (d 0), .ref (d 1), .ref (d 2), .ref (d 3), .ref (d 4)] 0) :: (d 4, tupObj [.bytes #[46, 49, 50] (t 4), .int 12 (u 4)]) :: (d 3, tupObj [.bytes #[46, 51] (t 3), .int 3 (u 3)]) :: (d 2, tupObj [.bytes #[46] (t 2), .int 0 (u 2)]) :: (d 1, tupObj [.bytes #[] (t 1), .none]) :: (d 0, tupObj [.bytes #[] (t 0), .none]) :: news))
  (h0 : 0 ≤ k) (h1 : k < 5)
  (h : ∀ dk tk uk lb, KBw.bInts lb = dotOf k → News h₀ L s.heap ((dk, tupObj [.bytes lb tk, optV (leOf k) uk]) :: news) → Q (.ref dk) s)
  (hs : subscripted slice false (.ref l) (.int k uk) = operate [.ref l, .int k uk] (getItem (.ref l) (.int k uk)) := by with_unfolding_all rfl) :
  wpAny (model PG w) A (subscriptTail value slice (.ref l) (.int k uk)) Q E s := by
  have hl : s.heap.IsList l (List.toArray [.ref (d 0), .ref (d 1), .ref (d 2), .ref (d 3), .ref (d 4)]) := isListOf N (.head _)
  have hc : k = 0 ∨ k = 1 ∨ k = 2 ∨ k = 3 ∨ k = 4 := by omega
  rcases hc with rfl | rfl | rfl | rfl | rfl
  · exact item_litK (v := .ref (d 0)) hl (by decide) (by decide) rfl (h _ _ 0 #[] (by rw [KBw.ints_list]; rfl) fun p hp => N p (by rcases List.mem_cons.mp hp with rfl | hp; exact .tail _ (.tail _ (.tail _ (.tail _ (.tail _ (.head _))))); exact .tail _ (.tail _ (.tail _ (.tail _ (.tail _ (.tail _ hp))))))) hs
  · exact item_litK (v := .ref (d 1)) hl (by decide) (by decide) rfl (h _ _ 0 #[] (by rw [KBw.ints_list]; rfl) fun p hp => N p (by rcases List.mem_cons.mp hp with rfl | hp; exact .tail _ (.tail _ (.tail _ (.tail _ (.head _)))); exact .tail _ (.tail _ (.tail _ (.tail _ (.tail _ (.tail _ hp))))))) hs
  · exact item_litK (v := .ref (d 2)) hl (by decide) (by decide) rfl (h _ _ _ #[46] (by rw [KBw.ints_list]; rfl) fun p hp => N p (by rcases List.mem_cons.mp hp with rfl | hp; exact .tail _ (.tail _ (.tail _ (.head _))); exact .tail _ (.tail _ (.tail _ (.tail _ (.tail _ (.tail _ hp))))))) hs
  · exact item_litK (v := .ref (d 3)) hl (by decide) (by decide) rfl (h _ _ _ #[46, 51] (by rw [KBw.ints_list]; rfl) fun p hp => N p (by rcases List.mem_cons.mp hp with rfl | hp; exact .tail _ (.tail _ (.head _)); exact .tail _ (.tail _ (.tail _ (.tail _ (.tail _ (.tail _ hp))))))) hs
  · exact item_litK (v := .ref (d 4)) hl (by decide) (by decide) rfl (h _ _ _ #[46, 49, 50] (by rw [KBw.ints_list]; rfl) fun p hp => N p (by rcases List.mem_cons.mp hp with rfl | hp; exact .tail _ (.head _); exact .tail _ (.tail _ (.tail _ (.tail _ (.tail _ (.tail _ hp))))))) hs
theorem words_33 : True := by
  k_with "fm0" => (first | assumption | exact (fmod_bd (by omega)).1)
  k_with "fm1" => (first | assumption | exact (fmod_bd (by omega)).2)
  k_with "subscriptTail" => ((k_here; (with_reducible show wpAny _ _ (subscriptTail _ _ (Value.ref _) (Value.int (Int.fmod _ 6) _)) _ _ _); k_dflt (refine' item_letters ?k1 ?k2 ?k3 ?_ ?k4; (case k1 => k_asm); (case k2 => walk_at "fm0"); (case k3 => walk_at "fm1"); (case k4 => with_unfolding_all rfl)); intro dk9 tk9 uk9 lb9 hb9 N9; (try dsimp only)))
  k_with "subscriptTail" => ((k_here; (with_reducible show wpAny _ _ (subscriptTail _ _ (Value.ref _) (Value.int (Int.fmod _ 5) _)) _ _ _); k_dflt (refine' item_precs ?k1 ?k2 ?k3 ?_ ?k4; (case k1 => k_asm); (case k2 => walk_at "fm0"); (case k3 => walk_at "fm1"); (case k4 => with_unfolding_all rfl)); intro dk9 tk9 uk9 lb9 hb9 N9; (try dsimp only)))
  trivial
theorem reset_D6 : True ∧ True := by
  w_top off
  exact ⟨trivial, trivial⟩
def RtEnd {σ : Type} (h₀ : Heap) (L : Addr) (s : Shared) (I : Addr) (it : Obj) (Led : σ → List (Addr × Obj)) (ps : σ → List (PySem.Str × Value)) (stored : List PySem.Str) (x : PySem.Str) (m₀ : PySem.Str → Option Value) (P : Nat → σ → Prop) (i : Nat) (s₂ : Shared) : Prop :=
  ∃ (c : σ) (h' : Heap) (tk : Nat) (m' : PySem.Str → Option Value), s₂ = { s with heap := h', toks := tk } ∧ Fr h₀ L h' m' ∧ News h₀ L h' ((I, it) :: Led c) ∧ (∀ p ∈ Led c, p.1 ≠ I) ∧ (∀ p ∈ ps c, m' p.1 = some p.2) ∧ (∀ z, z ≠ x → (∀ p ∈ ps c, z ≠ p.1) → stored.contains z = false → m' z = m₀ z) ∧ P i c
def RtPost {σ : Type} (h₀ : Heap) (L : Addr) (s : Shared) (I : Addr) (it : Obj) (Led : σ → List (Addr × Obj)) (ps : σ → List (PySem.Str × Value)) (stored : List PySem.Str) (x : PySem.Str) (m₀ : PySem.Str → Option Value) (P : Nat → σ → Prop) (i : Nat) (Q : Flow → Shared → Prop) (f : Flow) (s₂ : Shared) : Prop :=
  match f with
  | .ret v => Q (.ret v) s₂
  | .brk => Q .next s₂
  | _ => RtEnd h₀ L s I it Led ps stored x m₀ P i s₂
theorem rt_end {σ : Type} {h₀ : Heap} {L : Addr} {s : Shared} {I : Addr} {it : Obj} {Led : σ → List (Addr × Obj)} {ps : σ → List (PySem.Str × Value)} {stored : List PySem.Str} {x : PySem.Str} {m₀ m' : PySem.Str → Option Value} {P : Nat → σ → Prop} {i : Nat} {h' : Heap} {tk : Nat} {all : List (Addr × Obj)} (c : σ)
    (F : Fr h₀ L h' m') (hk : ∀ p ∈ ps c, m' p.1 = some p.2) (N : News h₀ L h' all) (sub : ∀ p ∈ (I, it) :: Led c, p ∈ all) (off : ∀ p ∈ Led c, p.1 ≠ I) (hr : ∀ z, z ≠ x → (∀ p ∈ ps c, z ≠ p.1) → stored.contains z = false → m' z = m₀ z) (hp : P i c) :
    RtEnd h₀ L s I it Led ps stored x m₀ P i { s with heap := h', toks := tk } := ⟨c, h', tk, m', rfl, F, fun p hp => N p (sub p hp), off, hk, hr, hp⟩
theorem range_st {σ : Type} {A : Around} {env : Env} {x : PySem.Str} {body : List Stmt} {Q : Flow → Shared → Prop} {r : Addr} {a₀ b₀ : Int} {t₀ u₀ v₀ : Tok} {n : Nat} {m₀ : PySem.Str → Option Value} (Led : σ → List (Addr × Obj)) (ps : σ → List (PySem.Str × Value)) (stored : List PySem.Str) (P : Nat → σ → Prop) (c₀ : σ)
    (hh : A.handled = none) (hr : IsRange s.heap r a₀ b₀ 1 t₀ u₀ v₀) (hsmall : Builtin.Range.small a₀ b₀ 1 = true) (hn : Builtin.Range.rangeSize a₀ b₀ 1 = (n : Int)) (F : Fr h₀ env.locals s.heap m₀) (N : News h₀ env.locals s.heap (Led c₀)) (hk : ∀ p ∈ ps c₀, m₀ p.1 = some p.2) (hp : P 0 c₀)
    (turn : ∀ (I : Addr) (c : σ) (i : Nat) t (u : PySem.Str → Option Value) h tk, i < n → P i c → (∀ p ∈ Led c, p.1 ≠ I) →
      Fr h₀ env.locals h (fun y => if y = x then some (.int (a₀ + (i : Int)) t) else kstB (fun z => if stored.contains z then u z else m₀ z) (ps c) y) → News h₀ env.locals h ((I, itR (a₀ + ((i + 1 : Nat) : Int)) ((n : Int) - ((i + 1 : Nat) : Int))) :: Led c) →
      wpAny (model PG w) A (execs body env) (RtPost h₀ env.locals { s with heap := h, toks := tk } I (itR (a₀ + ((i + 1 : Nat) : Int)) ((n : Int) - ((i + 1 : Nat) : Int))) Led ps stored x m₀ P (i + 1) Q) E { s with heap := h, toks := tk })
    (done : ∀ (c : σ) (u : PySem.Str → Option Value) h tk, P n c → Fr h₀ env.locals h (fun y => if y = x then u y else kstB (fun z => if stored.contains z then u z else m₀ z) (ps c) y) → News h₀ env.locals h (Led c) → Q .next { s with heap := h, toks := tk }) :
    wpAny (model PG w) A (pyIter (.ref r)) (fun it s₂ => LoopAtV PG w A h₀ env x body Q E it s₂) E s := by
  refine iter_rangeUnr hh hr hsmall hn F N fun I hI => ?_
  have key : ∀ k i (c : σ) (m₁ : PySem.Str → Option Value), i + k = n → (∀ p ∈ Led c, p.1 ≠ I) → (∀ p ∈ ps c, m₁ p.1 = some p.2) → (∀ z, z ≠ x → (∀ p ∈ ps c, z ≠ p.1) → stored.contains z = false → m₁ z = m₀ z) → P i c →
      RangeRest PG w A E h₀ env x body Q s I a₀ n k i m₁ (Led c) := by
    intro k
    induction k with
    | zero =>
      intro i c m₁ e off h1 h2 hp
      obtain rfl : i = n := by omega
      exact RangeRest.zero fun h tk F' N' => done c m₁ h tk hp (kst_frOut h1 h2 F') N'
    | succ k ih =>
      intro i c m₁ e off h1 h2 hp
      refine RangeRest.succ fun t h tk F' N' => wpAny_mono (turn I c i t m₁ h tk (by omega) hp off (kst_fr h1 h2 F') N') (fun f s₂ y => ?_) fun _ _ e => e
      have fin : RtEnd h₀ env.locals { s with heap := h, toks := tk } I (itR (a₀ + ((i + 1 : Nat) : Int)) ((n : Int) - ((i + 1 : Nat) : Int))) Led ps stored x m₀ P (i + 1) s₂ →
          UnrEnd h₀ env.locals { s with heap := h, toks := tk } I (itR (a₀ + ((i + 1 : Nat) : Int)) ((n : Int) - ((i + 1 : Nat) : Int))) (RangeRest PG w A E h₀ env x body Q s I a₀ n k (i + 1)) s₂ := by
        rintro ⟨c', h', tk', m', e1, F1, N1, off1, k1, k2, p1⟩
        exact ⟨h', tk', m', Led c', e1, F1, N1, off1, ih (i + 1) c' m' (by omega) off1 k1 k2 p1⟩
      cases f with
      | ret v => exact y
      | brk => exact y
      | next => exact fin y
      | cont => exact fin y
  exact key n 0 c₀ m₀ (by omega) (fun p hp => Nat.ne_of_lt (hI p hp)) hk (fun _ _ _ _ => rfl) hp
theorem allLt_ne {I : Addr} {news : List (Addr × Obj)} (h : AllLt I news) {p : Addr × Obj} (hp : p ∈ news) : p.1 ≠ I := Nat.ne_of_lt (kst_ltOf h p hp)
theorem no_flag : ∀ e ∈ ([] : List Int), isFlag e = true := fun _ h => nomatch h
theorem sub_c {t f j k g : Addr × Obj} {news : List (Addr × Obj)} : ∀ p ∈ k :: f :: news, p ∈ t :: f :: j :: k :: g :: news := fun p hp => by
  rcases List.mem_cons.mp hp with hp | hp
  · subst hp; exact .tail _ (.tail _ (.tail _ (.head _)))
  · rcases List.mem_cons.mp hp with hp | hp
    · subst hp; exact .tail _ (.head _)
    · exact .tail _ (.tail _ (.tail _ (.tail _ (.tail _ hp))))
theorem off_c {I D fa : Addr} {o o' : Obj} {news : List (Addr × Obj)} (h : @LT.lt Nat instLTNat I D) (hoff : ∀ p ∈ (fa, o') :: news, p.1 ≠ I) : ∀ p ∈ (D, o) :: news, p.1 ≠ I := fun p hp => by
  rcases List.mem_cons.mp hp with hp | hp
  · subst hp; exact Nat.ne_of_gt h
  · exact hoff p (.tail _ hp)
theorem flag_get {y : Int} : isFlag (((([45, 43, 32, 35, 48] : List UInt8).getD (y.fmod 5).toNat 0).toNat : Nat) : Int) = true := by
  have hb := fmod_bd (a := y) (b := 5) (by omega)
  generalize y.fmod 5 = k at hb
  obtain ⟨k, rfl⟩ := Int.eq_ofNat_of_zero_le hb.1
  have : k < 5 := by omega
  rcases k with _ | _ | _ | _ | _ | k <;> first | rfl | omega
theorem drawn_step {ws : List Value} {fl : List Int} {i : Nat} {y : Int} (h : IntsAre ws (fl ++ [(((([45, 43, 32, 35, 48] : List UInt8).getD (y.fmod 5).toNat 0).toNat : Nat) : Int)])) (h2 : fl.length = i) (h3 : ∀ e ∈ fl, isFlag e = true) (h4 : 0 ≤ y) :
    IntsAre ws (fl ++ [(((([45, 43, 32, 35, 48] : List UInt8).getD (y.fmod 5).toNat 0).toNat : Nat) : Int)]) ∧ (fl ++ [(((([45, 43, 32, 35, 48] : List UInt8).getD (y.fmod 5).toNat 0).toNat : Nat) : Int)]).length = i + 1 ∧
      (∀ e ∈ fl ++ [(((([45, 43, 32, 35, 48] : List UInt8).getD (y.fmod 5).toNat 0).toNat : Nat) : Int)], isFlag e = true) ∧ 0 ≤ y.fdiv 5 := by
  refine ⟨h, by rw [List.length_append, h2]; rfl, fun e he => ?_, fdiv_nn h4 (by omega)⟩
  rcases List.mem_append.mp he with he | he
  · exact h3 e he
  · obtain rfl := List.mem_singleton.mp he
    exact flag_get
theorem sub_b {t f j k : Addr × Obj} {news : List (Addr × Obj)} : ∀ p ∈ f :: news, p ∈ t :: f :: j :: k :: news := fun p hp => by
  rcases List.mem_cons.mp hp with hp | hp
  · subst hp; exact .tail _ (.head _)
  · exact .tail _ (.tail _ (.tail _ (.tail _ hp)))
theorem words_34 : True := by
  k_with "RtPost" => ((dsimp only [RtPost]))
  k_with "RtEnd" => (k_extra "rtE")
  trivial
theorem small_m {x : Int} : Builtin.Range.small 0 (x.fmod 6) 1 = true := by
  have hb := fmod_bd (a := x) (b := 6) (by omega)
  exact small_one (by omega) (by omega) (by omega) (by omega)
theorem drawn_n {y bits : Int} (hb1 : 1 ≤ bits) : -2 ^ (bits - 1).toNat ≤ y.fmod (2 ^ bits.toNat) - (2 ^ bits.toNat : Int).fdiv 2 ∧ y.fmod (2 ^ bits.toNat) - (2 ^ bits.toNat : Int).fdiv 2 < 2 ^ (bits - 1).toNat := by
  have e : bits.toNat = (bits - 1).toNat + 1 := by omega
  have hp : (0 : Int) < 2 ^ (bits - 1).toNat := Int.pow_pos (by omega)
  rw [e, Int.pow_succ]
  have hb := fmod_bd (a := y) (b := 2 ^ (bits - 1).toNat * 2) (by omega)
  have hd : ((2 : Int) ^ (bits - 1).toNat * 2).fdiv 2 = 2 ^ (bits - 1).toNat := by
    rw [Int.fdiv_eq_ediv_of_nonneg _ (by omega)]; omega
  rw [hd]
  omega
abbrev DRet (h₀ : Heap) (L : Addr) (m : PySem.Str → Option Value) (news : List (Addr × Obj)) (s : Shared) (Q : Value → Shared → Prop) (bits : Int) : Prop :=
  ∀ r fa vs fl ep wd kl kp n lb pb t1 t2 t3 t4 t5 t6 h' tk', IntsAre vs fl → fl.length ≤ 5 → (∀ c ∈ fl, isFlag c = true) → 0 ≤ wd → wd ≤ 20 → 0 ≤ kl → kl < 6 → 0 ≤ kp → kp < 5 → KBw.bInts lb = [ltOf kl] → KBw.bInts pb = dotOf kp → -2 ^ (bits - 1).toNat ≤ n → n < 2 ^ (bits - 1).toNat →
    Fr h₀ L h' m → News h₀ L h' ((r, tupObj [.ref fa, .int wd t1, .bytes pb t2, optV (leOf kp) t3, .bytes lb t4, .int (bsOf kl) t5, .int n t6]) :: (fa, listOf vs.toArray ep) :: news) → Q (.ref r) { s with heap := h', toks := tk' }
theorem drawn_end {bits : Int} {r fa : Addr} {vs : List Value} {fl : List Int} {ep : Nat} {wd kl kp n : Int} {lb pb : Array UInt8} {t1 t2 t3 t4 t5 t6 : Tok} {h' : Heap} {tk' : Nat} {rest : List (Addr × Obj)} (hret : DRet h₀ L m news s Q bits) (F : Fr h₀ L h' m)
    (N : News h₀ L h' ((r, tupObj [.ref fa, .int wd t1, .bytes pb t2, optV (leOf kp) t3, .bytes lb t4, .int (bsOf kl) t5, .int n t6]) :: rest)) (hf : (fa, listOf vs.toArray ep) ∈ rest) (sub : ∀ p ∈ news, p ∈ rest)
    (hi : IntsAre vs fl) (h1 : fl.length ≤ 5) (h2 : ∀ c ∈ fl, isFlag c = true) (h3 : 0 ≤ wd ∧ wd < 21) (h4 : 0 ≤ kl ∧ kl < 6) (h5 : 0 ≤ kp ∧ kp < 5) (hl : KBw.bInts lb = [ltOf kl]) (hp : KBw.bInts pb = dotOf kp) (hn : -2 ^ (bits - 1).toNat ≤ n ∧ n < 2 ^ (bits - 1).toNat) : Q (.ref r) { s with heap := h', toks := tk' } :=
  hret r fa vs fl ep wd kl kp n lb pb t1 t2 t3 t4 t5 t6 h' tk' hi h1 h2 h3.1 (by omega) h4.1 h4.2 h5.1 h5.2 hl hp hn.1 hn.2 F (fun p hp => N p (by
    rcases List.mem_cons.mp hp with rfl | hp
    · exact .head _
    · rcases List.mem_cons.mp hp with rfl | hp
      · exact .tail _ hf
      · exact .tail _ (sub p hp)))
theorem c_law_drawn {x bits : Int} {t t2 : Tok} (hx : 0 ≤ x) (hb1 : 1 ≤ bits) (hb2 : bits ≤ 64)
  (S : Site w A₀ base h₀ outer L s.heap m news loose mean mg mb cs dp un 4)
  (hret : DRet h₀ L m news s Q bits) :
  wpAny (model PG w) (ktrTop dp un gd cn cs L a ccd cl outer) (call (.ref 364) [.int x t, .int bits t2]) Q E s := by
  obtain ⟨B, F, X, N, T, hk, hdp, hun⟩ := S
  have hm6 := fmod_bd (a := x.fdiv 6) (b := 6) (by omega)
  k_with "pyIter ref" => ((rename Fr _ _ _ _ => lF'); (rename News _ _ _ _ => lN'); (rename IsRange _ _ _ _ _ _ _ _ => rgX); (with_unfolding_all refine' range_st (σ := Addr × List Value × List Int × Nat × Int × Tok) (fun c => (c.1, listOf c.2.1.toArray c.2.2.2.1) :: news) (fun c => [(PySem.Str.ofString "flags", .ref c.1), (PySem.Str.ofString "cell", .int c.2.2.2.2.1 c.2.2.2.2.2)]) [] (fun i c => IntsAre c.2.1 c.2.2.1 ∧ c.2.2.1.length = i ∧ (∀ e ∈ c.2.2.1, isFlag e = true) ∧ 0 ≤ c.2.2.2.2.1) (_, [], [], 0, _, _) (by rfl) rgX small_m (rangeSize_nat _ _) lF' ?kn ?kk ?kp ?kt ?kd); (case kk => kst_all); (case kn => (with_unfolding_all exact kst_newsOf lN' sub_b)); (case kp => exact ⟨IntsAre.nil, rfl, no_flag, fdiv_nn (fdiv_nn (by assumption) (by omega)) (by omega)⟩); (case' kt => (clear lF' lN'; rintro I9 ⟨fa, vs, fl, ep, cl9, tc⟩ i9 t9 u9 h9 tk9 hi9 ⟨hf1, hf2, hf3, hf4⟩ hoff F1 N1; (dsimp only at hf1 hf2 hf3 hf4 hoff); (dsimp only [kstB] at F1); (dsimp only at N1); (try k_fold))); (case' kd => ((clear lF' lN'); (rintro ⟨fa, vs, fl, ep, cl9, tc⟩ u9 h9 tk9 ⟨hf1, hf2, hf3, hf4⟩ F1 N1); (dsimp only at hf1 hf2 hf3 hf4); (dsimp only [kstB] at F1); (dsimp only at N1); (try k_fold))))
  k_with "rtE" => (rename News _ _ _ _ => nE'; refine rt_end ⟨_, _, _, 0, _, _⟩ (by assumption) (by kst_all) nE' sub_c (off_c (by omega) hoff) (by kst_same) (drawn_step (by assumption) hf2 hf3 hf4))
  k_with "binds" => exact [(PySem.Str.ofString "cell", .int x t), (PySem.Str.ofString "bits", .int bits t2)]
  walk_at "enter"
  k_steps
  rename News _ _ _ _ => nE
  exact drawn_end hret (by k_asm) nE (.tail _ (.tail _ (.tail _ (.head _)))) (fun p hp => .tail _ (.tail _ (.tail _ (.tail _ hp)))) hf1 (by omega) hf3 (fmod_bd (by omega)) (fmod_bd (by omega)) (fmod_bd (by omega)) (by assumption) (by assumption) (drawn_n hb1)
theorem words_35 : True := by
  k_with "call ref" => ((k_here; (with_reducible show wpAny _ _ (call (Value.ref 364) [Value.int _ _, Value.int _ _]) _ _ _); k_dflt (refine' c_law_drawn ?z1 ?z2 ?z3 ?zS ?_; (case zS => walk_at "site"); (case z1 => first | assumption | omega); (case z2 => first | assumption | omega); (case z3 => first | assumption | omega)); intro r9 fa9 vs9 fl9 ep9 wd9 kl9 kp9 n9 lb9 pb9 t1 t2 t3 t4 t5 t6 h9 tk9 hi9 hfl9 hfg9 hwa9 hwb9 hka9 hkb9 hpa9 hpb9 hlb9 hpb9' hna9 hnb9 F9 N9; (try dsimp only)))
  trivial
theorem reset_E1 : True ∧ True := by
  w_top off
  exact ⟨trivial, trivial⟩
theorem news_ba {h h' : Heap} (F : Fr h₀ L h m) (N : News h₀ L h news) (hk : ∀ b o, h.get? b = some o → h'.get? b = some o) {o : Obj} (hn : h'.get? h.objs.size = some o) :
    Fr h₀ L h' m ∧ News h₀ L h' ((h.objs.size, o) :: news) ∧ (∀ p ∈ news, p.1 ≠ h.objs.size) := by
  refine ⟨F.keeps hk, fun p hp => ?_, fun p hp => Nat.ne_of_lt (Heap.lt_size (N p hp).1)⟩
  rcases List.mem_cons.mp hp with rfl | hp
  · refine ⟨hn, ?_, next_is_new F⟩
    exact (Nat.ne_of_lt F.ns.lt).symm
  · exact (N.grown hk) p hp
theorem news_upd {h h' : Heap} {a9 : Addr} {o o' : Obj} (F : Fr h₀ L h m) (N : News h₀ L h ((a9, o) :: news)) (hne : ∀ p ∈ news, p.1 ≠ a9) (h1 : h'.get? a9 = some o') (h2 : ∀ d o, d ≠ a9 → h.get? d = some o → h'.get? d = some o) :
    Fr h₀ L h' m ∧ News h₀ L h' ((a9, o') :: news) := by
  have ha := N _ (.head _)
  refine ⟨⟨F.ns.at' fun o e => h2 _ o (fun e' => ha.2.1 e'.symm) e, fun b o e => h2 b o (fun e' => ?_) (F.keep b o e), F.above⟩, fun p hp => ?_⟩
  · have := ha.2.2
    subst e'
    rw [this] at e; cases e
  · rcases List.mem_cons.mp hp with rfl | hp
    · exact ⟨h1, ha.2⟩
    · exact ⟨h2 _ _ (hne p hp) (N p (.tail _ hp)).1, (N p (.tail _ hp)).2⟩
theorem evalArgs_more {M : Model} {A : Around} {f : Value} {env : Env} {e : Expr} {rest : List Expr} {pos : Pos} {Q : Args → Shared → Prop} {E : Value → Shared → Prop}
    (h : wpAny M A (spliced (backTo pos (starEach (e :: rest) env))) (fun vs s' => Q ⟨vs, []⟩ s') E s)
    (he : starEach (e :: rest) env = (false, eval e env) :: starEach rest env := by rfl) : wpAny M A (evalArgs f true (backTo pos (starEach (e :: rest) env)) []) Q E s := by
  rw [he] at h ⊢
  exact evalArgs_plain h
theorem wpC_execs_nil {M : Model} {A : Around} {env : Env} {Q : Flow → Shared → Prop} (h : Q .next s) : wpC M A (execs [] env) Q s := by
  show wpC _ _ (pure Flow.next) Q s
  exact wpC_pure h
theorem c_item {x y lx : Addr} {fb : Array UInt8} {flags : List Int} {wd lt n bits : Int} {pr : Option Int} {t : Tok} (hD : DirAt w.params news x fb wd pr lt) (hP : PlAt w.params news y n lx) (hlim : LimAt news lx bits) (hfb : KBw.bInts fb = flags) (hp : ∀ p, pr = some p → 0 ≤ p ∧ p ≤ 100) (h0 : 0 ≤ wd) (h1 : wd ≤ 100) (hn : PySem.Flt.Hid (n.natAbs < 2 ^ 65)) (hb1 : 1 ≤ bits) (hb2 : bits ≤ 64) (hl : lt = 100 ∨ lt = 105 ∨ lt = 117 ∨ lt = 111 ∨ lt = 120 ∨ lt = 88)
  (S : Site w A₀ base h₀ outer L s.heap m news loose mean mg mb cs dp un 9)
  (hret : BRet h₀ L m news s Q (fmtS flags wd pr lt n bits)) :
  wpAny (model PG w) (ktrTop dp un gd cn cs L a ccd cl outer) (call (.ref 322) [.ref x, .ref y, .int 2 t]) Q E s := by
  by_cases h : lt = 100 ∨ lt = 105
  · exact c_item_sgn hD hP hlim hfb hp h0 h1 hn h S (by unfold fmtS at hret; rw [if_pos h] at hret; exact hret)
  · exact c_item_uns hD hP hlim hfb hp h0 h1 hb1 hb2 (by omega) S (by unfold fmtS at hret; rw [if_neg h] at hret; exact hret)
theorem words_36 : True := by
  k_with "call ref" => ((k_here; (with_reducible show wpAny _ _ (call (Value.ref 322) [Value.ref _, Value.ref _, Value.int (1 + 1) _]) _ _ _); (change wpAny _ _ (call (Value.ref 322) [Value.ref _, Value.ref _, Value.int 2 _]) _ _ _); k_dflt (refine' c_item ?zD ?zP ?zL ?zB ?z1 ?z2 ?z3 ?z4 ?z5 ?z6 ?z7 ?zS ?_; (case zS => walk_at "site"); (case zD => walk_at "dirat"); (case zP => walk_at "plat"); (case zL => walk_at "limat"); (case zB => walk_at "bi"); (case z1 => assumption); (case z2 => first | assumption | omega); (case z3 => first | assumption | omega); (case z4 => assumption); (case z5 => assumption); (case z6 => assumption); (case z7 => assumption)); intro b9 t9 h9 tk9 hb9 F9 N9; (try dsimp only)))
  trivial
theorem c_format_all {b : Array UInt8} {ks : List Int} {n bits : Int} {y lx : Addr} {t : Tok} (hb : KBw.bInts b = ks) (hz : ks.length ≤ 1000) (hP : PlAt w.params news y n lx) (hlim : LimAt news lx bits) (hb1 : 1 ≤ bits) (hb2 : bits ≤ 64) (hn : PySem.Flt.Hid (n.natAbs < 2 ^ 65)) (hlt : ks.getD (prOf ks 1).2.toNat 0 = 100 ∨ ks.getD (prOf ks 1).2.toNat 0 = 105 ∨ ks.getD (prOf ks 1).2.toNat 0 = 117 ∨ ks.getD (prOf ks 1).2.toNat 0 = 111 ∨ ks.getD (prOf ks 1).2.toNat 0 = 120 ∨ ks.getD (prOf ks 1).2.toNat 0 = 88)
  (hc0 : ks.getD 0 0 = 37) (hc1 : ks.getD 1 0 ≠ 37) (hln : 1 < ks.length) (hfl : flagE ks 1 ≤ 6) (hend : (prOf ks 1).2 + 1 = ks.length) (hnd : isDigit (ks.getD (prOf ks 1).2.toNat 0) = false)
  (S : Site w A₀ base h₀ outer L s.heap m news loose mean mg mb cs dp un 12)
  {R : Value → Shared → Prop}
  (hret : BRet h₀ L m news s R (fmtS (flagsOf ks 1) (wdOf ks 1).1 (prOf ks 1).1 (ks.getD (prOf ks 1).2.toNat 0) n bits)) :
  wpC (model PG w) (ktrTop dp un gd cn cs L a ccd cl outer) (call (.ref 329) [.bytes b t, .ref y]) R s := by
  obtain ⟨B, F, X, N, T, hk, hdp, hun⟩ := S
  refine wpC_call ?_
  k_dflt (refine' code_defQ (binds := [(PySem.Str.ofString "text", .bytes b t), (PySem.Str.ofString "arguments", .ref y)]) ?k1 ?k2 ?k3 ?k4 ?k5 ?kA ?kF ?kK ?k6 ?k7 ?k8 ?k9 ?kB ?_ ?c2 ?c3 ?c4 ?c5; (case kA => exact rfl); (case kF => exact rfl); (case kK => assumption); (case k1 => k_asm); (case k2 => k_asm); (case k3 => k_asm); (case k4 => k_asm); (case k5 => k_asm); (case k6 => k_is); (case k7 => k_is); (case k8 => (dsimp only [ktrTop]; omega)); (case k9 => exact BindsTo.of_eq rfl); (case c5 => decide); (case kB => exact locs rfl); (case c2 => exact rfl); (case c3 => exact rfl); (case c4 => exact rfl); k_whole; intro g' L' h' FG' F' N' B' X' T'; (try dsimp only); (try k_fold))
  refine wpC_execs_cons (Assign_Tuple_swappedC (TupleC (spliced_moreC (Call_NameC ?_))))
  k_steps
  refine callWith_typeC rfl ?_
  refine PyProof.Rows.evalArgs_none ?_
  refine call_bytearray (fun h2 hk2 hn2 => ?_)
  obtain ⟨F2, N2, hoff⟩ := news_ba (by k_asm) (by k_asm) hk2 hn2
  generalize h'.objs.size = fd at hn2 N2 hoff ⊢
  clear hk2 hn2
  dsimp only
  k_steps
  refine wpC_execs_cons (WhileC (whileTurnC ?_))
  have hl0 : (0 : Int) < ks.length := by omega
  have hfl' : flagE ks (0 + 1) ≤ 0 + 1 + 5 := hfl
  have hend' : (prOf ks (0 + 1)).2 < ks.length := by show (prOf ks 1).2 < ks.length; omega
  have hlt' : ks.getD (prOf ks (0 + 1)).2.toNat 0 = 100 ∨ ks.getD (prOf ks (0 + 1)).2.toNat 0 = 105 ∨ ks.getD (prOf ks (0 + 1)).2.toNat 0 = 117 ∨ ks.getD (prOf ks (0 + 1)).2.toNat 0 = 111 ∨ ks.getD (prOf ks (0 + 1)).2.toNat 0 = 120 ∨ ks.getD (prOf ks (0 + 1)).2.toNat 0 = 88 := hlt
  have hpb := prOf_bd (ks := ks) (i := 0 + 1) (by omega) (by omega)
  have hwb := wdOf_bd (ks := ks) (i := 0 + 1) (by omega) (by omega)
  have hwb0 := hwb.1
  have hwb1 := hwb.2
  have hnd' : isDigit (ks.getD (prOf ks (0 + 1)).2.toNat 0) = false := hnd
  k_steps
  all_goals (try simp only [if_true, if_false, Bool.false_eq_true])
  refine wpC_execs_any ?_
  k_steps
  refine wpC_execs_any ?_
  k_steps
  refine wpC_execs_cons (IfC ?_)
  k_steps
  · exact absurd hc0 (by assumption)
  refine wpC_execs_cons (IfC ?_)
  k_steps
  all_goals (try (exact absurd (show ks.getD 1 0 = 37 by assumption) hc1))
  refine wpC_execs_any ?_
  k_steps
  refine wpC_execs_any ?_
  k_steps
  refine wpC_execs_any ?_
  k_steps
  refine wpC_execs_cons (Expr_anyC (MethodCallC ?_))
  k_steps
  refine getMethod_ba (News.get (by k_asm) (by repeat (first | exact .head _ | apply List.Mem.tail))) ?_
  refine callWith_builtinC rfl (evalArgs_more ?_)
  k_steps
  rename News _ _ _ _ => nE
  rename Fr _ _ _ _ => fE
  rename KBw.bInts _ = fmtS _ _ _ _ _ _ => hbE
  have nB : News g' L' _ ((fd, baObj #[]) :: news) := fun p hp => nE p (by repeat (first | exact hp | apply List.Mem.tail))
  have hsz := fmtS_len (fl := flagsOf ks (0 + 1)) (lt := ks.getD (prOf ks (0 + 1)).2.toNat 0) (bits := bits) hpb hwb1 hn.out hb2
  rw [← hbE] at hsz
  simp only [KBw.bInts, List.length_map, Array.length_toList] at hsz
  refine ba_extend (b := #[]) (News.get nB (.head _)) (by simp only [List.size_toArray, List.length_nil]; omega) fun h3 e3 k3 => ?_
  obtain ⟨F3, N3⟩ := news_upd fE nB hoff e3 k3
  rw [Array.empty_append] at N3
  clear nB nE fE
  refine wpC_execs_nil ?_
  dsimp only
  refine wpC_execs_nil ?_
  dsimp only
  refine wpC_execs_nil ?_
  dsimp only
  refine whileTurnC ?_
  k_steps
  · exact absurd (show (prOf ks 1).2 + 1 < (ks.length : Int) by assumption) (by omega)
  refine wpC_execs_nil ?_
  dsimp only
  refine wpC_execs_any ?_
  k_steps
  refine ba_bytes (News.get N3 (.head _)) (by rw [sizeLine_eq]; omega) fun t5 k5 => ?_
  k_steps
  show R _ _
  exact bret hret hbE rfl (by k_asm) (by walk_at "nn")

theorem reset_E2 : True ∧ True := by
  w_top off
  exact ⟨trivial, trivial⟩
theorem c_Plain {vx lx : Addr} (S : Site w A₀ base h₀ outer L s.heap m news loose mean mg mb cs dp un 3)
  (hret : ∀ x dx k1 k2 h' tk', Fr h₀ L h' m → News h₀ L h' ((x, instObj 311 dx) :: (dx, plObj w.params k1 k2 (.ref vx) (.ref lx)) :: news) → Q (.ref x) { s with heap := h', toks := tk' }) :
  wpAny (model PG w) (ktrTop dp un gd cn cs L a ccd cl outer) (call (.ref 311) [.ref vx, .ref lx]) Q E s := by
  obtain ⟨B, F, X, N, T, hk, hdp, hun⟩ := S
  k_dflt (refine' call_cls ?k1 ?k2 ?k3 ?k4 ?k5 ?k6 ?_; (case k1 => k_asm); (case k2 => k_asm); (case k3 => k_asm); (case k4 => k_is); (case k5 => k_is); (case k6 => k_is); k_whole)
  intro x' d' h1 F1 N1 l1 l2
  (try k_lt l1)
  (try k_lt2 l2)
  (try k_sweep)
  k_dflt (refine' code_def (binds := [(PySem.Str.ofString "self", .ref x'), (PySem.Str.ofString "values", .ref vx), (PySem.Str.ofString "limits", .ref lx)]) ?k1 ?k2 ?k3 ?k4 ?k5 ?kA ?kF ?kK ?k6 ?k7 ?k8 ?k9 ?kB ?_ ?c2 ?c3 ?c4 ?c5; (case kA => exact rfl); (case kF => exact rfl); (case kK => assumption); (case k1 => k_asm); (case k2 => k_asm); (case k3 => k_asm); (case k4 => k_asm); (case k5 => k_asm); (case k6 => k_is); (case k7 => k_is); (case k8 => (show dp + 1 < recursionLimit; omega)); (case k9 => exact BindsTo.of_eq rfl); (case c5 => decide); (case kB => exact locs rfl); (case c2 => exact rfl); (case c3 => exact rfl); (case c4 => exact rfl); k_whole; intro g' L' h' FG' F' N' B' X' T'; (try dsimp only); (try k_fold))
  k_steps
  rename News h₀ _ _ _ => kN
  exact hret x' d' _ _ _ _ (by k_asm) kN
theorem words_37 : True := by
  k_with "call ref" => ((k_here; (with_reducible show wpAny _ _ (call (Value.ref 311) [Value.ref _, Value.ref _]) _ _ _); k_dflt (refine' c_Plain (by walk_at "site") ?_); intro x9 y9 u9 v9 h9 tk9 F9 N9; (try dsimp only)))
  trivial
def FnGoal (h₀ : Heap) (L : Addr) (h : Heap) (P : Prop) : Prop := (∃ m₁, Fr h₀ L h m₁) ∧ P
theorem callC_fn {prog : Program} {w : World} {A : Around} {K : Frag} {pos : Pos} {f : Addr} {oc : Value} {od : Option Addr} {fd : FuncData} {osl : Array (Option Value)} {first : List Value} {args : List (Bool × Sem Value)} {R : Value → Shared → Prop} (X : K.In h₀) (ho : K.lookup f = some ⟨oc, od, .func fd, osl⟩)
    (h : wpAny (model prog w) A (evalArgs (.ref f) true args []) (fun x s₁ => FnGoal h₀ L s₁.heap (wpC (model prog w) A (call (.ref f) (first ++ x.pos) x.kw) R s₁)) NoE s) :
    wpC (model prog w) A (callWith pos (.ref f) first args []) R s :=
  callWith_functionC (o := ⟨oc, od, .func fd, osl⟩) (fd := fd) (wpAny_mono h (fun x s₁ h₁ => let ⟨⟨_, F⟩, k⟩ := h₁; ⟨⟨(X.keeps F.keep) _ _ ho, rfl⟩, k⟩) fun _ _ e => e)
theorem c_format_values {b : Array UInt8} {ks : List Int} {n bits : Int} {vx lx : Addr} {ep : Nat} {t tn : Tok} (hb : KBw.bInts b = ks) (hz : ks.length ≤ 1000) (hv : (vx, listOf #[.int n tn] ep) ∈ news) (hlim : LimAt news lx bits) (hb1 : 1 ≤ bits) (hb2 : bits ≤ 64) (hn : PySem.Flt.Hid (n.natAbs < 2 ^ 65)) (hlt : ks.getD (prOf ks 1).2.toNat 0 = 100 ∨ ks.getD (prOf ks 1).2.toNat 0 = 105 ∨ ks.getD (prOf ks 1).2.toNat 0 = 117 ∨ ks.getD (prOf ks 1).2.toNat 0 = 111 ∨ ks.getD (prOf ks 1).2.toNat 0 = 120 ∨ ks.getD (prOf ks 1).2.toNat 0 = 88)
  (hc0 : ks.getD 0 0 = 37) (hc1 : ks.getD 1 0 ≠ 37) (hln : 1 < ks.length) (hfl : flagE ks 1 ≤ 6) (hend : (prOf ks 1).2 + 1 = ks.length) (hnd : isDigit (ks.getD (prOf ks 1).2.toNat 0) = false)
  (S : Site w A₀ base h₀ outer L s.heap m news loose mean mg mb cs dp un 14)
  {R : Value → Shared → Prop}
  (hret : BRet h₀ L m news s R (fmtS (flagsOf ks 1) (wdOf ks 1).1 (prOf ks 1).1 (ks.getD (prOf ks 1).2.toNat 0) n bits)) :
  wpC (model PG w) (ktrTop dp un gd cn cs L a ccd cl outer) (call (.ref 336) [.bytes b t, .ref vx, .ref lx]) R s := by
  obtain ⟨B, F, X, N, T, hk, hdp, hun⟩ := S
  refine wpC_call ?_
  k_dflt (refine' code_defQ (binds := [(PySem.Str.ofString "text", .bytes b t), (PySem.Str.ofString "values", .ref vx), (PySem.Str.ofString "limits", .ref lx)]) ?k1 ?k2 ?k3 ?k4 ?k5 ?kA ?kF ?kK ?k6 ?k7 ?k8 ?k9 ?kB ?_ ?c2 ?c3 ?c4 ?c5; (case kA => exact rfl); (case kF => exact rfl); (case kK => assumption); (case k1 => k_asm); (case k2 => k_asm); (case k3 => k_asm); (case k4 => k_asm); (case k5 => k_asm); (case k6 => k_is); (case k7 => k_is); (case k8 => (dsimp only [ktrTop]; omega)); (case k9 => exact BindsTo.of_eq rfl); (case c5 => decide); (case kB => exact locs rfl); (case c2 => exact rfl); (case c3 => exact rfl); (case c4 => exact rfl); k_whole; intro g' L' h' FG' F' N' B' X' T'; (try dsimp only); (try k_fold))
  refine wpC_execs_cons (ReturnC (Call_NameC ?_))
  k_steps
  refine' callC_fn (h₀ := g') (L := L') ?kX ?kO (evalArgs_more ?_)
  case kX => assumption
  case kO => k_is
  k_steps
  refine ⟨⟨_, by k_asm⟩, ?_⟩
  k_dflt (refine' c_format_all ?zB ?z1 ?zP ?zL hb1 hb2 hn hlt hc0 hc1 hln hfl hend hnd ?zS ?_; (case zS => walk_at "site"); (case zB => walk_at "bi"); (case z1 => walk_at "sz"); (case zP => walk_at "plat"); (case zL => walk_at "limat"))
  intro b9 t9 h9 tk9 hb9 F9 N9
  dsimp only
  k_steps
  show R _ _
  exact bret hret hb9 rfl (by k_asm) (by walk_at "nn")

theorem reset_E3 : True ∧ True := by
  w_top off
  exact ⟨trivial, trivial⟩
theorem cutC {σ : Type} {M : Model} {A : Around} {Qf : Flow → Shared → Prop} {env : Env} {m₀ : PySem.Str → Option Value} {st : Stmt} {rest : List Stmt}
    (ps : σ → List (PySem.Str × Value)) (stored : List PySem.Str) (P : σ → Prop) (_F : Fr h₀ L s.heap m₀)
    (h1 : wpAny M A (exec st env) (CutPost h₀ L s news ps stored m₀ P Qf) NoE s)
    (h2 : ∀ (c : σ) (u : PySem.Str → Option Value) h' tk, P c → Fr h₀ L h' (kstB (fun z => if stored.contains z then u z else m₀ z) (ps c)) → News h₀ L h' news → wpC M A (execs rest env) Qf { s with heap := h', toks := tk }) :
    wpC M A (execs (st :: rest) env) Qf s := by
  refine wpC_execs_any (wpAny_mono h1 (fun f s₂ p => ?_) fun _ _ x => x)
  cases f with
  | ret v => exact p
  | brk => exact p
  | cont => exact p
  | next =>
    obtain ⟨c, h', tk, m', rfl, F, N, hk, hr, hp⟩ := p
    exact h2 c m' h' tk hp (ksw_fr hk hr F) N
theorem eq_opt {A : Around} {le : Option Int} {k : Int} {t u : Tok} (h : Q (.bool (decide (le = some k))) s) : wpAny (model PG w) A (compareOp .Eq (optV le t) (.int k u)) Q E s := by
  cases le with
  | none => exact EqNone.eq_none_int (by simpa using h)
  | some p => exact eq_int (by simpa [beqd] using h)
theorem cut_wide {M : Model} {A : Around} {Qf : Flow → Shared → Prop} {env : Env} {m₀ : PySem.Str → Option Value} {st : Stmt} {rest : List Stmt} {wd : Int} (_hw : wd ≤ 20) (F : Fr h₀ L s.heap m₀) (_N : News h₀ L s.heap news)
    (h1 : wpAny M A (exec st env) (CutPost (σ := Array UInt8 × Tok) h₀ L s news (fun c => [(PySem.Str.ofString "wide", .bytes c.1 c.2)]) [] m₀ (fun c => KBw.bInts c.1 = widS wd) Qf) NoE s)
    (h2 : ∀ (wb : Array UInt8) (wt : Tok) h' tk, KBw.bInts wb = widS wd → Fr h₀ L h' (fun z => if z = PySem.Str.ofString "wide" then some (.bytes wb wt) else m₀ z) → News h₀ L h' news → wpC M A (execs rest env) Qf { s with heap := h', toks := tk }) :
    wpC M A (execs (st :: rest) env) Qf s :=
  cutC _ _ _ F h1 fun c u h' tk hp F' N' => h2 c.1 c.2 h' tk hp F' N'
theorem cut_noth {M : Model} {A : Around} {Qf : Flow → Shared → Prop} {env : Env} {m₀ : PySem.Str → Option Value} {st : Stmt} {rest : List Stmt} {ks fl : List Int} {wd lt n k : Int} {le : Option Int} (_P : Parsed ks fl wd le lt) (_hn : n < k) (F : Fr h₀ L s.heap m₀) (_N : News h₀ L s.heap news)
    (h1 : wpAny M A (exec st env) (CutPost (σ := Bool) h₀ L s news (fun c => [(PySem.Str.ofString "is_nothing", .bool c)]) [] m₀ (fun c => c = nothS fl le lt n) Qf) NoE s)
    (h2 : ∀ h' tk, Fr h₀ L h' (fun z => if z = PySem.Str.ofString "is_nothing" then some (.bool (nothS fl le lt n)) else m₀ z) → News h₀ L h' news → wpC M A (execs rest env) Qf { s with heap := h', toks := tk }) :
    wpC M A (execs (st :: rest) env) Qf s :=
  cutC _ _ _ F h1 fun c u h' tk hp F' N' => by
    subst hp
    exact h2 h' tk F' N'
theorem widS_0 : widS 0 = [] := rfl
theorem noth_1 {fl : List Int} {le : Option Int} {lt n : Int} (h1 : le = some 0) (h2 : n = 0) (h3 : ([lt] == [(111 : Int)]) = true) : (!fl.contains 35) = nothS fl le lt n := by
  have h : lt = 111 := by simpa using h3
  subst h1 h2 h
  unfold nothS
  cases fl.contains 35 <;> simp
theorem noth_2 {fl : List Int} {le : Option Int} {lt n : Int} (h1 : le = some 0) (h2 : n = 0) (h3 : ([lt] == [(111 : Int)]) = false) : true = nothS fl le lt n := by
  have h : ¬ lt = 111 := by simpa using h3
  subst h1 h2
  unfold nothS
  simp [h]
theorem noth_2' {fl : List Int} {le : Option Int} {lt n : Int} (h1 : le = some 0) (h2 : n = 0) (h3 : ([lt] == [(111 : Int)]) = false) : (!([lt] == [(111 : Int)])) = nothS fl le lt n := by
  rw [h3]; exact noth_2 h1 h2 h3
theorem noth_3 {fl : List Int} {le : Option Int} {lt n : Int} (h : n ≠ 0) : false = nothS fl le lt n := by
  unfold nothS
  simp [h]
theorem noth_3' {fl : List Int} {le : Option Int} {lt n : Int} (h : n ≠ 0) : (n == 0) = nothS fl le lt n := by
  rw [← noth_3 h]; simpa using h
theorem noth_4 {fl : List Int} {le : Option Int} {lt n : Int} (h : ¬ le = some 0) : decide (le = some 0) = nothS fl le lt n := by
  unfold nothS
  simp [h]
theorem leOf_bd {kp : Int} (h0 : 0 ≤ kp) (h5 : kp < 5) : ∀ p, leOf kp = some p → 0 ≤ p ∧ p ≤ 100 := by
  have hc : kp = 0 ∨ kp = 1 ∨ kp = 2 ∨ kp = 3 ∨ kp = 4 := by omega
  rcases hc with rfl | rfl | rfl | rfl | rfl <;> (intro p hp; simp [leOf] at hp; try omega)
theorem bsOf_bd {kl : Int} (h0 : 0 ≤ kl) (h6 : kl < 6) : 0 ≤ bsOf kl ∧ bsOf kl ≤ 16 := by
  have hc : kl = 0 ∨ kl = 1 ∨ kl = 2 ∨ kl = 3 ∨ kl = 4 ∨ kl = 5 := by omega
  rcases hc with rfl | rfl | rfl | rfl | rfl | rfl <;> decide
theorem back_all {fl : List Int} {wd n bits kl kp : Int} (hb : 1 ≤ bits) (h0 : -2 ^ (bits - 1).toNat ≤ n) (h1 : n < 2 ^ (bits - 1).toNat) (hk : 0 ≤ kl) (hk6 : kl < 6) :
    textIn (fmtS fl wd (leOf kp) (ltOf kl) n bits) (bsOf kl) bits = dueS (nothS fl (leOf kp) (ltOf kl) n) n ∧ (bsOf kl = 10 → textIn (fmtS fl wd (leOf kp) (ltOf kl) n bits) 0 bits = dueS (nothS fl (leOf kp) (ltOf kl) n) n) :=
  ⟨fmt_read hb h0 h1 hk hk6 (.inl rfl), fun h => fmt_read hb h0 h1 hk hk6 (.inr ⟨rfl, h⟩)⟩
theorem noth_kept {fl : List Int} {le : Option Int} {lt n : Int} : nothS (fl.filter (fun x => x != 48)) le lt n = nothS fl le lt n := by
  unfold nothS
  rw [kept_contains (by omega)]
theorem n_small {n bits : Int} (hb1 : 1 ≤ bits) (hb2 : bits ≤ 64) (h0 : -2 ^ (bits - 1).toNat ≤ n) (h1 : n < 2 ^ (bits - 1).toNat) : PySem.Flt.Hid (n.natAbs < 2 ^ 65) := ⟨by
  have : (2 : Int) ^ (bits - 1).toNat ≤ 2 ^ 64 := by exact_mod_cast Nat.pow_le_pow_right (n := 2) (by omega) (by omega : (bits - 1).toNat ≤ 64)
  omega⟩
theorem all_facts {fl : List Int} {wd kp kl n bits : Int} (hw20 : wd ≤ 20) (hp5 : kp < 5) (hk6 : kl < 6) (hn0 : -2 ^ (bits - 1).toNat ≤ n) (hn1 : n < 2 ^ (bits - 1).toNat) (_hfg : ∀ c ∈ fl, isFlag c = true) (hb1 : 1 ≤ bits) (hb2 : bits ≤ 64) (hp0 : 0 ≤ kp) (hk0 : 0 ≤ kl) :
    ∃ (A B : List Int) (nb : Bool), fmtS fl wd (leOf kp) (ltOf kl) n bits = A ∧ fmtS (fl.filter (fun x => x != 48)) 0 (leOf kp) (ltOf kl) n bits = B ∧ nothS fl (leOf kp) (ltOf kl) n = nb ∧
    textIn A (bsOf kl) bits = dueS nb n ∧ (bsOf kl = 10 → textIn A 0 bits = dueS nb n) ∧ textIn B (bsOf kl) bits = dueS nb n ∧ (bsOf kl = 10 → textIn B 0 bits = dueS nb n) ∧ A.length ≤ 503 ∧ B.length ≤ 503 ∧ standsS A B fl wd (leOf kp) = true := by
  have hns := n_small hb1 hb2 hn0 hn1
  obtain ⟨a1, a2⟩ := back_all (fl := fl) (wd := wd) (kp := kp) hb1 hn0 hn1 hk0 hk6
  obtain ⟨b1, b2⟩ := back_all (fl := fl.filter (fun x => x != 48)) (wd := 0) (kp := kp) hb1 hn0 hn1 hk0 hk6
  rw [noth_kept] at b1 b2
  exact ⟨_, _, _, rfl, rfl, rfl, a1, a2, b1, b2, fmtS_len (leOf_bd hp0 hp5) (by omega) hns.out hb2, fmtS_len (leOf_bd hp0 hp5) (by omega) hns.out hb2, stands_fmt hk0 hk6⟩
theorem c_stands_true {b c : Array UInt8} {ks ls fl : List Int} {wd : Int} {le : Option Int} {t t2 t3 t4 : Tok} {fa : Addr} {vs : List Value} {ep : Nat} (hst : standsS ks ls fl wd le = true) (hb : KBw.bInts b = ks) (hc : KBw.bInts c = ls) (hz : ks.length ≤ 1000) (hz2 : ls.length ≤ 1000) (h5 : 0 ≤ wd) (h6 : wd ≤ 100)
  (hfl : (fa, listOf vs.toArray ep) ∈ news) (hfi : IntsAre vs fl)
  (S : Site w A₀ base h₀ outer L s.heap m news loose mean mg mb cs dp un 6)
  (hret : CbRet h₀ L m news s Q (fun _ => .bool true)) :
  wpAny (model PG w) (ktrTop dp un gd cn cs L a ccd cl outer) (call (.ref 378) [.bytes b t, .bytes c t2, .ref fa, .int wd t3, optV le t4]) Q E s :=
  c_law_stands hb hc hz hz2 h5 h6 hfl hfi S (by rw [hst]; exact hret)
theorem words_38 : True := by
  k_with "call ref" => ((k_here; (with_reducible show wpAny _ _ (call (Value.ref 378) [Value.bytes _ _, Value.bytes _ _, Value.ref _, Value.int _ _, _]) _ _ _); k_dflt (refine' c_stands_true (by assumption) ?zB ?zC ?z1 ?z2 ?z3 ?z4 ?z5 ?z6 ?zS ?_; (case zS => walk_at "site"); (case zB => walk_at "bi"); (case zC => walk_at "bi"); (case z1 => walk_at "sz"); (case z2 => walk_at "sz"); (case z3 => first | assumption | omega); (case z4 => first | assumption | omega); (case z5 => (repeat (first | exact .head _ | apply List.Mem.tail))); (case z6 => assumption)); intro t9 h9 tk9 F9 N9; (try dsimp only)))
  trivial
theorem flags_in {fl : List Int} (h : ∀ c ∈ fl, isFlag c = true) : KBa.In fl := fun c hc => by
  have := h c hc
  simp only [isFlag, List.contains_cons, List.contains_nil, Bool.or_eq_true, beq_iff_eq, Bool.or_false] at this
  omega
theorem carried_ints {vs : List Value} {ns : List Int} (h : CarriedAll vs (ns.map PyData.int)) : IntsAre vs ns := by
  have := CarriedAll.intsOf (f := fun x : Int => x) (as := ns) h
  rwa [List.map_id'] at this
inductive LeaveX (g : Heap) (L' : Addr) (news : List (Addr × Obj)) (H : Heap) (Qf : Flow → Shared → Prop) (v : Value) (s' : Shared) : Prop
  | mk (m' : PySem.Str → Option Value) (news' : List (Addr × Obj)) (F : Fr g L' s'.heap m') (N : News g L' s'.heap news') (hs : ∀ p ∈ news, p ∈ news') (k : (∀ b o, H.get? b = some o → s'.heap.get? b = some o) → Qf (.ret v) s') : LeaveX g L' news H Qf v s'
theorem words_39 : True := by
  k_with "LeaveX" => (k_extra "leave")
  trivial
theorem code_defX {A : Around} {K : Frag} {p : Program} {prog : Program} {env : Env} {Qf : Flow → Shared → Prop} {name qual : PySem.Str} {params : Arguments} {body : List Stmt} {scope : Scope} {dV kV doc pm cdv ct oc : Value} {an od : Option Addr} {osl : Array (Option Value)} {f : Addr} {args : Args} {binds : List (PySem.Str × Value)}
    (B : Below A₀ base outer h₀) (F : Fr h₀ L s.heap m) (X₀ : K.In h₀) (N : News h₀ L s.heap news) (T : Top p loose mean mg mb h₀) (hA : A.frames = some (env :: outer)) (hf : env.frame = some L) (hke : env.scope.kind = .function)
    (ho : K.lookup f = some ⟨oc, od, .func (fnOf name qual params body scope dV kV doc pm an cdv ct), osl⟩) (hcd : codeIn K cdv qual = true) (hroom : A.depth < recursionLimit)
    (hbind : BindsTo s (fnOf name qual params body scope dV kV doc pm an cdv ct) args binds) (hloc : ∀ y ∈ binds, scope.names.lookup y.1 = some .local)
    (h : ∀ g L' h₁, Fr h₀ L g m → Fr g L' h₁ (fun y => binds.reverse.lookup y) → News g L' h₁ news → Below A base (env :: outer) g → K.In g → Top p loose mean mg mb g →
      wpC (model prog w) (A.deeper (envOf qual scope L' f cdv)) (execs body (envOf qual scope L' f cdv))
        (fun fl s' => LeaveX g L' news s.heap Qf (match fl with | .ret v => v | _ => .none) s')
        { s with heap := h₁, toks := s.toks + binds.length })
    (hco : scope.isCoroutine = false) (hgen : scope.isGenerator = false) (hk : scope.kind = .function)
    (hcell : ∀ x ∈ scope.names, x.2 ≠ .cell) : codeC (model prog w) A (.call (.ref f) args) Qf s := by
  obtain ⟨FG, BG, st, _⟩ := groundX (R := RofQ Qf) B F N hA hf hke
  refine codeC_call_def (fd := fnX name qual params body scope [] dV kV doc pm an cdv ct) (body := body) (binds := binds) hroom ((X₀.keeps F.keep) _ _ ho) rfl (T.nolimit.keeps F.keep) (codeRec_of (X₀.keeps F.keep) hcd) rfl hbind hcell hloc (fun h₁ hns hk₁ => ?_) hco hgen hk
  refine wpC_mono (h _ s.heap.objs.size h₁ FG ⟨hns, fun b o e => hk₁ b o (of_hideAll _ e), Nat.le_of_eq (hideAll_size _ _)⟩
    (fun p hp => ⟨hk₁ _ _ (N p hp).1, Nat.ne_of_lt (Heap.lt_size (N p hp).1), hideAll_none _ (List.mem_map_of_mem hp)⟩) BG (X₀.keeps st) (T.keeps st)) (fun fl s' hl => ?_)
  obtain ⟨m', news', F', N', hs, k⟩ := hl
  exact k (elt_after (InElt.start s.heap) (fun b o e n => hideAll_get _ e n) N F' N' hs)
local macro_rules | `(tactic| is_list) => `(tactic| exact isListOf (by k_asm) (by first | assumption | exact .head _ | (apply List.Mem.tail; first | assumption | exact .head _ | (apply List.Mem.tail; first | assumption | exact .head _ | (apply List.Mem.tail; first | assumption | exact .head _)))))
theorem words_40 : True := by
  k_with "noth" => (first | exact noth_4 (by assumption) | exact noth_1 (by assumption) (by assumption) (by assumption) | exact noth_2 (by assumption) (by assumption) (by assumption) | exact noth_2' (by assumption) (by assumption) (by assumption) | exact noth_3 (by assumption) | exact noth_3' (by assumption))
  k_with "compareOp Eq" => ((k_here; (with_reducible show wpAny _ _ (compareOp CmpOp.Eq (optV _ _) (Value.int _ _)) _ _ _); (refine eq_opt ?_)))
  trivial
theorem c_fv {b : Array UInt8} {ks fl : List Int} {n bits wd lt : Int} {le : Option Int} {vx lx : Addr} {ep : Nat} {t tn : Tok} (P : Parsed ks fl wd le lt) (hl : lt = 100 ∨ lt = 105 ∨ lt = 117 ∨ lt = 111 ∨ lt = 120 ∨ lt = 88) (hb : KBw.bInts b = ks) (hz : ks.length ≤ 1000) (hv : (vx, listOf #[.int n tn] ep) ∈ news) (hlim : LimAt news lx bits) (hb1 : 1 ≤ bits) (hb2 : bits ≤ 64) (hn : PySem.Flt.Hid (n.natAbs < 2 ^ 65))
  (S : Site w A₀ base h₀ outer L s.heap m news loose mean mg mb cs dp un 14)
  {R : Value → Shared → Prop} (hret : BRet h₀ L m news s R (fmtS fl wd le lt n bits)) :
  wpC (model PG w) (ktrTop dp un gd cn cs L a ccd cl outer) (call (.ref 336) [.bytes b t, .ref vx, .ref lx]) R s := by
  obtain ⟨c0, c1, ln, fe, en, nd, e1, e2, e3, e4⟩ := P
  subst e1 e2 e3 e4
  exact c_format_values hb hz hv hlim hb1 hb2 hn hl c0 c1 ln fe en nd S hret
theorem c_law_number_right {x bits : Int} {lx : Addr} {t t2 : Tok} (hx : 0 ≤ x) (hb1 : 1 ≤ bits) (hb2 : bits ≤ 64) (hlim : LimAt news lx bits)
  (S : Site w A₀ base h₀ outer L s.heap m news loose mean mg mb cs dp un 18)
  {R : Value → Shared → Prop}
  (hret : ∀ h' tk', (∀ b o, s.heap.get? b = some o → h'.get? b = some o) → R (.bool true) { s with heap := h', toks := tk' }) :
  wpC (model PG w) (ktrTop dp un gd cn cs L a ccd cl outer) (call (.ref 383) [.int x t, .int bits t2, .ref lx]) R s := by
  obtain ⟨B, F, X, N, T, hk, hdp, hun⟩ := S
  k_with "leave" => (rename News _ _ _ _ => nZ; refine LeaveX.mk _ _ (by k_asm) nZ (fun p hp => .tail _ (.tail _ (.tail _ (.tail _ hp)))) fun keep => ?_; exact hret _ _ keep)
  k_with "cutE" => first | walk_at "cutE2" | walk_at "cutE1"
  k_with "cutp" => walk_at "noth"
  k_with "cutp" => (unfold widS; simp only [if_true, if_false, KBw.ints_list, List.map_nil, *]; done)
  refine wpC_call ?_
  k_dflt (refine' code_defX (binds := [(PySem.Str.ofString "cell", .int x t), (PySem.Str.ofString "bits", .int bits t2), (PySem.Str.ofString "limits", .ref lx)]) ?k1 ?k2 ?k3 ?k4 ?k5 ?kA ?kF ?kK ?k6 ?k7 ?k8 ?k9 ?kB ?_ ?c2 ?c3 ?c4 ?c5; (case kA => exact rfl); (case kF => exact rfl); (case kK => assumption); (case k1 => k_asm); (case k2 => k_asm); (case k3 => k_asm); (case k4 => k_asm); (case k5 => k_asm); (case k6 => k_is); (case k7 => k_is); (case k8 => (dsimp only [ktrTop]; omega)); (case k9 => exact BindsTo.of_eq rfl); (case c5 => decide); (case kB => exact locs rfl); (case c2 => exact rfl); (case c3 => exact rfl); (case c4 => exact rfl); k_whole; intro g' L' h' FG' F' N' B' X' T'; (try dsimp only); (try k_fold))
  refine wpC_execs_any ?_
  k_steps
  rename (∀ c ∈ _, isFlag c = true) => hfg
  rename (List.length _ ≤ 5) => hf5
  rename (_ ≤ (20 : Int)) => hw20
  rename (_ < (5 : Int)) => hp5
  rename (_ < (6 : Int)) => hk6
  rename (-2 ^ _ ≤ _) => hn0
  rename (_ < 2 ^ _) => hn1
  rename IntsAre _ _ => hvi
  have hin := flags_in hfg
  have hvl := hvi.length
  have hvl5 := Nat.le_trans (Nat.le_of_eq hvl) hf5
  have hwl := widS_len hw20
  have hdl := dotOf_len (by assumption) hp5
  have hns := n_small hb1 hb2 hn0 hn1
  have hbb := bsOf_bd (by assumption) hk6
  have hbb0 := hbb.1
  have hbb1 := hbb.2
  have hpar := parse_all hf5 hfg (by assumption) hw20 (by assumption) hp5 (by assumption) hk6
  have hpar2 := parse_all (Nat.le_trans kept_len hf5) (fun c hc => hfg c (kept_sub c hc)) (wd := 0) (by omega) (by omega) (by assumption) hp5 (by assumption) hk6
  rename News _ _ _ _ => nE
  rename Fr _ _ _ _ => fE
  refine cut_wide hw20 fE nE ?_ ?_
  · k_steps
  intro wb wt h2 tk2 hwb F2 N2
  refine wpC_execs_cons (Assign_NameC (Call_NameC ?_))
  k_steps
  refine' callC_fn (h₀ := g') (L := L') ?kX ?kO (evalArgs_more ?_)
  case kX => assumption
  case kO => k_is
  k_steps
  refine ⟨⟨_, by k_asm⟩, ?_⟩
  k_dflt (refine' c_fv hpar (ltOf_in (by assumption) hk6) (Eq.trans (by assumption) (by simp only [List.append_assoc, List.cons_append, List.nil_append])) ?z1 ?zV ?zL hb1 hb2 hns ?zS ?_; (case zS => walk_at "site"); (case z1 => (simp only [List.length_cons, List.length_append, List.length_nil]; omega)); (case zV => exact .head _); (case zL => walk_at "limat"))
  intro b9 t9 h9 tk9 hb9 F9 N9
  dsimp only
  k_steps
  refine wpC_execs_any ?_
  k_steps
  rename CarriedAll _ _ => hca
  have hki := carried_ints hca
  have hkin := flags_in (fun c hc => hfg c (kept_sub c hc))
  have hkl := Nat.le_trans (kept_len) hf5
  have hkv := hki.length
  have hkv5 := Nat.le_trans (Nat.le_of_eq hkv) hkl
  k_steps
  refine wpC_execs_cons (Assign_NameC (Call_NameC ?_))
  k_steps
  refine' callC_fn (h₀ := g') (L := L') ?kX ?kO (evalArgs_more ?_)
  case kX => assumption
  case kO => k_is
  k_steps
  refine ⟨⟨_, by k_asm⟩, ?_⟩
  k_dflt (refine' c_fv hpar2 (ltOf_in (by assumption) hk6) (Eq.trans (by assumption) (by simp only [widS_0, List.append_assoc, List.cons_append, List.nil_append])) ?z1 ?zV ?zL hb1 hb2 hns ?zS ?_; (case zS => walk_at "site"); (case z1 => (simp only [List.length_cons, List.length_append, List.length_nil, widS_0]; omega)); (case zV => exact .head _); (case zL => walk_at "limat"))
  intro b8 t8 h8 tk8 hb8 F8 N8
  dsimp only
  k_steps
  rename News _ _ _ _ => nE
  rename Fr _ _ _ _ => fE
  refine cut_noth hpar hn1 fE nE ?_ ?_
  · k_steps
  intro h3 tk3 F3 N3
  obtain ⟨tA, tB, nb, eA, eB, en, a1, a2, b1, b2, hl1, hl2, hst⟩ := all_facts hw20 hp5 hk6 hn0 hn1 hfg hb1 hb2 (by assumption) (by assumption)
  rw [eA] at hb9
  rw [eB] at hb8
  rw [en] at F3
  clear eA eB en hpar hpar2 nE fE
  refine wpC_execs_any ?_
  k_steps
  dsimp only
  clear a1 a2 b1 b2
  refine wpC_execs_any ?_
  k_steps

theorem reset_E4 : True ∧ True := by
  w_top off
  exact ⟨trivial, trivial⟩
def bitOf (k : Int) : Int := [8, 16, 32, 64].getD k.toNat 0
theorem bitOf_bd {k : Int} (h0 : 0 ≤ k) (h1 : k < 4) : 1 ≤ bitOf k ∧ bitOf k ≤ 64 := by
  have hc : k = 0 ∨ k = 1 ∨ k = 2 ∨ k = 3 := by omega
  rcases hc with rfl | rfl | rfl | rfl <;> decide
theorem item_bits {A : Around} {value slice : PySem.Expr} {l : Addr} {t0 t1 t2 t3 : Tok} {k : Int} {uk : Tok} (hl : s.heap.IsList l (List.toArray [.int 8 t0, .int 16 t1, .int 32 t2, .int 64 t3])) (h0 : 0 ≤ k) (h1 : k < 4) (h : ∀ t, Q (.int (bitOf k) t) s)
  (hs : subscripted slice false (.ref l) (.int k uk) = operate [.ref l, .int k uk] (getItem (.ref l) (.int k uk)) := by with_unfolding_all rfl) :
  wpAny (model PG w) A (subscriptTail value slice (.ref l) (.int k uk)) Q E s := by
  have hc : k = 0 ∨ k = 1 ∨ k = 2 ∨ k = 3 := by omega
  rcases hc with rfl | rfl | rfl | rfl
  · exact item_litK (v := .int 8 t0) hl (by decide) (by decide) rfl (h t0) hs
  · exact item_litK (v := .int 16 t1) hl (by decide) (by decide) rfl (h t1) hs
  · exact item_litK (v := .int 32 t2) hl (by decide) (by decide) rfl (h t2) hs
  · exact item_litK (v := .int 64 t3) hl (by decide) (by decide) rfl (h t3) hs
theorem words_41 : True := by
  k_with "subscriptTail" => ((k_here; (with_reducible show wpAny _ _ (subscriptTail _ _ (Value.ref _) (Value.int (Int.fmod _ 4) _)) _ _ _); k_dflt (refine' item_bits ?k1 ?k2 ?k3 ?_ ?k4; (case k1 => is_list); (case k2 => exact (fmod_bd (by omega)).1); (case k3 => exact (fmod_bd (by omega)).2); (case k4 => with_unfolding_all rfl)); intro t9; (try dsimp only)))
  trivial
theorem c_Limits {wd : Int} {t : Tok} (S : Site w A₀ base h₀ outer L s.heap m news loose mean mg mb cs dp un 4)
  (hret : ∀ x dx es n t h' tk', Fr h₀ L h' m → News h₀ L h' ((x, instObj 46 dx) :: (dx, dictOf es n) :: news) → getL (PySem.Str.ofString "width") es = some (some (.int wd t)) → Q (.ref x) { s with heap := h', toks := tk' }) :
  wpAny (model PG w) (ktrTop dp un gd cn cs L a ccd cl outer) (call (.ref 46) [] [(PySem.Str.ofString "width", .int wd t)]) Q E s := by
  obtain ⟨B, F, X, N, T, hk, hdp, hun⟩ := S
  k_dflt (refine' call_cls ?k1 ?k2 ?k3 ?k4 ?k5 ?k6 ?_; (case k1 => k_asm); (case k2 => k_asm); (case k3 => k_asm); (case k4 => k_is); (case k5 => k_is); (case k6 => k_is); k_whole)
  intro x' d' h1 F1 N1 l1 l2
  (try k_lt l1)
  (try k_lt2 l2)
  (try k_sweep)
  k_dflt (refine' code_def ?k1 ?k2 ?k3 ?k4 ?k5 ?kA ?kF ?kK ?k6 ?k7 ?k8 ?k9 ?kB ?_ ?c2 ?c3 ?c4 ?c5; (case kA => exact rfl); (case kF => exact rfl); (case kK => assumption); (case k1 => k_asm); (case k2 => k_asm); (case k3 => k_asm); (case k4 => k_asm); (case k5 => k_asm); (case k6 => k_is); (case k7 => k_is); (case k8 => (show dp + 1 < recursionLimit; omega)); (case k9 => first | exact BindsTo.of_eq rfl | exact binds_K (by k_in) rfl (by k_is) rfl rfl rfl); (case c5 => decide); (case kB => exact locs rfl); (case c2 => exact rfl); (case c3 => exact rfl); (case c4 => exact rfl); k_whole; intro g' L' h' FG' F' N' B' X' T'; (try dsimp only); (try k_fold))
  k_steps
  rename News h₀ _ _ _ => kN
  exact hret x' d' _ _ _ _ _ (by k_asm) kN (by first | k_get | rfl)
theorem words_42 : True := by
  k_with "call ref" => ((k_here; (with_reducible show wpAny _ _ (call (Value.ref 46) _ _) _ _ _); (with_unfolding_all change wpAny _ _ (call (Value.ref 46) [] [(PySem.Str.ofString "width", Value.int _ _)]) _ _ _); k_dflt (refine' c_Limits (by walk_at "site") ?_); intro x9 y9 es9 n9 t9 h9 tk9 F9 N9 hw9; (try dsimp only)))
  trivial
theorem reset_E4L : True ∧ True := by
  w_top off
  exact ⟨trivial, trivial⟩
theorem words_43 : True := by
  k_with "site" => ((refine ⟨by k_asm, by k_asm, by k_asm, by k_asm, by k_asm, by exact rfl, by decide, by decide⟩))
  trivial
inductive CellsEnd (h₀ : Heap) (L : Addr) (s : Shared) (news : List (Addr × Obj)) (m₀ : PySem.Str → Option Value) (s₂ : Shared) : Prop
  | mk (D : Addr) (vs : List Value) (ns : List Int) (h' : Heap) (tk : Nat) (e : s₂ = { s with heap := h', toks := tk }) (F : Fr h₀ L h' (fun z => if z = PySem.Str.ofString "cells" then some (.ref D) else m₀ z)) (N : News h₀ L h' news) (hl : h'.IsList D vs.toArray) (hi : IntsAre vs ns) (hlen : ns.length ≤ 63) (hp : ∀ k ∈ ns, 0 ≤ k) : CellsEnd h₀ L s news m₀ s₂
def CellsPost (h₀ : Heap) (L : Addr) (s : Shared) (news : List (Addr × Obj)) (m₀ : PySem.Str → Option Value) (Qf : Flow → Shared → Prop) (f : Flow) (s₂ : Shared) : Prop :=
  match f with
  | .ret v => Qf (.ret v) s₂
  | .next => CellsEnd h₀ L s news m₀ s₂
  | f => Qf f s₂
theorem cut_cells {M : Model} {A : Around} {Qf : Flow → Shared → Prop} {env : Env} {m₀ : PySem.Str → Option Value} {st : Stmt} {rest : List Stmt} (_F : Fr h₀ L s.heap m₀) (_N : News h₀ L s.heap news)
    (h1 : wpAny M A (exec st env) (CellsPost h₀ L s news m₀ Qf) NoE s)
    (h2 : ∀ D vs ns h' tk, IntsAre vs ns → ns.length ≤ 63 → (∀ k ∈ ns, 0 ≤ k) → h'.IsList D vs.toArray → Fr h₀ L h' (fun z => if z = PySem.Str.ofString "cells" then some (.ref D) else m₀ z) → News h₀ L h' news → wpC M A (execs rest env) Qf { s with heap := h', toks := tk }) :
    wpC M A (execs (st :: rest) env) Qf s := by
  refine wpC_execs_any (wpAny_mono h1 (fun f s₂ p => ?_) fun _ _ x => x)
  cases f with
  | ret v => exact p
  | brk => exact p
  | cont => exact p
  | next =>
    obtain ⟨D, vs, ns, h', tk, rfl, F, N, hl, hi, hlen, hp⟩ := p
    exact h2 D vs ns h' tk hi hlen hp hl F N
theorem words_44 : True := by
  k_with "CellsPost" => ((dsimp only [CellsPost]))
  k_with "CellsEnd" => (k_extra "cells")
  trivial
theorem bits_bd {x : Int} : 1 ≤ bitOf (x.fmod 4) ∧ bitOf (x.fmod 4) ≤ 64 := bitOf_bd (fmod_bd (by omega)).1 (fmod_bd (by omega)).2
theorem list_nilC {M : Model} {A : Around} {env : Env} {pos : Pos} {Q E : Value → Shared → Prop} {s : Shared} (h : Q (.ref s.heap.objs.size) { s with heap := s.heap.push { cls := .type "list", dict := none, data := .seq ([] : List Value).toArray } }) : wpAny M A (eval (.List [] pos) env) Q E s := by
  rw [arm_eval_List]
  refine wpAny_bind (wpAny_standAt (wpAny_bind (wpAny_of_eq (a := ([] : List Value)) rfl ?_)))
  exact wpAny_newObj_type h
theorem nil_eqC {A : Around} {env : Env} {pos : Pos} {Q : Value → Shared → Prop} {s : Shared} {D : Addr} (hl : s.heap.IsList D #[]) (hu : A.units + 64 < cLine)
    (h : ∀ h', (∀ b o, s.heap.get? b = some o → h'.get? b = some o) → Q (.bool true) { s with heap := h' }) :
    wpAny (model PG w) A (eval (.List [] pos) env) (fun rv s₂ => wpAny (model PG w) A (compareOp .Eq (.ref D) rv) Q NoE s₂) NoE s := by
  refine list_nilC ?_
  obtain ⟨o, ho, hc, n, hd⟩ := hl
  refine eq_intsK (vs := []) (us := []) (ns := []) (ms := []) ⟨o, Heap.get?_push_of_some _ ho, hc, n, hd⟩ .nil ⟨_, Heap.get?_push_size _ rfl, rfl, 0, rfl⟩ .nil hu ?_
  exact h _ fun b o e => Heap.get?_push_of_some _ e
theorem abs_len {l : List Int} : ((l.take 4).map (fun k' => ((k'.natAbs : Nat) : Int))).length ≤ 63 := by
  rw [List.length_map, List.length_take]; omega
theorem abs_pos {l : List Int} : ∀ k ∈ l.map (fun k' => ((k'.natAbs : Nat) : Int)), 0 ≤ k := fun k hk => by
  obtain ⟨a, _, rfl⟩ := List.mem_map.mp hk
  omega
theorem ints3 {a b c : Int} {t1 t2 t3 : Tok} : IntsAre [.int a t1, .int b t2, .int c t3] [a, b, c] := .cons _ _ (.cons _ _ (.cons _ _ .nil))
theorem mem_int : ∀ {vs : List Value} {ns : List Int} {v : Value}, IntsAre vs ns → v ∈ vs → ∃ x t, v = .int x t ∧ x ∈ ns
  | _, _, _, .nil, h => nomatch h
  | _, _, _, .cons k t r, h => by
    rcases List.mem_cons.mp h with rfl | h
    · exact ⟨k, t, rfl, .head _⟩
    · obtain ⟨x, t, e, hx⟩ := mem_int r h
      exact ⟨x, t, e, .tail _ hx⟩
theorem law_holds : PySem.Challenge.rw_pc0168_01.Holds := hd (by
  k_fill
  k_with "cells" => (rename News _ _ _ _ => nZ; first
    | exact CellsEnd.mk _ _ _ _ _ rfl (by k_asm) (fun p hp => nZ p (.tail _ (.tail _ hp))) (News.isList nZ (.head _)) (by assumption) abs_len abs_pos
    | exact CellsEnd.mk _ _ [619221930, 5, 38] _ _ rfl (by k_asm) (fun p hp => nZ p (.tail _ hp)) (isListOf nZ (.head _)) ints3 (by decide) (by decide))
  intro w s₀ s₁ mg mb G Y fa o pm cd doc dV kV ho hd hcd hD hmg hg args vals as hpre hlay hrd hwl hlo
  have KX := kIn_of Y
  have X := (Ground.X G).1
  have V := (Ground.X G).2
  refine Ground.open G ?_
  intro T B D TE TW
  try (refine guard_noD D (by decide +kernel) ?_; clear D)
  obtain ⟨_, _, M⟩ := bmod_of_top T
  have TA := at_of_top T
  try (obtain ⟨_, _, he, B0⟩ := based_of_top T rfl hmg ho hd; have he' : cd = _ := he; subst he'; clear he)
  clear hmg
  wrow_args hpre hlay hrd hwl hlo
  have K0 := below_caller (Top.heap T)
  have he := Dflts.none hD rfl
  subst he
  have he := Dflts.noKw hD
  subst he
  rw [show PySem.Challenge.rw_pc0168_01.row.prog = PG from rfl]
  refine wpC_call (call_cellsC (by decide) ho (fd_plain hd) (Top.nolimit T) hcd rfl (kinds_of (by kinds_ok)) (by decide) fun h₁ tk₁ cells F N0 X0 => ?_)
  cells_open X0
  clear X0
  rename (_ = Data.cell (bindC _ _ _ _)) => hcR
  have hcR' : _ = Data.cell none := hcR
  clear hcR
  rename (_ = Data.cell (bindC _ _ _ _)) => hcL
  have hcL' : _ = Data.cell none := hcL
  clear hcL
  clear hd TA
  k_drop
  dsimp only
  (try k_fold)
  clear V B TE TW M hD hcd
  refine wpC_execs_any ?_
  k_steps
  refine wpC_execs_any ?_
  k_steps
  rename News _ _ _ _ => nC
  rename Fr _ _ _ _ => fC
  simp only [List.cons_append, List.nil_append] at nC
  refine cut_cells fC nC ?_ ?_
  · k_steps
  intro D vs ns hh tkk hvi hlen hpos hlst fD nD
  refine wpC_execs_cons (ReturnC (CompareC ?_))
  refine ListCompC rfl (by with_unfolding_all rfl) (by decide) (by with_unfolding_all rfl) (by decide) (by with_unfolding_all rfl) (nameX_L fD (if_pos rfl) ⟨D, vs, rfl, hlst, ?_, ?_, ?_⟩) (by intro _; with_unfolding_all rfl)
  · rw [sizeLine_eq]; have := hvi.length; omega
  · intro C v s₂ m₂ hv hns hm hkeep g1 g2 g3
    obtain ⟨x, t, rfl, hx⟩ := mem_int hvi hv
    have hx0 := hpos x hx
    have F2 := fD.keeps hkeep
    have N2 := nD.grown hkeep
    refine testNotC (Call_NameC ?_)
    k_steps
    refine' callC_fn (h₀ := s₁.heap) (L := s₁.heap.objs.size) ?kX ?kO (evalArgs_more ?_)
    case kX => exact KX
    case kO => k_is
    k_steps
    refine ⟨⟨_, F2⟩, ?_⟩
    k_dflt (refine' c_law_number_right hx0 bits_bd.1 bits_bd.2 ?zL ?zS ?_; (case zS => walk_at "site"); (case zL => exact ⟨_, _, _, _, .head _, .tail _ (.head _), by assumption⟩))
    intro h9 tk9 keep9
    exact ⟨by first | rfl | trivial, by first | rfl | trivial, h9, tk9, rfl, keep9⟩
  · intro Dr h' tk keep hl
    refine nil_eqC hl (Nat.le_of_ble_eq_true rfl) fun h5 k5 => ?_
    have F2 := (fD.keeps keep).keeps k5
    have N2 := (nD.grown keep).grown k5
    dsimp only
    refine GoodW.toG ?_
    k_steps
  )

end
end Mine
end
set_option maxHeartbeats 4000000 in
theorem PySem.Challenge.cw_pc0168_01_holds : PySem.Challenge.rw_pc0168_01.Holds :=
  Mine.law_holds

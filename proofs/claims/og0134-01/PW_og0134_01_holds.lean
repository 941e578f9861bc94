import PyProof.Rows.All
import Wide.All
import OpenK.AllK
import Wide.FinOn
import PyProof.ExcArgsOwn
import PySem.Challenge.RW_og0134_01
set_option Elab.async false
section
open PySem PySem.W PyProof.Rows PySem.Calls PySem.Spec
namespace Mine
open Sem (wp)
/-! ## A logic over calm stacks: no code on the stack that holds a bytearray -/
def badIds : List String := Builtin.Bytes.decodersThatHold ++ ["bytearray.__contains__", "bytearray.__mod__", "bytearray.__rmod__", "_struct.pack_into.held", "bytearray.find.held"]
def calm : Code → Bool
  | .builtin id _ => !badIds.contains id
  | _ => true
def CalmL (l : List (Code × Pos)) : Prop := ∀ x ∈ l, calm x.1 = true
def wpR {α : Type} (M : Model) (A : Around) (t : Sem α) (Q : α → Shared → Prop) (E : Value → Shared → Prop) (s : Shared) : Prop :=
  ∀ Γ p, Γ.In A → calm Γ.code = true → CalmL Γ.below → wp M Γ t (fun a _ s' => Q a s') (fun e _ s' => E e s') p s
def codeR (M : Model) (A : Around) (c : Code) (R : Result → Shared → Prop) (s : Shared) : Prop :=
  ∀ Γ p, Γ.code = c → Γ.Below A → CalmL Γ.below → wpCode M Γ R p s
section
variable {α β : Type} {M : Model} {A : Around} {E : Value → Shared → Prop} {s : Shared}
theorem wpR_of {t : Sem α} {Q : α → Shared → Prop} (h : wpAny M A t Q E s) : wpR M A t Q E s := fun Γ p hΓ _ _ => h Γ p hΓ
theorem wpR_pure {a : α} {Q : α → Shared → Prop} (h : Q a s) : wpR M A (pure a) Q E s := fun _ _ _ _ _ => h
theorem wpR_mono {t : Sem α} {Q Q' : α → Shared → Prop} {E' : Value → Shared → Prop} (h : wpR M A t Q E s)
    (hQ : ∀ a s, Q a s → Q' a s) (hE : ∀ e s, E e s → E' e s) : wpR M A t Q' E' s :=
  fun Γ p h1 h2 h3 => Sem.wp_mono M Γ t (fun a _ s => hQ a s) (fun e _ s => hE e s) p s (h Γ p h1 h2 h3)
theorem wpR_bind {m : Sem α} {f : α → Sem β} {Q : β → Shared → Prop} (h : wpR M A m (fun a s' => wpR M A (f a) Q E s') E s) :
    wpR M A (m >>= f) Q E s := fun Γ p h1 h2 h3 => by
  rw [Sem.wp_bind']
  exact Sem.wp_mono M Γ m (fun a p' s' h' => h' Γ p' h1 h2 h3) (fun _ _ _ h' => h') p s (h Γ p h1 h2 h3)
theorem wpR_bindA {m : Sem α} {f : α → Sem β} {Q : β → Shared → Prop} (h : wpAny M A m (fun a s' => wpR M A (f a) Q E s') E s) :
    wpR M A (m >>= f) Q E s := wpR_bind (wpR_of h)
theorem wpR_holding {vs : List Value} {m : Sem α} {Q : α → Shared → Prop} (h : wpR M A m Q E s) : wpR M A (holding vs m) Q E s :=
  fun Γ p h1 h2 h3 => by rw [Sem.wp_holding]; exact h Γ p h1 h2 h3
theorem wpR_standAt {pos : Pos} {Q : Unit → Shared → Prop} (h : Q () s) : wpR M A (standAt pos) Q E s := fun _ _ _ _ _ => h
theorem wpR_onRaise {m : Sem α} {k : Value → Sem Unit} {Q : α → Shared → Prop}
    (h : wpR M A m Q (fun e s' => wpR M A (k e) (fun _ s'' => E e s'') E s') s) : wpR M A (m.onRaise k) Q E s := fun Γ p h1 h2 h3 => by
  rw [Sem.wp_onRaise]
  exact Sem.wp_mono M Γ m (fun _ _ _ h' => h') (fun e p' s' h' => h' Γ p' h1 h2 h3) p s (h Γ p h1 h2 h3)
theorem wpR_attempt {m : Sem α} {Q : Except Value α → Shared → Prop} (h : wpR M A m (fun a => Q (.ok a)) (fun e => Q (.error e)) s) :
    wpR M A m.attempt Q E s := fun Γ p h1 h2 h3 => by rw [Sem.wp_attempt]; exact h Γ p h1 h2 h3
theorem wpR_operate {vs : List Value} {m : Sem Value} {Q : Value → Shared → Prop} (h : wpR M A m Q E s) : wpR M A (operate vs m) Q E s :=
  fun Γ p h1 h2 h3 => by rw [Sem.wp_operate]; exact h Γ p h1 h2 h3

theorem codeR_of {c : Code} {R : Result → Shared → Prop} (h : codeAny M A c R s) : codeR M A c R s := fun Γ p hc hΓ _ => h Γ p hc hΓ
theorem codeR_mono {c : Code} {R R' : Result → Shared → Prop} (h : codeR M A c R s) (hR : ∀ r s, R r s → R' r s) : codeR M A c R' s :=
  fun Γ p hc hΓ hn => wpCode_mono hR (h Γ p hc hΓ hn)
theorem calm_enter {Γ : PySem.Ctx} (h2 : calm Γ.code = true) (h3 : CalmL Γ.below) (c : Code) (h : Option Value) (p : Pos) : CalmL (Γ.enter c h p).below := by
  intro x hx
  have hx' : x ∈ (Γ.code, p) :: Γ.below := hx
  rcases List.mem_cons.mp hx' with rfl | hx''
  · exact h2
  · exact h3 x hx''
theorem wpR_run {c : Code} {h : Option Value} {Q : Flow → Shared → Prop}
    (hc : codeR M (A.mark h) c (fun r s' => match r with | .ok f => Q f s' | .error e => E e s') s) (hnb : h ≠ some byPass := by intro x; cases x) :
    wpR M A (run c h) Q E s :=
  fun Γ p h1 h2 h3 => by rw [Sem.wp_run]; exact hc _ p rfl (h1.enter c h p hnb) (calm_enter h2 h3 c h p)
theorem wpR_runValue {c : Code} {Q : Value → Shared → Prop}
    (hc : codeR M A c (fun r s' => match r with | .ok (.ret v) => Q v s' | .ok _ => False | .error e => E e s') s) :
    wpR M A (runValue c) Q E s := fun Γ p h1 h2 h3 => by rw [Sem.wp_runValue]; exact hc _ p rfl (h1.enter c none p (by intro x; cases x)) (calm_enter h2 h3 c none p)
theorem wpR_call {f : Value} {pos : List Value} {kw : List (Str × Value)} {Q : Value → Shared → Prop}
    (hc : codeR M A (.call f ⟨pos, kw⟩) (fun r s' => match r with | .ok (.ret v) => Q v s' | .ok _ => False | .error e => E e s') s) :
    wpR M A (call f pos kw) Q E s := wpR_runValue hc
theorem codeR_of_tree {c : Code} {R : Result → Shared → Prop} (hc : calm c = true)
    (h : wpR M (A.under c) (M.den c) (fun fin s' => match fin with | .done f => R (.ok f) s' | .again c' => c'.quiet = true ∧ codeR M A c' R s')
      (fun e s' => R (.error e) s') s) : codeR M A c R s := fun Γ p hcode hΓ hn => by
  rw [wpCode_iff_wp, hcode]
  refine Sem.wp_mono M Γ _ (fun fin p' s' h' => ?_) (fun _ _ _ h' => h') p s (h Γ p (hcode ▸ hΓ.in) (hcode ▸ hc) hn)
  cases fin with
  | done f => exact h'
  | again c' => exact ⟨h'.1, h'.2 (Γ.goto c') p' rfl (hΓ.goto c') hn⟩
theorem codeR_loop {c : Code} {R : Result → Shared → Prop} (hcm : calm c = true) (hq : c.quiet = true) (I : Nat → Shared → Prop)
    (turn : ∀ n s, I n s → wpR M (A.under c) (M.den c)
      (fun fin s' => match fin with
        | .done f => R (.ok f) s'
        | .again c' => (c' = c ∧ ∃ m, m < n ∧ I m s') ∨ (c'.quiet = true ∧ codeR M A c' R s')) (fun e s' => R (.error e) s') s)
    (n : Nat) (h : I n s) : codeR M A c R s := by
  induction n using Nat.strongRecOn generalizing s with
  | ind n ih =>
    refine codeR_of_tree hcm (wpR_mono (turn n s h) (fun fin s' hf => ?_) fun _ _ h' => h')
    cases fin with
    | done f => exact hf
    | again c' =>
      rcases hf with ⟨rfl, m, hm, hI⟩ | hf
      · exact ⟨hq, ih m hm hI⟩
      · exact hf
theorem not_dif {p : Prop} [Decidable p] {f : p → Bool} {g : ¬p → Bool} (hn : ¬p) (h : g hn = false) : dite p f g = false := by rw [dif_neg hn]; exact h
theorem calm_ne {id : String} {args : Args} (h : calm (.builtin id args) = true) {n : String} (hn : badIds.contains n = true) : ¬ id = n := fun e => by
  subst e
  have h' : (!badIds.contains id) = true := h
  rw [hn] at h'
  exact Bool.noConfusion h'
/-- the call's own stack is calm: it exports no bytearray -/
theorem exported_calm (self : Value) : wpR M A (Builtin.Bytes.exported self) (fun b s' => b = false ∧ s' = s) E s := by
  intro Γ p _ h2 h3
  unfold Builtin.Bytes.exported
  show (List.any ((Γ.code, p) :: Γ.below) _) = false ∧ s = s
  refine ⟨?_, rfl⟩
  rw [List.any_eq_false]
  intro x hx
  have hcx : calm x.1 = true := by
    rcases List.mem_cons.mp hx with rfl | hx'
    · exact h2
    · exact h3 x hx'
  clear hx h2 h3
  obtain ⟨cx, px⟩ := x
  rw [Bool.not_eq_true]
  cases cx with
  | builtin id args =>
    obtain ⟨pos, kw⟩ := args
    delta Builtin.Bytes.exported.match_1
    refine not_dif (calm_ne hcx (by decide)) ?_
    refine not_dif (calm_ne hcx (by decide)) ?_
    refine not_dif (calm_ne hcx (by decide)) ?_
    refine not_dif (calm_ne hcx (by decide)) ?_
    refine not_dif (calm_ne hcx (by decide)) ?_
    cases pos with
    | nil => rfl
    | cons v vs =>
      show (Builtin.Bytes.sameRef v self && Builtin.Bytes.decodersThatHold.contains id) = false
      have h' : (!badIds.contains id) = true := hcx
      rw [badIds, List.contains_append, Bool.not_or, Bool.and_eq_true, Bool.not_eq_true'] at h'
      rw [h'.1, Bool.and_false]
  | _ => rfl
end
end Mine
end
section
open PySem PySem.W PyProof.Rows PySem.Calls PySem.Spec
namespace Mine
open Sem (wp)
set_option maxRecDepth 100000
namespace FB
theorem mro : mroOf (.type "bytearray") = pure [.type "bytearray", .type "object"] := by rw [mroOf_type]; kernel_rfl
theorem lookup_new : typeLookup (.type "bytearray") "__new__" = pure (some (.builtin "bytearray.__new__")) := by rw [typeLookup_type, builtinLookup_eq_fast]; kernel_rfl
theorem slot_init : Slot "bytearray" "__init__" "bytearray.__init__" :=
  .of (owner := "bytearray") (n := "__init__") (by rw [typeLookup_type, builtinLookup_eq_fast]; kernel_rfl) (by decide +kernel) (by decide +kernel) (by decide +kernel)
    (by first | exact .inl (by decide +kernel) | exact .inr (by decide +kernel)) (by rw [isSubtype_type]; kernel_rfl)
theorem slot_append : Slot "bytearray" "append" "bytearray.append" :=
  .of (owner := "bytearray") (n := "append") (by rw [typeLookup_type, builtinLookup_eq_fast]; kernel_rfl) (by decide +kernel) (by decide +kernel) (by decide +kernel)
    (by first | exact .inl (by decide +kernel) | exact .inr (by decide +kernel)) (by rw [isSubtype_type]; kernel_rfl)
theorem slot_len : Slot "bytearray" "__len__" "bytearray.__len__" :=
  .of (owner := "bytearray") (n := "__len__") (by rw [typeLookup_type, builtinLookup_eq_fast]; kernel_rfl) (by decide +kernel) (by decide +kernel) (by decide +kernel)
    (by first | exact .inl (by decide +kernel) | exact .inr (by decide +kernel)) (by rw [isSubtype_type]; kernel_rfl)
theorem slot_getitem : Slot "bytearray" "__getitem__" "bytearray.__getitem__" :=
  .of (owner := "bytearray") (n := "__getitem__") (by rw [typeLookup_type, builtinLookup_eq_fast]; kernel_rfl) (by decide +kernel) (by decide +kernel) (by decide +kernel)
    (by first | exact .inl (by decide +kernel) | exact .inr (by decide +kernel)) (by rw [isSubtype_type]; kernel_rfl)
theorem called : TypeCalled "bytearray" "bytearray.__new__" "bytearray.__init__" :=
  ⟨by decide +kernel, by decide +kernel, ⟨_, _, mro⟩, madeBy_type mro lookup_new (by decide +kernel), by decide +kernel, by rw [isSubtype_type]; kernel_rfl, slot_init⟩
theorem typeCall (a : Value) : checkTypeCall "bytearray" ⟨[a], []⟩ = pure () := by kernel_rfl
theorem newCall (a : Value) : checkBuiltinCall "bytearray.__new__" ⟨[.type "bytearray", a], []⟩ = pure () := by kernel_rfl
theorem entry_new : entryFor table "bytearray.__new__" = some Builtin.«list.__new__» := entryFor_alias (id' := "list.__new__") (by kernel_rfl) (by decide +kernel) (by decide +kernel) (by kernel_rfl)
theorem entry_init : entryFor table "bytearray.__init__" = some Builtin.«bytearray.__init__» := by first | exact entryFor_of_fast (by kernel_rfl) | exact entryFor_of_tree (by kernel_rfl)
theorem entry_append : entryFor table "bytearray.append" = some Builtin.«bytearray.append» := by first | exact entryFor_of_fast (by kernel_rfl) | exact entryFor_of_tree (by kernel_rfl)
theorem entry_len : entryFor table "bytearray.__len__" = some Builtin.«bytearray.__len__» := by first | exact entryFor_of_fast (by kernel_rfl) | exact entryFor_of_tree (by kernel_rfl)
theorem entry_getitem : entryFor table "bytearray.__getitem__" = some Builtin.«bytearray.__getitem__» := by first | exact entryFor_of_fast (by kernel_rfl) | exact entryFor_of_tree (by kernel_rfl)
theorem plain_new : plainId "bytearray.__new__" = true := by decide +kernel
theorem plain_init : plainId "bytearray.__init__" = true := by decide +kernel
theorem plain_append : plainId "bytearray.append" = true := by decide +kernel
theorem type_append : typeOf (.builtin "bytearray.append") = pure (.type "method_descriptor") := by show builtinType _ = _; rw [builtinType_eq_fast]; kernel_rfl
theorem args_init (a b : Value) : argsOk "bytearray.__init__" ⟨[a, b], []⟩ := by unfold argsOk; kernel_rfl
theorem args_append (a b : Value) : argsOk "bytearray.append" ⟨[a, b], []⟩ := by unfold argsOk; kernel_rfl
theorem args_len (a : Value) : argsOk "bytearray.__len__" ⟨[a], []⟩ := by unfold argsOk; kernel_rfl
theorem args_getitem (a b : Value) : argsOk "bytearray.__getitem__" ⟨[a, b], []⟩ := by unfold argsOk; kernel_rfl
theorem bind_init (v : Value) : Builtin.Bytes.bindOptional "bytearray.__init__" "bytearray" ["source", "encoding", "errors"] [v] [] = pure [some v, none, none] := by kernel_rfl
theorem look_release : typeLookup (.type "bytearray") "__release_buffer__" = pure (some (.builtin "bytearray.__release_buffer__")) := by rw [typeLookup_type, builtinLookup_eq_fast]; kernel_rfl
theorem look_buffer : typeLookup (.type "bytearray") "__buffer__" = pure (some (.builtin "bytearray.__buffer__")) := by rw [typeLookup_type, builtinLookup_eq_fast]; kernel_rfl
theorem noIndex : typeLookup (.type "bytes") "__index__" = pure none := by rw [typeLookup_type, builtinLookup_eq_fast]; kernel_rfl
end FB
set_option maxRecDepth 1000000 in
set_option maxHeartbeats 4000000 in
theorem owner_new : ("bytearray.__new__".splitOn ".__new__").headD "" = "bytearray" := by simp +decide [String.splitOn, String.splitOnAux]
theorem ends1 : ("bytearray.__release_buffer__".endsWith ("." ++ "__release_buffer__")) = true := by decide +kernel
theorem drop1 : ("bytearray.__release_buffer__".dropRight ("__release_buffer__".length + 1)) = "bytearray" := by decide +kernel
theorem ends2 : ("bytearray.__buffer__".endsWith ("." ++ "__buffer__")) = true := by decide +kernel
theorem drop2 : ("bytearray.__buffer__".dropRight ("__buffer__".length + 1)) = "bytearray" := by decide +kernel

abbrev baOf (b : Array UInt8) : Obj := { cls := .type "bytearray", data := .bytearray b }
section
variable {prog : Program} {w : World} {A : Around} {E : Value → Shared → Prop} {s : Shared}
theorem ba_type {S : Addr} {b : Array UInt8} (h : s.heap.get? S = some (baOf b)) : s.TypeIs (.ref S) "bytearray" := ⟨_, h, rfl⟩
theorem ba_code_new (a : Value) {Q₁ : Value → Shared → Prop} (h : Q₁ (.ref s.heap.objs.size) { s with heap := s.heap.push (baOf #[]) }) :
    codeAny (model prog w) A (.call (.builtin "bytearray.__new__") ⟨[.type "bytearray", a], []⟩) (wants Q₁ E) s := by
  refine codeAny_of_tree ?_
  show wpAny _ A.in1 (do checkBuiltinCall "bytearray.__new__" ⟨[.type "bytearray", a], []⟩; again (.builtin "bytearray.__new__" ⟨[.type "bytearray", a], []⟩)) _ _ s
  refine wpAny_bind (wpAny_of_eq (FB.newCall a) (wpAny_pure ⟨plainId_quiet FB.plain_new _, codeAny_builtin_stack FB.entry_new rfl fun p st => ?_⟩))
  rw [Around.under_plainId FB.plain_new _]
  have hsub := PySem.F.isi_self_bytearray
  have hown := owner_new
  obtain ⟨hp, g, d, tk, os⟩ := s
  simp only [hown]
  wp_walk
  exact h
theorem ba_ownRelease {S : Addr} {b : Array UInt8} {Q : Bool → Shared → Prop} (hS : s.heap.get? S = some (baOf b)) (h : Q false s) :
    wpAny (model prog w) A (Builtin.Bytes.ownRelease (.ref S)) Q E s := by
  unfold Builtin.Bytes.ownRelease Builtin.Bytes.slotIsOwn
  refine wpAny_bind (wpAny_bind (wpAny_specialOf (ba_type hS) FB.look_release ?_))
  simp only [ends1, drop1, Bool.not_true, Bool.false_eq_true, if_false]
  exact wpAny_isInstance (ba_type hS) PySem.F.isi_self_bytearray (wpAny_pure h)
theorem ba_slotBuffer {S : Addr} {b : Array UInt8} {Q : Bool → Shared → Prop} (hS : s.heap.get? S = some (baOf b)) (h : Q true s) :
    wpAny (model prog w) A (Builtin.Bytes.slotIsOwn (.ref S) "__buffer__") Q E s := by
  unfold Builtin.Bytes.slotIsOwn
  refine wpAny_bind (wpAny_specialOf (ba_type hS) FB.look_buffer ?_)
  simp only [ends2, drop2, Bool.not_true, Bool.false_eq_true, if_false]
  exact wpAny_isInstance (ba_type hS) PySem.F.isi_self_bytearray h
theorem ba_write {S : Addr} {b : Array UInt8} {f : Array UInt8 → Array UInt8} {Q : Unit → Shared → Prop} (hS : s.heap.get? S = some (baOf b)) (hz : (f b).size ≤ sizeLine)
    (h : ∀ h', h'.get? S = some (baOf (f b)) → Heap.SameBut S s.heap h' → Q () { s with heap := h' }) : wpAny (model prog w) A (Builtin.Bytes.write (.ref S) f) Q E s := by
  show wpAny _ _ (updateBytearray S f) _ _ _
  unfold updateBytearray
  refine wpAny_bind (wpAny_load hS ?_)
  show wpAny _ _ (update S (Obj.mapBytearray f) >>= fun _ => lookBehind S) _ _ _
  refine wpAny_bind (wpAny_update hS ?_)
  have hS₂ : (s.heap.update S (Obj.mapBytearray f)).get? S = some (baOf (f b)) := Heap.get?_update_self (Obj.mapBytearray f) hS rfl
  refine wpAny_lookBehind hS₂ ?_ (h _ hS₂ (Heap.SameBut.update ..))
  show (if (f b).size > sizeLine then some "bytearray:memory" else none) = none
  rw [if_neg (Nat.not_lt.mpr hz)]
theorem ba_payload {S : Addr} {b : Array UInt8} {Q : Array UInt8 → Shared → Prop} (hS : s.heap.get? S = some (baOf b)) (h : Q b s) : wpAny (model prog w) A (Builtin.Bytes.payload (.ref S)) Q E s := by
  unfold Builtin.Bytes.payload Builtin.Bytes.payload?
  refine wpAny_bind (wpAny_bind (wpAny_load hS ?_))
  exact wpAny_pure (wpAny_pure h)
theorem ba_buffer {S : Addr} {b : Array UInt8} {id : String} {full : Bool} {Q : Option (Array UInt8) → Shared → Prop} (hS : s.heap.get? S = some (baOf b)) (h : Q (some b) s) :
    wpAny (model prog w) A (Builtin.Bytes.buffer? id (.ref S) full) Q E s := by
  unfold Builtin.Bytes.buffer?
  refine wpAny_bind (wpAny_specialOf (ba_type hS) FB.look_buffer ?_)
  refine wpAny_bind (ba_slotBuffer hS ?_)
  simp only [Bool.not_true, Bool.false_eq_true, if_false]
  refine wpAny_bind (wpAny_specialOf (ba_type hS) FB.look_buffer ?_)
  refine wpAny_bind (ba_ownRelease hS ?_)
  simp only [Bool.false_eq_true, if_false]
  exact wpAny_bind (ba_payload hS (wpAny_pure h))
theorem bytes_buffer {b : Array UInt8} {t : Tok} {id : String} {full : Bool} : Builtin.Bytes.buffer? id (.bytes b t) full = pure (some b) := by
  unfold Builtin.Bytes.buffer?
  rw [KBy.special_eq KBy.look_buffer, KBy.own_buffer, KBy.own_release]
  cases full <;> kernel_rfl
theorem ba_notExported {S : Addr} {b : Array UInt8} {Q : Bool → Shared → Prop} (hS : s.heap.get? S = some (baOf b)) (h : Q false s) :
    wpR (model prog w) A (Builtin.Bytes.exported (.ref S) <||> (do return (← Builtin.Bytes.exportsOf (.ref S)) > 0)) Q E s := by
  refine wpR_bind (wpR_mono (exported_calm (.ref S)) (fun v s' hv => ?_) fun _ _ x => x)
  obtain ⟨rfl, rfl⟩ := hv
  refine wpR_of ?_
  show wpAny _ _ (Builtin.Bytes.exportsOf (.ref S) >>= _) _ _ _
  refine wpAny_bind ?_
  unfold Builtin.Bytes.exportsOf
  exact wpAny_bind (wpAny_load hS (wpAny_pure (wpAny_pure h)))
theorem wpR_iff0 {α : Type} {x y : Sem α} {Q : α → Shared → Prop} (h : wpR (model prog w) A y Q E s) : wpR (model prog w) A (if false = true then x else y) Q E s := h
theorem ba_init {S : Addr} {b c : Array UInt8} {t : Tok} {Q : Shared → Prop} (hS : s.heap.get? S = some (baOf c)) (hz : b.size ≤ sizeLine)
    (h : ∀ h', h'.get? S = some (baOf b) → Heap.SameBut S s.heap h' → Q { s with heap := h' }) :
    wpR (model prog w) A (Builtin.«bytearray.__init__» ⟨[.ref S, .bytes b t], []⟩) (fun fin s' => fin = .done (.ret .none) ∧ Q s') E s := by
  unfold Builtin.«bytearray.__init__»
  refine wpR_bindA (ba_ownRelease hS ?_)
  refine wpR_iff0 ?_
  refine wpR_bindA (wpAny_of_eq (FB.bind_init _) ?_)
  refine wpR_bindA (wpAny_of_eq (a := ()) rfl ?_)
  refine wpR_bindA (wpAny_of_eq (a := ()) rfl ?_)
  refine wpR_bind (ba_notExported hS ?_)
  refine wpR_iff0 ?_
  refine wpR_of ?_
  refine wpAny_bind (ba_write hS (Nat.zero_le _) fun h₁ hS₁ hs₁ => ?_)
  refine wpAny_bind (wpAny_of_eq (a := (none : Option Str)) rfl ?_)
  refine wpAny_bind (wpAny_of_eq (a := ()) rfl ?_)
  refine wpAny_bind (wpAny_of_eq (KBy.special_eq FB.noIndex) ?_)
  refine wpAny_bind (wpAny_of_eq bytes_buffer ?_)
  refine wpAny_bind (wpAny_rule ?_)
  refine wpAny_bind (ba_write hS₁ hz fun h₂ hS₂ hs₂ => ?_)
  first
    | (refine wpAny_pure ?_; exact ⟨rfl, h h₂ hS₂ (hs₁.trans hs₂)⟩)
    | (refine wpAny_bind (wpAny_pure ?_); refine wpAny_pure ?_; exact ⟨rfl, h h₂ hS₂ (hs₁.trans hs₂)⟩)
end
end Mine
end
section
open PySem PySem.W PyProof.Rows PySem.Calls PySem.Spec
namespace Mine
open Sem (wp)
set_option maxRecDepth 100000
section
variable {prog : Program} {w : World} {A : Around} {E : Value → Shared → Prop} {s : Shared}
theorem codeR_builtin {id : String} {args : Args} {b : Builtin} {R : Result → Shared → Prop} (hc : calm (.builtin id args) = true) (hb : entryFor table id = some b)
    (h : wpR (model prog w) (A.under (.builtin id args)) (b args)
      (fun fin s' => match fin with | .done f => R (.ok f) s' | .again c' => c'.quiet = true ∧ codeR (model prog w) A c' R s') (fun e s' => R (.error e) s') s) :
    codeR (model prog w) A (.builtin id args) R s := by
  refine codeR_of_tree hc ?_
  show wpR _ _ (match entryFor table id with | some b => b args | none => unsupported ((withoutEnding? id "#data").getD id)) _ _ s
  rw [hb]; exact h
theorem codeR_call_builtin {id : String} {args : Args} {b : Builtin} {R : Result → Shared → Prop} (hc : calm (.builtin id args) = true) (hq : plainId id = true) (hb : entryFor table id = some b)
    (h : wpAny (model prog w) A.in1 (checkBuiltinCall id args) (fun _ s₁ => wpR (model prog w) A.in1 (b args)
      (fun fin s' => match fin with | .done f => R (.ok f) s' | .again c' => c'.quiet = true ∧ codeR (model prog w) A c' R s') (fun e s' => R (.error e) s') s₁)
      (fun e s' => R (.error e) s') s) : codeR (model prog w) A (.call (.builtin id) args) R s := by
  refine codeR_of_tree rfl ?_
  show wpR _ A.in1 (do checkBuiltinCall id args; again (.builtin id args)) _ _ s
  refine wpR_bindA (wpAny_mono h (fun _ s₁ h₁ => wpR_pure (And.intro (plainId_quiet hq args) (codeR_builtin hc hb ?_))) fun _ _ h' => h')
  rw [Around.under_plainId hq args]
  exact h₁
theorem callSpecialR_slot {self : Value} {T : String} {name : Str} {id : String} {args : List Value} {kw : List (Str × Value)}
    {Q : Option Value → Shared → Prop} (hT : s.TypeIs self T) (h : Slot T name id)
    (hc : wpR (model prog w) A (call (.builtin id) (self :: args) kw) (fun v => Q (some v)) E s) : wpR (model prog w) A (callSpecial? self name args kw) Q E s := by
  simp only [callSpecial?]
  refine wpR_bindA (wpAny_specialOf hT h.lookup ?_)
  simp only [h.bind]
  exact wpR_holding (wpR_bind (wpR_pure (wpR_bind (wpR_mono hc (fun v s' h' => wpR_pure h') fun _ _ h' => h'))))
theorem wpR_if_false {α : Type} {M : Model} {c : Bool} {a b : Sem α} {Q : α → Shared → Prop} (hc : c = false) (h : wpR M A b Q E s) : wpR M A (if c = true then a else b) Q E s := by
  subst hc
  exact h
theorem wpR_if_true {α : Type} {M : Model} {c : Bool} {a b : Sem α} {Q : α → Shared → Prop} (hc : c = true) (h : wpR M A a Q E s) : wpR M A (if c = true then a else b) Q E s := by
  subst hc
  exact h
theorem calm_type_call (args : Args) : calm (.builtin "type.__call__" args) = true := by
  show (!badIds.contains "type.__call__") = true
  decide +kernel
theorem calm_ba_init (args : Args) : calm (.builtin "bytearray.__init__" args) = true := by
  show (!badIds.contains "bytearray.__init__") = true
  decide +kernel
theorem calm_ba_append (args : Args) : calm (.builtin "bytearray.append" args) = true := by
  show (!badIds.contains "bytearray.append") = true
  decide +kernel
theorem callR_bytearray {b : Array UInt8} {t : Tok} {Q : Value → Shared → Prop} (hz : b.size ≤ sizeLine)
    (h : ∀ h', (∀ a o, s.heap.get? a = some o → h'.get? a = some o) → h'.get? s.heap.objs.size = some (baOf b) → Q (.ref s.heap.objs.size) { s with heap := h' }) :
    wpR (model prog w) A (call (.type "bytearray") [.bytes b t]) Q E s := by
  refine wpR_call (codeR_of_tree rfl ?_)
  show wpR _ _ (callAny (.type "bytearray") _) _ _ _
  refine wpR_pure ⟨Code.quiet_builtin _ (by decide +kernel), codeR_builtin (calm_type_call _) F.entry_type_call ?_⟩
  rw [Around.under_plain (weight_type_call_type "bytearray" [.bytes b t] []) rfl]
  unfold Builtin.«type.__call__»
  dsimp only
  refine wpR_if_false FB.called.notType ?_
  refine wpR_if_false FB.called.canCreate ?_
  refine wpR_bindA (wpAny_of_eq (FB.typeCall _) ?_)
  refine wpR_bindA (wpAny_of_eq FB.mro ?_)
  refine wpR_if_false rfl ?_
  refine wpR_bindA (wpAny_of_eq FB.called.made ?_)
  dsimp only
  refine wpR_bindA (wpAny_pure ?_)
  refine wpR_bindA (wpAny_holding (wpAny_call (codeAny_mono (ba_code_new (.bytes b t) (Q₁ := fun obj s₁ => obj = .ref s.heap.objs.size ∧ s₁ = { s with heap := s.heap.push (baOf #[]) }) (E := fun _ _ => False) ⟨rfl, rfl⟩) fun r s₁ hr => ?_)))
  cases r with
  | error e => exact hr.elim
  | ok fl =>
    cases fl with
    | ret obj =>
      obtain ⟨rfl, rfl⟩ := hr
      have hS : (s.heap.push (baOf #[])).get? s.heap.objs.size = some (baOf #[]) := Heap.get?_push_size _ rfl
      refine wpR_bindA (wpAny_isInstance (T := "bytearray") ⟨_, hS, rfl⟩ PySem.F.isi_self_bytearray ?_)
      refine wpR_if_false rfl ?_
      refine wpR_bind (wpR_holding (callSpecialR_slot (T := "bytearray") ⟨_, hS, rfl⟩ FB.slot_init (wpR_call (codeR_call_builtin (calm_ba_init _) FB.plain_init FB.entry_init
        (FB.slot_init.check _ _ _ _ _ _ _ _ ⟨_, hS, rfl⟩ (FB.args_init _ _) (wpR_mono (ba_init (Q := fun s' => ∃ h', s' = { s with heap := h' } ∧ h'.get? s.heap.objs.size = some (baOf b) ∧ Heap.SameBut s.heap.objs.size (s.heap.push (baOf #[])) h') hS hz fun h' hS' hs' => ⟨h', rfl, hS', hs'⟩) (fun fin s' hf => ?_) fun _ _ x => x))))))
      obtain ⟨rfl, h', rfl, hS', hs'⟩ := hf
      dsimp only
      refine wpR_if_false (by decide) ?_
      exact wpR_pure (h h' (fun a o e => (hs'.2 a (Nat.ne_of_lt (Heap.lt_size e))).trans (Heap.get?_push_of_some _ e)) hS')
    | _ => exact hr.elim
theorem ba_append {S : Addr} {b : Array UInt8} {i : Int} {t : Tok} {Q : Shared → Prop} (hS : s.heap.get? S = some (baOf b)) (h0 : 0 ≤ i) (h1 : i < 256) (hz : b.size + 1 ≤ sizeLine)
    (h : ∀ h', h'.get? S = some (baOf (b.push i.toNat.toUInt8)) → Heap.SameBut S s.heap h' → Q { s with heap := h' }) :
    wpR (model prog w) A (Builtin.«bytearray.append» ⟨[.ref S, .int i t], []⟩) (fun fin s' => fin = .done (.ret .none) ∧ Q s') E s := by
  unfold Builtin.«bytearray.append»
  refine wpR_bindA (wpAny_of_eq (a := (Value.ref S, Value.int i t)) rfl ?_)
  dsimp only
  refine wpR_bindA (wpAny_bind (wpAny_of_eq (rfl : asIndex (.int i t) = pure i) ?_))
  refine bm_if_false (by simp only [Bool.or_eq_false_iff, decide_eq_false_iff_not]; omega) ?_
  refine wpAny_pure ?_
  refine wpR_bind ?_
  unfold Builtin.Bytes.checkResize
  refine wpR_bind (ba_notExported hS ?_)
  refine wpR_if_false rfl ?_
  refine wpR_pure ?_
  refine wpR_bindA (ba_write hS (by simpa using hz) fun h₁ hS₁ hs₁ => ?_)
  exact wpR_pure ⟨rfl, h h₁ hS₁ hs₁⟩
theorem callR_append {S : Addr} {b : Array UInt8} {i : Int} {t : Tok} {Q : Value → Shared → Prop} (hS : s.heap.get? S = some (baOf b)) (h0 : 0 ≤ i) (h1 : i < 256) (hz : b.size + 1 ≤ sizeLine)
    (h : ∀ h', h'.get? S = some (baOf (b.push i.toNat.toUInt8)) → Heap.SameBut S s.heap h' → Q .none { s with heap := h' }) :
    wpR (model prog w) A (call (.builtin "bytearray.append") [.ref S, .int i t]) Q E s :=
  wpR_call (codeR_call_builtin (calm_ba_append _) FB.plain_append FB.entry_append (FB.slot_append.check _ _ _ _ _ _ _ _ (ba_type hS) (FB.args_append _ _) (wpR_mono (ba_append (Q := Q .none) hS h0 h1 hz fun h' hS' hs' => h h' hS' hs') (fun fin s' hf => by obtain ⟨rfl, hq⟩ := hf; exact hq) fun _ _ x => x)))
end
end Mine
end
section
open PySem PySem.W PyProof.Rows PySem.Calls PySem.Spec
namespace Mine
open Sem (wp)
set_option maxRecDepth 100000
section
variable {M : Model} {A : Around} {E : Value → Shared → Prop} {s : Shared} {env : Env}
theorem wpR_execs_nil {Q : Flow → Shared → Prop} (h : Q .next s) : wpR M A (execs [] env) Q E s := fun _ _ _ _ _ => h
theorem wpR_execs_cons {st rest} {Q : Flow → Shared → Prop}
    (h : wpR M A (exec st env) (fun f s' => match f with | .next => wpR M A (execs rest env) Q E s' | f => Q f s') E s) :
    wpR M A (execs (st :: rest) env) Q E s := by
  rw [execs_cons]
  refine wpR_bind (wpR_mono h (fun f s' h' => ?_) fun _ _ x => x)
  cases f <;> first | exact h' | exact wpR_pure h'
theorem wp_execs_append (M : Model) (Γ : PySem.Ctx) (Q : Flow → Pos → Shared → Prop) (E : Value → Pos → Shared → Prop) (env : Env) (ys : List Stmt) : ∀ (xs : List Stmt) (p : Pos) (s : Shared),
    wp M Γ (execs (xs ++ ys) env) Q E p s = wp M Γ (execs xs env) (fun f p' s' => match f with | .next => wp M Γ (execs ys env) Q E p' s' | f => Q f p' s') E p s
  | [], p, s => rfl
  | x :: xs, p, s => by
    rw [List.cons_append, execs_cons, execs_cons, Sem.wp_bind', Sem.wp_bind']
    congr 1
    funext f p' s'
    cases f with
    | next => exact wp_execs_append M Γ Q E env ys xs p' s'
    | _ => rfl
/-- a calm block: its first statements walked by the library's lines, the rest left -/
theorem wpR_execs_split {ys : List Stmt} {Q : Flow → Shared → Prop} (xs : List Stmt)
    (h : wpAny M A (execs xs env) (fun f s' => match f with | .next => wpR M A (execs ys env) Q E s' | f => Q f s') E s) : wpR M A (execs (xs ++ ys) env) Q E s := by
  intro Γ p h1 h2 h3
  rw [wp_execs_append]
  refine Sem.wp_mono M Γ _ (fun f p' s' h' => ?_) (fun _ _ _ h' => h') p s (h Γ p h1)
  cases f with
  | next => exact h' Γ p' h1 h2 h3
  | _ => exact h'
theorem wpR_Expr {e pos} {Q : Flow → Shared → Prop} (h : wpR M A (eval e env) (fun v s' => match v with | .ref _ => False | _ => Q .next s') E s)
    (hi : interactive env = false := by rfl) (hs : swapsWith e none pos.line env = pure false := by rfl) :
    wpR M A (exec (.Expr e pos) env) Q E s := by
  rw [exec_Expr env e pos hi hs]
  refine wpR_bind (wpR_standAt (wpR_bind (wpR_mono h (fun v s' h' => ?_) fun _ _ x => x)))
  have hv : ∀ a, v ≠ .ref a := fun a hva => by subst hva; exact h'
  rw [dropValue_plain hv]
  refine wpR_pure ?_
  cases v <;> first | exact h' | exact (hv _ rfl).elim
theorem wpR_Assign_Name {x pos' value pos} {Q : Flow → Shared → Prop}
    (h : wpR M A (eval value env) (fun v s₁ => wpAny M A (storeName env x v) (fun _ => Q .next) E s₁) E s)
    (hs : swapsWith value (some (.Name x pos')) pos.line env = pure false := by rfl) :
    wpR M A (exec (.Assign [.Name x pos'] value pos) env) Q E s := by
  rw [exec_Assign_Name env x pos' value pos hs]
  refine wpR_bind (wpR_standAt (wpR_bind (wpR_mono h (fun v s₁ h₁ => ?_) fun _ _ x => x)))
  refine wpR_bind (wpR_standAt (wpR_bindA (wpAny_bindName (wpAny_mono h₁ (fun _ _ q => wpR_pure q) fun _ _ x => x))))
theorem wpR_Return_some {e pos} {Q : Flow → Shared → Prop} (h : wpR M A (eval e env) (fun v => Q (.ret v)) E s) :
    wpR M A (exec (.Return (some e) pos) env) Q E s := by
  rw [exec_Return_some]
  exact wpR_bind (wpR_standAt (wpR_bind (wpR_mono h (fun v s' q => wpR_pure q) fun _ _ x => x)))
theorem wpR_If {test body orelse pos} {Q : Flow → Shared → Prop}
    (h : wpR M A (isTrue test env (eval test env))
      (fun b s₂ => if b then wpR M A (execs body env) Q E s₂ else wpR M A (execs orelse env) Q E s₂) E s) :
    wpR M A (exec (.If test body orelse pos) env) Q E s := by
  rw [exec_If]
  refine wpR_bind (wpR_standAt (wpR_bind (wpR_mono h (fun b s₂ h₂ => ?_) fun _ _ x => x)))
  cases b <;> exact h₂
theorem wpR_Compare1 {l op r pos} {Q : Value → Shared → Prop}
    (h : wpR M A (eval l env) (fun a s₁ => wpAny M A (eval r env) (fun b s₂ => wpAny M A (compareOp op a b) Q E s₂) E s₁) E s)
    (hm : behindInMarks op r = false := by with_unfolding_all rfl) :
    wpR M A (eval (.Compare l [op] [r] pos) env) Q E s := by
  rw [eval_Compare1, markedBehindIn_of_false hm]
  refine wpR_bind (wpR_mono h (fun a s₁ h₁ => wpR_of ?_) fun _ _ x => x)
  refine wpAny_bind (wpAny_holding (wpAny_mono h₁ (fun b s₂ h₂ => wpAny_bind (wpAny_standAt ?_)) fun _ _ x => x))
  intro Γ p hΓ
  rw [Sem.wp_operate]
  exact h₂ Γ p hΓ
theorem wpR_isTrue_Compare1 {l op r pos whole} {Q : Bool → Shared → Prop}
    (h : wpR M A (eval l env) (fun a s₁ => wpAny M A (eval r env) (fun b s₂ => wpAny M A (compareOp op a b)
      (fun c s₃ => wpAny M A (truthy c) Q E s₃) E s₂) E s₁) E s)
    (hm : behindInMarks op r = false := by with_unfolding_all rfl) : wpR M A (isTrue (.Compare l [op] [r] pos) env whole) Q E s := by
  rw [isTrue_Compare1, markedBehindIn_of_false hm]
  refine wpR_bind (wpR_mono h (fun a s₁ h₁ => wpR_of ?_) fun _ _ x => x)
  refine wpAny_bind (wpAny_holding (wpAny_mono h₁ (fun b s₂ h₂ => wpAny_bind (wpAny_standAt ?_)) fun _ _ x => x))
  refine wpAny_bind (?_)
  intro Γ p hΓ
  rw [Sem.wp_operate]
  exact Sem.wp_mono M Γ _ (fun c p' s' h' => wpAny_holding h') (fun _ _ _ x => x) p s₂ (h₂ Γ p hΓ)
theorem wpR_keep {α : Type} {vs : List Value} {m : Sem α} {Q : α → Shared → Prop} (h : wpR M A m Q E s) : wpR M A (m.keep vs) Q E s :=
  fun Γ p h1 h2 h3 => by rw [Sem.wp_keep]; exact h Γ p h1 h2 h3
def Keeps (M : Model) (f : Value) (h : Heap) : Prop := ∃ k, (k = Keeper.frame ∨ k = Keeper.machine ∨ k = Keeper.boundFrame) ∧ Looks M h (keeperOf f) k
theorem Keeps.type {T : String} {h : Heap} : Keeps M (.type T) h := ⟨.machine, .inr (.inl rfl), Looks.of_pure rfl⟩
theorem Keeps.builtin {T : String} {h : Heap} : Keeps M (.builtin T) h := ⟨.machine, .inr (.inl rfl), Looks.of_pure rfl⟩
theorem Keeps.K {K : Frag} {f : Value} {h : Heap} (hk : keepIn K f = true) (X : K.In h) : Keeps M f h := keeps_K hk h X
theorem wpR_callWith {pos : Pos} {f : Value} {first : List Value} {Q : Value → Shared → Prop} {args : List (Bool × Sem Value)} {keywords : List (Option Str × Sem Value)} (hplain : (args.any (·.1) || keywords.any (·.1.isNone)) = false)
    (h : wpAny M A (evalArgs f true args keywords) (fun a s₁ => Keeps M f s₁.heap ∧ wpR M A (call f (first ++ a.pos) a.kw) Q E s₁) E s) : wpR M A (callWith pos f first args keywords) Q E s := by
  unfold callWith
  refine wpR_bindA (wpAny_holding (wpAny_mono h (fun a s₁ h₁ => ?_) fun _ _ x => x))
  refine wpR_bind (wpR_standAt ?_)
  obtain ⟨⟨k, hk', L⟩, h₁⟩ := h₁
  simp only [hplain]
  refine wpR_bindA (L.here ?_)
  have tail : ∀ {t : Sem Value}, wpR M A t Q E s₁ → wpR M A (t >>= fun r => holding [r] point >>= fun _ => pure r) Q E s₁ :=
    fun ht => wpR_bind (wpR_mono ht (fun r s₂ hr => wpR_bindA (wpAny_holding (wpAny_point (wpR_pure hr)))) fun _ _ x => x)
  have marked (mk : Value) : wpR M A (callMarked mk f (first ++ a.pos) a.kw) Q E s₁ := by unfold callMarked; exact wpR_keep h₁
  rcases hk' with rfl | rfl | rfl <;> dsimp only <;> first | exact tail h₁ | (split <;> first | exact tail h₁ | exact tail (marked _))
/-- a call by a name -/
theorem wpR_evalCall {x : Str} {px pos : Pos} {e : Expr} {rest : List Expr} {Q : Value → Shared → Prop}
    (h : wpAny M A (eval (.Name x px) env) (fun fv s₁ => wpAny M A (spliced (backTo pos (starEach (e :: rest) env))) (fun vs s₂ => Keeps M fv s₂.heap ∧ wpR M A (call fv vs) Q E s₂) E s₁) E s)
    (he : starEach (e :: rest) env = (false, eval e env) :: starEach rest env := by rfl) (hplain : (backTo pos (starEach rest env)).any (·.1) = false := by rfl) :
    wpR M A (eval (.Call (.Name x px) (e :: rest) [] pos) env) Q E s := by
  show wpR M A (eval (.Name x px) env >>= fun fv => callWith pos fv [] (backTo pos (starEach (e :: rest) env)) (backToKw pos (keywordEach [] env))) Q E s
  refine wpR_bindA (wpAny_mono h (fun fv s₁ h₁ => ?_) fun _ _ x => x)
  rw [he] at h₁ ⊢
  exact wpR_callWith (by show ((false || (backTo pos (starEach rest env)).any (·.1)) || false) = false; rw [hplain]; rfl) (evalArgs_plain h₁)
/-- a method's call -/
theorem wpR_evalMethod {o : Expr} {name : Str} {apos pos : Pos} {e : Expr} {rest : List Expr} {pl : Sem Bool} {Q : Value → Shared → Prop}
    (h : wpAny M A (eval o env) (fun ov s₁ => wpAny M A (getMethod ov name pl) (fun fx s₂ => wpAny M A (spliced (backTo pos (starEach (e :: rest) env))) (fun vs s₃ => Keeps M fx.1 s₃.heap ∧ wpR M A (call fx.1 (fx.2 ++ vs)) Q E s₃) E s₂) E s₁) E s)
    (hm : eval (.Call (.Attribute o name apos) (e :: rest) [] pos) env = (do
      let ov ← eval o env
      standAt apos.atName
      let (f, first) ← holding [ov] (getMethod ov name pl)
      callWith pos f first (backTo pos (starEach (e :: rest) env)) []) := by rfl)
    (he : starEach (e :: rest) env = (false, eval e env) :: starEach rest env := by rfl) (hplain : (backTo pos (starEach rest env)).any (·.1) = false := by rfl) :
    wpR M A (eval (.Call (.Attribute o name apos) (e :: rest) [] pos) env) Q E s := by
  rw [hm]
  refine wpR_bindA (wpAny_mono h (fun ov s₁ h₁ => wpR_bind (wpR_standAt (wpR_bindA (wpAny_holding (wpAny_mono h₁ (fun fx s₂ h₂ => ?_) fun _ _ x => x))))) fun _ _ x => x)
  obtain ⟨f, first⟩ := fx
  show wpR M A (callWith pos f first (backTo pos (starEach (e :: rest) env)) []) Q E s₂
  rw [he] at h₂ ⊢
  exact wpR_callWith (by show ((false || (backTo pos (starEach rest env)).any (·.1)) || false) = false; rw [hplain]; rfl) (evalArgs_plain h₂)
theorem wpR_runOwn {c : Code} {h : Option Value} {Q : Flow → Shared → Prop}
    (hc : codeR M (A.mark h) c (fun r s' => match r with | .ok f => Q f s' | .error e => cameBackBy M A env E e s') s) (hnb : h ≠ some byPass := by intro x; cases x) :
    wpR M A (runOwn c env h) Q E s := by
  unfold runOwn
  exact wpR_onRaise (wpR_mono (wpR_run hc hnb) (fun _ _ x => x) fun _ _ x => wpR_of x)
theorem wpR_For {target iter body orelse pos} {Q : Flow → Shared → Prop}
    (h : wpAny M A (eval iter env) (fun x s₁ => wpAny M A (pyIter x) (fun it s₂ =>
      codeR M A (.forLoop target it body orelse env) (fun r s' => match r with | .ok f => Q f s' | .error e => cameBackBy M A env E e s') s₂) E s₁) E s)
    (hs : ∀ x, foldedSetIterable iter env x = pure x := by intro _; rfl) :
    wpR M A (exec (.For target iter body orelse pos) env) Q E s := by
  rw [exec_For]
  exact wpR_bind (wpR_standAt (wpR_bindA (wpAny_mono h (fun x s₁ h₁ => wpR_bindA (wpAny_of_eq (hs x) (wpR_bind (wpR_standAt (wpR_bindA (wpAny_holding
    (wpAny_mono h₁ (fun it s₂ h₂ => wpR_runOwn h₂) fun _ _ h' => h'))))))) fun _ _ h' => h')))
theorem wpR_tryStmt {body orelse : Sem Flow} {h₀ : ExceptHandler} {hs : List ExceptHandler} {Q : Flow → Shared → Prop}
    (h : wpR M A body (fun f s₁ => match f with | .next => wpR M A orelse Q E s₁ | f => Q f s₁)
      (fun e s₁ => wpAny M A (noteFrame e env) (fun _ s₂ => wpAny M A (setFlight e none) (fun _ s₃ => wpAny M A (handleBy e env (h₀ :: hs)) Q E s₃) E s₂) E s₁) s) :
    wpR M A (tryStmt false body (h₀ :: hs) orelse [] env) Q E s := by
  unfold tryStmt
  simp only [List.isEmpty_nil, if_true, List.isEmpty_cons, Bool.false_and, Bool.false_eq_true, if_false]
  refine wpR_bind (wpR_attempt (wpR_mono h (fun f s₁ h₁ => ?_) fun e s₁ h₁ => ?_))
  · cases f <;> first | exact h₁ | exact wpR_pure h₁
  · exact wpR_bindA (wpAny_mono h₁ (fun _ _ h₂ => wpR_bindA (wpAny_mono h₂ (fun _ _ h₃ => wpR_of h₃) fun _ _ x => x)) fun _ _ x => x)
theorem wpR_Try {body h₀ hs pos} {Q : Flow → Shared → Prop}
    (h : wpR M A (execs body env) (fun f s₁ => match f with | .next => Q .next s₁ | f => Q f s₁)
      (fun e s₁ => wpAny M A (noteFrame e env) (fun _ s₂ => wpAny M A (setFlight e none) (fun _ s₃ => wpAny M A (handleBy e env (h₀ :: hs)) Q E s₃) E s₂) E s₁) s) :
    wpR M A (exec (.Try body (h₀ :: hs) [] [] pos) env) Q E s := by
  show wpR M A (do standAt pos; tryStmt false (execs body env) (h₀ :: hs) (execs [] env) [] env) Q E s
  refine wpR_bind (wpR_standAt (wpR_tryStmt (wpR_mono h (fun f s₁ h₁ => ?_) fun _ _ x => x)))
  cases f <;> first | exact wpR_execs_nil h₁ | exact h₁
end
section
variable {prog : Program} {w : World} {A : Around} {E : Value → Shared → Prop} {s : Shared} {R : Result → Shared → Prop}
theorem codeR_func {body env}
    (h : wpR (model prog w) (A.deeper env) (execs body env) (fun f s' => R (.ok (.ret (match f with | .ret v => v | _ => .none))) s')
      (fun e s' => wpAny (model prog w) (A.deeper env) (leaving env e) (fun _ s'' => R (.error e) s'') (fun e' s'' => R (.error e') s'') s') s) :
    codeR (model prog w) A (.func body env) R s := by
  refine codeR_of_tree rfl ?_
  show wpR _ (A.deeper env) (do point; match ← (execs body env).onRaise (leaving env) with | .ret v => ret v | _ => ret .none) _ _ s
  refine wpR_bindA (wpAny_point (wpR_bind (wpR_onRaise (wpR_mono h (fun f s' h' => ?_) fun _ _ h' => wpR_of h'))))
  cases f <;> exact wpR_pure h'
theorem codeR_call_function {a : Addr} {args : Args} {o : Obj} {fd : FuncData} {body : List Stmt} (hroom : A.depth < recursionLimit)
    (ho : s.heap.get? a = some o)
    (hd' : o.data = .func fd) (hco : fd.scope.isCoroutine = false) (hgen : fd.scope.isGenerator = false) (hbody : fd.body = .stmts body) (hcd : s.heap.CodeRec fd.code fd.qualname)
    (h : wpAny (model prog w) A.in1 (bindArgs fd args) (fun binds s₁ =>
      wpAny (model prog w) A.in1 (newFunctionEnv fd.scope fd.globals fd.closure binds (fd.qualname ++ ".<locals>.") (some a) fd.code none fd.builtins)
        (fun env s₂ => s₂.heap.NoLimit ∧ codeR (model prog w) A (.func body env) R s₂) (fun e s' => R (.error e) s') s₁) (fun e s' => R (.error e) s') s) :
    codeR (model prog w) A (.call (.ref a) args) R s := by
  refine codeR_of_tree rfl (wpR_of ?_)
  show wpAny _ A.in1 (callAny (.ref a) args) _ _ s
  simp only [callAny]
  refine wpAny_bind (wpAny_load ho ?_)
  obtain ⟨c, oc, vs, tq, hc, hoc, hdc, hq⟩ := hcd
  simp only [hd', callFunction, hco, hgen, hbody, hc]
  rw [hc] at h
  refine wpAny_bind (m := field (.ref c) 1) (wpAny_field hoc hdc hq (wpAny_bind (wpAny_pure ?_)))
  exact wpAny_bind (wpAny_mono h (fun binds s₁ h₁ => wpAny_bind (wpAny_mono h₁ (fun env s₂ h₂ => wpAny_bind (wpAny_enterFrame h₂.1 hroom
    (wpAny_pure (And.intro rfl h₂.2)))) fun _ _ h' => h')) fun _ _ h' => h')
theorem codeR_forLoop {target it body orelse env} (I : Nat → Shared → Prop)
    (turn : ∀ n s, I n s → wpAny (model prog w) A (pyNext it) (fun r s₁ => match r with
      | none => wpAny (model prog w) A (execs orelse env) (fun f s₃ => R (.ok f) s₃) (notedBy (model prog w) A env fun e s' => R (.error e) s') s₁
      | some v => wpAny (model prog w) A (assign target env v) (fun _ s₂ => wpR (model prog w) A (execs body env) (fun f s₃ => match f with
          | .next | .cont => ∃ m, m < n ∧ I m s₃
          | .brk => R (.ok .next) s₃
          | .ret v => R (.ok (.ret v)) s₃) (notedBy (model prog w) A env fun e s' => R (.error e) s') s₂) (notedBy (model prog w) A env fun e s' => R (.error e) s') s₁) (notedBy (model prog w) A env fun e s' => R (.error e) s') s)
    (n : Nat) (h : I n s) (ht : ∀ v, letOwnedTupleGo target it v = pure () := by intro _; rfl) : codeR (model prog w) A (.forLoop target it body orelse env) R s := by
  refine codeR_loop rfl rfl I (fun n s hI => ?_) n h
  show wpR _ _ ((forTurn target it body orelse env).onRaise (fun x => do noteFrame x env; theTreesLotGoes x)) _ _ s
  refine wpR_onRaise (wpR_mono (E := notedBy (model prog w) A env fun e s' => R (.error e) s') ?_ (fun _ _ q => q) fun _ _ hx => wpR_of (wpAny_bind (wpAny_mono hx (fun _ _ e => wpAny_theTreesLotGoes e) fun _ _ e => e)))
  simp only [forTurn]
  refine wpR_bind (wpR_standAt (wpR_bindA (wpAny_onRaise (wpAny_mono (turn n s hI) (fun r s₁ h₁ => ?_) fun _ _ h' => wpAny_standAt h'))))
  cases r with
  | none => exact wpR_pure (.inr ⟨rfl, codeR_of (codeAny_block h₁)⟩)
  | some v =>
    refine wpR_bindA (wpAny_of_eq (ht v) ?_)
    refine wpR_bindA (wpAny_mono h₁ (fun _ s₂ h₂ => wpR_bind (wpR_mono h₂ (fun f s₃ h₃ => ?_) fun _ _ h' => h')) fun _ _ h' => h')
    cases f with
    | next => exact wpR_pure (.inl ⟨rfl, h₃⟩)
    | cont => exact wpR_pure (.inl ⟨rfl, h₃⟩)
    | brk => exact wpR_pure h₃
    | ret v => exact wpR_pure h₃
end
end Mine
end
section
open PySem PySem.W PyProof.Rows PySem.Calls PySem.Spec
namespace Mine
open Sem (wp)
set_option maxRecDepth 100000
theorem calm_caller : calm (.builtin "claim.caller" {}) = true := by
  show (!badIds.contains "claim.caller") = true
  decide +kernel
theorem wp_of_wpR_done {M : Model} {t : Sem Fin} {R : Result → Shared → Prop} {s : Shared}
    (h : wpR M callerA t (fun fin s' => ∃ f, fin = .done f ∧ R (.ok f) s') (fun e s' => R (.error e) s') s) (p : Pos) :
    wp M ⟨.builtin "claim.caller" {}, none, none, [], none⟩ t (Sem.finPost M ⟨.builtin "claim.caller" {}, none, none, [], none⟩ R) (fun e _ s' => R (.error e) s') p s := by
  refine Sem.wp_mono M _ t (fun fin p' s' h' => ?_) (fun _ _ _ h' => h') p s (h _ p caller_in calm_caller fun x hx => nomatch hx)
  obtain ⟨f, rfl, hf⟩ := h'
  exact hf
theorem thread_endsR {prog : Program} {w : World} {t : Sem Fin} {s : Shared} {R : Result → Shared → Prop} (hreg : s.asleep)
    (h : wpR (model prog w) callerA t (fun fin s' => ∃ f, fin = .done f ∧ (R (.ok f) s' ∧ leftWithCleanup s'.gens = false)) (fun e s' => R (.error e) s' ∧ leftWithCleanup s'.gens = false) s) :
    ∃ n r s' s'', runN (denote table) prog w n s ⟨t, .builtin "claim.caller" {}, default, []⟩ = .halted (outcomeOf r) s' ∧
      schedN (denote table) prog w n (.single s ⟨t, .builtin "claim.caller" {}, default, []⟩) = .halted (outcomeOf r) s' ∧ s'.forget = s''.forget ∧ R r s'' := by
  obtain ⟨n, r, s₁, s₂, hs, hn, hfo, hR⟩ := wp_halts_full (M := model prog w) (R := R) hreg (wp_of_wpR_done (R := fun r s' => R r s' ∧ leftWithCleanup s'.gens = false) h default)
  exact ⟨n, r, s₂, s₁, hn, hs, hfo, hR⟩
theorem callFromR {c : ClaimW} {tree : List Value → Sem Fin} {w : World} {s : Shared} {free : Addr → Prop} {gens : Prop} {kept : Heap → Prop} (hz : s.asleep) (hgens : s.gens = #[])
    (hspec : ∀ args, c.pre args = true → WData.layableAll args = true →
      ∀ ord : List DictEntry → List DictEntry, (∀ l, (ord l).Perm l) →
      ∃ vs s₁, layAllW c.records (classAt s.heap) w.params ord args s = some (vs, s₁) ∧
        wpR (model c.prog w) callerA (tree vs) (fun fin s' => ∃ f, fin = .done f ∧ (c.Ends s args vs s₁ (.ok f) s' ∧ s'.os = s.os ∧ AllBare s'.gens ∧ kept s'.heap))
          (fun e s' => c.Ends s args vs s₁ (.error e) s' ∧ s'.os = s.os ∧ AllBare s'.gens ∧ kept s'.heap) s₁) :
    c.CallFrom (fun vs => ⟨tree vs, .builtin "claim.caller" {}, default, []⟩) w free gens kept s := by
  intro args hpre hlay ord hord
  obtain ⟨vs, s₁, hlaid, hcode⟩ := hspec args hpre hlay ord hord
  have hal := layAllW_rest _ _ _ hlaid
  obtain ⟨k, r, s', s'', hrun, hsched, hfo, hcase, hos, hkp⟩ := thread_endsR (prog := c.prog) (w := w) (t := tree vs) (s := s₁)
    (R := fun r s' => c.Ends s args vs s₁ r s' ∧ s'.os = s.os ∧ kept s'.heap) (Shared.asleep_of_life hal.2.2.2 hz)
    (wpR_mono hcode (fun fin s' ⟨f, e, h1, h2, h3, h4⟩ => ⟨f, e, ⟨h1, h2, h4⟩, leftWithCleanup_false_of_bare h3⟩) fun e s' ⟨h1, h2, h3, h4⟩ => ⟨⟨h1, h2, h4⟩, leftWithCleanup_false_of_bare h3⟩)
  obtain ⟨eh, _, _, eo, _⟩ := Shared.forget_eq hfo
  have hcase := hcase.congr eh
  have hkp : kept s'.heap := by rw [eh]; exact hkp
  rw [← eo] at hos
  have hlife : s'.heap.life = s.heap.life := (runN_life _ _ _ hrun).trans hal.2.2.2
  refine ⟨vs, s₁, hlaid, k, _, s', hsched, ?_, (fun _ i x hx => by rw [hgens] at hx; simp at hx), hkp, by rw [hlife], Shared.rest_eq hos⟩
  refine hcase.imp (fun h => ?_) (fun h => ?_)
  · exact h.elim fun v h => ⟨v, congrArg _ h.1, h.2.1, h.2.2.1, h.2.2.2.1, fun b o y _ => h.2.2.2.2.1 b o y, h.2.2.2.2.2⟩
  · exact h.elim fun e h => h.elim fun ob h => h.elim fun cls h => ⟨e, ob, cls, congrArg _ h.1, h.2.1, h.2.2.1, h.2.2.2.1, h.2.2.2.2.1, fun b o y _ => h.2.2.2.2.2 b o y⟩
abbrev WalkR (q : Program) (loose : List Str) (XP : (Str → Option Value) → Heap → Prop) (YP : World → Heap → Prop) (r : RowW) (d : DefRec) (kwd : List (Str × Expr)) : Prop :=
  ∀ (w : World) (s₀ s₁ : Shared) (mg mb : Str → Option Value), Ground q loose r.records XP w s₀ mg mb s₁.heap → YP w s₁.heap → ∀ (a : Addr) (o : Obj) (pm cd doc dV kV : Value), s₁.heap.get? a = some o →
    o.data = .func { docDef d.name d.params d.body d.scope pm cd doc with defaults := dV, kwdefaults := kV } → s₁.heap.CodeRec cd d.name → Dflts mg s₁.heap d.params kwd dV kV → mg d.name = some (.ref a) → s₁.gens = #[] →
    ∀ (args : List WData) (vals : List Value) (as : List Addr), r.claim.pre args = true → WData.layableAll args = true → ReadsAllW r.records (classAt s₀.heap) s₁.heap vals args as → WellAll w.params s₁.heap vals args → (∀ a ∈ as, (a == sysModules) = false) →
      wpR (model r.prog w) callerA (PySem.call (.ref a) vals) (fun v s' => GoodW r.claim (classAt s₀.heap) (ExcName.means s₀.heap) args s₁ (.ok (.ret v)) s')
        (fun e s' => GoodW r.claim (classAt s₀.heap) (ExcName.means s₀.heap) args s₁ (.error e) s') s₁
/-- the head of an open row, its call walked on calm stacks -/
theorem PySem.W.holds_open {r : OpenRow} {q : Program} {loose : List Str} {Xt : Shared → Bool} {XP : (Str → Option Value) → Heap → Prop} {α : Type} {Yf : Shared → α} {Ya : World → α} {YP : World → Heap → Prop} {d : DefRec} {kwd : List (Str × Expr)} {N : Nat}
    (left : LeftO r.prog q loose Xt Yf Ya N) (hY : ∀ w s, Yf s = Ya w → YP w s.heap) (hYk : ∀ w h h', YP w h → (∀ b o, h.get? b = some o → h'.get? b = some o) → YP w h')
    (hX : ∀ s, Xt s = true → XP (s.heap.nsMap mainGlobals) s.heap) (hXk : ∀ mg h h', XP mg h → (∀ b o, h.get? b = some o → h'.get? b = some o) → XP mg h')
    (hdef : defOf q r.name = some (d, kwd)) (hp : r.prog.theDef r.name = some (d.params, d.body, d.scope)) (hk : kwWritten? d.params.kwonlyargs d.params.kw_defaults = some kwd) (hRf : ∀ s, Xt s = true → RecFacts r.records s.heap) (hwr : (!r.writes || r.records.isEmpty) = true)
    (k1 : r.wellSaid = true) (ok : (chainsOk q && opensWell r.prog && (frees r.toRowW && r.within.isEmpty)) = true) (hb : r.prog.bare) (hw : r.toRowW.promised)
    (call : WalkR q loose XP YP r.toRowW d kwd) : r.Holds := by
  obtain ⟨ok, k5⟩ := Bool.and_eq_true_iff.mp ok
  obtain ⟨hch, o1⟩ := Bool.and_eq_true_iff.mp ok
  obtain ⟨k5, k6⟩ := Bool.and_eq_true_iff.mp k5
  obtain ⟨hsame, hu, ha, hap, hm⟩ := frees_parts k5
  refine ⟨k1, hw, ⟨hb, o1, by show r.makers.map _ = []; rw [hm]; rfl⟩, hw.witness, fun w => ⟨(left.behind hX hch w).1, fun s' hs' => ?_⟩⟩
  obtain ⟨s₀, hf, hg0, s, hT, hz, hgens, hg, G00, y⟩ := (left.behind (XP := fun mg h => XP mg h ∧ RecFacts r.records h) (fun s hs => ⟨hX s hs, hRf s hs⟩) hch w).2 s' hs'
  have G0 : Ground q loose [] XP w s (s.heap.nsMap mainGlobals) (s.heap.nsMap builtinsNs) s.heap := ⟨G00.T, G00.B, G00.D, G00.TE, G00.TD, G00.W, G00.X.1, G00.cls, G00.has, G00.apart, G00.once, G00.K⟩
  have RF := G00.X.2
  refine ⟨s₀, hf, hg0, s, hT, fun n hn => ?_, RF.1, RF.2.1, ?_⟩
  · obtain rfl : n = r.name := by split at hn <;> simp_all
    exact pinned_of_view hg G0 hdef hp hk
  have hgens : s.gens = #[] := Array.eq_empty_of_size_eq_zero (beq_iff_eq.mp hgens)
  have G : Ground q loose r.records XP w s _ _ s.heap := RF.ground G0
  refine callFromR (c := r.claim) (tree := fun vs => do match ← nsGet mainNs r.name with
      | some f => do ret (← PySem.call f vs)
      | none => unsupported "claim.caller:no-such-global") hz hgens fun args hpre hlay ord hord => ?_
  obtain ⟨⟨vs, s₁⟩, hlaid⟩ := Option.isSome_iff_exists.mp (layAllW_isSome (P := w.params) (ord := ord) G.has args r.args s (pre_splitW hpre).1)
  have keeps := layAllW_keeps _ _ _ hlaid
  have hal := layAllW_rest _ _ _ hlaid
  obtain ⟨as, hrd, hin, hold⟩ := reads_layAllW hord _ _ _ hlaid hlay s₁.heap (fun _ _ e => e)
  have L : Laid r.records w s s₁ args vs as := ⟨⟨ord, hord, hlaid⟩, hrd, hin, hold, keeps, hal.1.trans hgens, hal.2.2.1⟩
  have G₁ := G.keeps hXk keeps
  obtain ⟨a, o, pm, cd, doc, dV, kV, h1, h2, h3, h4, h5⟩ := G₁.fn hdef
  have h := call w s s₁ _ _ G₁ (hYk _ _ _ (hY w s y) keeps) a o pm cd doc dV kV h2 h3 h4 h5 (defOf_name hdef ▸ h1) L.gens args vs as hpre hlay L.reads L.well (L.low G.low)
  have hi := ident_freeW hu ha hap
  have hwi : r.claim.within = [] := List.isEmpty_iff.mp k6
  refine ⟨vs, s₁, hlaid, wpR_bindA (wpAny_nsGet G₁.T.g ?_)⟩
  rw [h1]
  refine wpR_bind (wpR_mono h (fun v s' g => wpR_pure ⟨_, rfl, ?_⟩) fun e s' g => ?_)
  · have z := g.toG.laid (c := r.claim) hsame hwi hi L
    exact ⟨z.1, z.2.1, z.2.2, fun q => ⟨namesKept_of hT hg r.keeps keeps g.toG.2.1.old, noTable hwr q⟩⟩
  · have z := g.toG.laid (c := r.claim) hsame hwi hi L
    exact ⟨z.1, z.2.1, z.2.2, fun q => ⟨namesKept_of hT hg r.keeps keeps g.toG.2.1.old, noTable hwr q⟩⟩
end Mine
end
section
open PySem PySem.W PyProof.Rows
namespace Mine
set_option maxRecDepth 100000 in
set_option maxHeartbeats 8000000 in
open_top hd for PySem.Challenge.rw_og0134_01
end Mine
end
section
open PySem PySem.W PyProof.Rows PySem.Calls PySem.Spec
namespace Mine
theorem walk_off_C1 : True := by
  w_top off
  trivial
local macro_rules | `(tactic| walk_at "no key 0") => `(tactic| fail "none")
abbrev PG : Program := PySem.Challenge.rw_og0134_01.row.prog
noncomputable abbrev LZ : List Str := looseW hd.view_39 [Str.ofString "PaperError", Str.ofString "find_matches", Str.ofString "lazy_matches"]
def KeptBut (as : List Addr) (h h' : Heap) : Prop := ∀ b o, h.get? b = some o → b ∉ as → h'.get? b = some o
theorem kept_of {H g h' : Heap} {L' : Addr} {m' : Str → Option Value} {as : List Addr} (G : GSub H g as) (F : Fr g L' h' m') : KeptBut as H h' := fun b o hb hn => F.keep b o (G b o hb hn)

set_option maxRecDepth 100000 in
set_option maxHeartbeats 8000000 in
theorem pull_spec (w : World) {mean : ExcName → Option Value} {mg mb : Str → Option Value} {dp un : Nat} {gd : Option (List Code)} {cn : Str} {cs : Scope} {a : Addr} {ccd : Value} {cl : List (Str × Addr)} {outer : List Env} {A₀ : Around} {base h₀ : Heap} {L : Addr} {m : Str → Option Value} {s : Shared} {Q E : Value → Shared → Prop}
    {q l : Addr} {us : List Value} {ns : List Int} {j k : Nat} {n many : Int} {tn tm : Tok}
    (B : Below A₀ base outer h₀) (F : Fr h₀ L s.heap m) (X : (hd.heap_39 w.params).In h₀) (N : News h₀ L s.heap [(q, listOf [Value.ref l, .int n tn].toArray k), (l, listOf us.toArray j)]) (T : Top hd.view_39 LZ mean mg mb h₀) (hk : cs.kind = .function)
    (hi : IntsAre us ns) (hlen : us.length ≤ 63) (hlen2 : ns.length ≤ 63) (hn0 : 0 ≤ n) (hn1 : n ≤ 100000) (hm0 : 0 < many) (hm1 : many ≤ 256) (hql : @Ne Nat q l) (hdp : dp + 1 < recursionLimit) (hun : un + 8 < cLine)
    (ret : ∀ r t h' tk us' ns' j' tn', 0 ≤ r → r < many → IntsAre us' ns' → us'.length ≤ us.length → ns'.length ≤ ns.length → Fr h₀ L h' m → News h₀ L h' [(q, listOf [Value.ref l, .int (n + 1) tn'].toArray k), (l, listOf us'.toArray j')] → KeptBut [q, l] s.heap h' → Q (.int r t) { s with heap := h', toks := tk }) :
    wpAny (model PySem.Challenge.rw_og0134_01.row.prog w) (ktrTop dp un gd cn cs L a ccd cl outer) (call (.ref 140) [.ref q, .int many tm]) Q E s := by
  revert X; k_fill; intro X
  refine wpAny_call ?_
  k_dflt (refine' code_defG ?k1 ?k2 ?k3 ?k4 ?k5 ?kA ?kF ?kK ?k6 ?k7 ?k8 ?k9 ?kB ?_ ?c2 ?c3 ?c4 ?c5; (case kA => exact rfl); (case kF => exact rfl); (case kK => assumption); (case k1 => k_asm); (case k2 => k_asm); (case k3 => k_asm); (case k4 => k_asm); (case k5 => k_asm); (case k6 => k_is); (case k7 => k_is); (case k8 => ktr_room); (case k9 => exact BindsTo.of_eq rfl); (case c5 => decide); (case kB => exact locs rfl); (case c2 => exact rfl); (case c3 => exact rfl); (case c4 => exact rfl); k_whole; intro g' L' h' FG' F' N' B' X' T' kG'; (try dsimp only); (try k_lift B'); (try k_fold))
  k_steps
  · exact ret _ _ _ _ _ _ _ _ (Int.fmod_nonneg_of_pos _ hm0) (Int.fmod_lt_of_pos _ hm0) (by assumption) (by simp) (by simp) (by assumption) (by assumption) (kept_of kG' (by assumption))
  · exact ret _ _ _ _ _ _ _ _ (Int.fmod_nonneg_of_pos _ hm0) (Int.fmod_lt_of_pos _ hm0) hi (Nat.le_refl _) (Nat.le_refl _) (by assumption) (by assumption) (kept_of kG' (by assumption))
end Mine
end
section
open PySem PySem.W PyProof.Rows PySem.Calls PySem.Spec
namespace Mine
theorem walk_off_C2 : True := by
  w_top off
  trivial
set_option maxRecDepth 100000 in
set_option maxHeartbeats 8000000 in
theorem key_spec (w : World) {mean : ExcName → Option Value} {mg mb : Str → Option Value} {dp un : Nat} {gd : Option (List Code)} {cn : Str} {cs : Scope} {a : Addr} {ccd : Value} {cl : List (Str × Addr)} {outer : List Env} {A₀ : Around} {base h₀ : Heap} {L : Addr} {m : Str → Option Value} {s : Shared} {Q E : Value → Shared → Prop}
    {b : Array UInt8} {ks : List Int} {i : Int} {tb ti : Tok}
    (B : Below A₀ base outer h₀) (F : Fr h₀ L s.heap m) (X : (hd.heap_39 w.params).In h₀) (T : Top hd.view_39 LZ mean mg mb h₀) (hk : cs.kind = .function)
    (hkb : KBw.bInts b = ks) (hb : ks.length ≤ 100) (hi0 : 0 ≤ i) (hi1 : i + 2 < (ks.length : Int)) (hdp : dp + 1 < recursionLimit) (hun : un + 8 < cLine)
    (ret : ∀ r t h' tk, 0 ≤ r → r < 16777216 → Fr h₀ L h' m → KeptBut [] s.heap h' → Q (.int r t) { s with heap := h', toks := tk }) :
    wpAny (model PySem.Challenge.rw_og0134_01.row.prog w) (ktrTop dp un gd cn cs L a ccd cl outer) (call (.ref 68) [.bytes b tb, .int i ti]) Q E s := by
  revert X; k_fill; intro X
  have N : News h₀ L s.heap [] := News.nil
  refine wpAny_call ?_
  k_dflt (refine' code_defG ?k1 ?k2 ?k3 ?k4 ?k5 ?kA ?kF ?kK ?k6 ?k7 ?k8 ?k9 ?kB ?_ ?c2 ?c3 ?c4 ?c5; (case kA => exact rfl); (case kF => exact rfl); (case kK => assumption); (case k1 => k_asm); (case k2 => k_asm); (case k3 => k_asm); (case k4 => k_asm); (case k5 => k_asm); (case k6 => k_is); (case k7 => k_is); (case k8 => ktr_room); (case k9 => exact BindsTo.of_eq rfl); (case c5 => decide); (case kB => exact locs rfl); (case c2 => exact rfl); (case c3 => exact rfl); (case c4 => exact rfl); k_whole; intro g' L' h' FG' F' N' B' X' T' kG'; (try dsimp only); (try k_lift B'); (try k_fold))
  k_steps
  refine ret _ _ _ _ (by omega) (by omega) ?_ (kept_of (by assumption) (by assumption))
  assumption
set_option maxRecDepth 100000 in
set_option maxHeartbeats 8000000 in
theorem common_spec (w : World) {mean : ExcName → Option Value} {mg mb : Str → Option Value} {dp un : Nat} {gd : Option (List Code)} {cn : Str} {cs : Scope} {a : Addr} {ccd : Value} {cl : List (Str × Addr)} {outer : List Env} {A₀ : Around} {base h₀ : Heap} {L : Addr} {m : Str → Option Value} {s : Shared} {Q E : Value → Shared → Prop}
    {b : Array UInt8} {ks : List Int} {i j n : Int} {tb ti tj tn : Tok}
    (B : Below A₀ base outer h₀) (F : Fr h₀ L s.heap m) (X : (hd.heap_39 w.params).In h₀) (T : Top hd.view_39 LZ mean mg mb h₀) (hk : cs.kind = .function)
    (hkb : KBw.bInts b = ks) (hb : ks.length ≤ 100) (hi0 : 0 ≤ i) (hij : i < j) (hj : j ≤ (ks.length : Int)) (hn0 : 0 ≤ n) (hn1 : n ≤ 100) (hdp : dp + 1 < recursionLimit) (hun : un + 8 < cLine)
    (ret : ∀ r t h' tk, 0 ≤ r → j + r ≤ (ks.length : Int) → r ≤ n → (∀ k : Nat, (k : Int) < r → ks.getD (i + k).toNat 0 = ks.getD (j + k).toNat 0) → Fr h₀ L h' m → KeptBut [] s.heap h' → Q (.int r t) { s with heap := h', toks := tk }) :
    wpAny (model PySem.Challenge.rw_og0134_01.row.prog w) (ktrTop dp un gd cn cs L a ccd cl outer) (call (.ref 110) [.bytes b tb, .int i ti, .int j tj, .int n tn]) Q E s := by
  revert X; k_fill; intro X
  have N : News h₀ L s.heap [] := News.nil
  refine wpAny_call ?_
  k_dflt (refine' code_defG ?k1 ?k2 ?k3 ?k4 ?k5 ?kA ?kF ?kK ?k6 ?k7 ?k8 ?k9 ?kB ?_ ?c2 ?c3 ?c4 ?c5; (case kA => exact rfl); (case kF => exact rfl); (case kK => assumption); (case k1 => k_asm); (case k2 => k_asm); (case k3 => k_asm); (case k4 => k_asm); (case k5 => k_asm); (case k6 => k_is); (case k7 => k_is); (case k8 => ktr_room); (case k9 => exact BindsTo.of_eq rfl); (case c5 => decide); (case kB => exact locs rfl); (case c2 => exact rfl); (case c3 => exact rfl); (case c4 => exact rfl); k_whole; intro g' L' h' FG' F' N' B' X' T' kG'; (try dsimp only); (try k_lift B'); (try k_fold))
  k_steps
  rename ∀ (j_1 : Int), 0 ≤ j_1 → j_1 < _ → _ = true => hall
  rename _ ≤ max 0 _ => hmax
  have hle : ∀ {x : Int}, x ≤ max 0 (if n < (ks.length : Int) - j then n else (ks.length : Int) - j) → j + x ≤ (ks.length : Int) ∧ x ≤ n := by
    intro x hx
    split at hx <;> omega
  refine ret _ _ _ _ (by assumption) (hle hmax).1 (hle hmax).2 (fun k hk => ?_) ?_ (kept_of (by assumption) (by assumption))
  · have h9 := hall (k : Int) (by omega) hk
    have h8 : (k : Int) < if n < (ks.length : Int) - j then n else (ks.length : Int) - j := by
      have := hmax
      split at this <;> (split <;> omega)
    rw [if_pos h8] at h9
    simpa using h9
  · assumption
end Mine
end
section
open PySem PySem.W PyProof.Rows PySem.Calls PySem.Spec PyProof.V
namespace Mine
theorem walk_off_G : True := by
  w_top off
  trivial
/-- the walk halts here -/
def Halt (P : Prop) : Prop := P
theorem halt {P : Prop} (h : Halt P) : P := h
theorem Halt.on {P : Prop} (h : P) : Halt P := h
section
variable {prog : Program} {w : World} {A : Around} {E : Value → Shared → Prop} {Q : Flow → Shared → Prop} {s : Shared} {env : Env} {h₀ : Heap} {L : Addr}
/-- a turn's end: the state c, the ledger nx, the measure n; Mp lays the state's names over what is forgotten -/
def WEnd {σ : Type} (h₀ : Heap) (L : Addr) (s : Shared) (Mp : σ → (Str → Option Value) → Str → Option Value) (I : σ → Nat → List (Addr × Obj) → Prop) (n : Nat) (s₃ : Shared) : Prop :=
  ∃ c h' tk m' nx n', s₃ = { s with heap := h', toks := tk } ∧ Fr h₀ L h' m' ∧ News h₀ L h' nx ∧ n' < n ∧ I c n' nx ∧ m' = Mp c m'
def WPost {σ : Type} (h₀ : Heap) (L : Addr) (s : Shared) (Mp : σ → (Str → Option Value) → Str → Option Value) (I : σ → Nat → List (Addr × Obj) → Prop) (Q : Flow → Shared → Prop) (n : Nat) (f : Flow) (s₃ : Shared) : Prop :=
  match f with
  | .next | .cont => WEnd h₀ L s Mp I n s₃
  | .brk => Q .next s₃
  | .ret v => Q (.ret v) s₃
theorem while_gen {σ : Type} {test : Expr} {body : List Stmt} {pos : Pos} {m : Str → Option Value} {news : List (Addr × Obj)} {n₀ : Nat} (Mp : σ → (Str → Option Value) → Str → Option Value) (I : σ → Nat → List (Addr × Obj) → Prop) (c₀ : σ)
    (F : Fr h₀ L s.heap m) (N : News h₀ L s.heap news) (hm : m = Mp c₀ m) (hI : I c₀ n₀ news)
    (turn : ∀ c n nx (u : Str → Option Value) h tk, I c n nx → Fr h₀ L h (Mp c u) → News h₀ L h nx →
      wpAny (model prog w) A (isTrue test env (eval test env)) (fun b s₂ =>
        if b = true then wpAny (model prog w) A (execs body env) (WPost h₀ L s Mp I Q n) E s₂ else Q .next s₂) E { s with heap := h, toks := tk })
    (hE : PassesOwn (model prog w) A env E := by passes_own) :
    wpAny (model prog w) A (exec (.While test body [] pos) env) Q E s := by
  refine While_inv2 (fun n m nx => ∃ c, I c n nx ∧ m = Mp c m) F N ⟨c₀, hI, hm⟩ ?_ hE
  rintro n m₁ nx h tk F₁ N₁ ⟨c, hI₁, hm₁⟩
  refine wpAny_mono (turn c n nx m₁ h tk hI₁ (hm₁ ▸ F₁) N₁) (fun b s₂ p => ?_) fun _ _ x => x
  cases b with
  | false => simpa using p
  | true =>
    simp only [if_true] at p ⊢
    refine wpAny_mono p (fun f s₃ q => ?_) fun _ _ x => x
    cases f with
    | ret v => exact q
    | brk => exact q
    | next =>
      obtain ⟨c, h', tk', m', nx', n', rfl, F', N', hn, hI', hm'⟩ := q
      exact ⟨h', tk', m', nx', n', rfl, F', N', hn, c, hI', hm'⟩
    | cont =>
      obtain ⟨c, h', tk', m', nx', n', rfl, F', N', hn, hI', hm'⟩ := q
      exact ⟨h', tk', m', nx', n', rfl, F', N', hn, c, hI', hm'⟩
theorem WEnd.intro {σ : Type} {Mp : σ → (Str → Option Value) → Str → Option Value} {I : σ → Nat → List (Addr × Obj) → Prop} {n n' : Nat} {h' : Heap} {tk : Nat} {m' : Str → Option Value} {nx : List (Addr × Obj)} (c : σ)
    (F : Fr h₀ L h' m') (N : News h₀ L h' nx) (hI : I c n' nx) (hn : n' < n) (hm : m' = Mp c m') : WEnd h₀ L s Mp I n { s with heap := h', toks := tk } :=
  ⟨c, h', tk, m', nx, n', rfl, F, N, hn, hI, hm⟩
end
/-- all names but those that a loop stores are as they were -/
def over (stored : List Str) (m u : Str → Option Value) : Str → Option Value := fun z => if stored.contains z then u z else m z
theorem over_self (stored : List Str) (m : Str → Option Value) : m = over stored m m := by
  funext z
  unfold over
  split <;> rfl
theorem over_of {stored : List Str} {m m' : Str → Option Value} (h : ∀ z, stored.contains z = false → m' z = m z) : m' = over stored m m' := by
  funext z
  unfold over
  cases hz : stored.contains z with
  | true => simp
  | false => simp [h z hz]

/-! ## the chains' dict of ints -/
def HeadsOk (kvs : List (Int × Value)) (n : Int) : Prop := ∀ p ∈ kvs, ∃ v t, p.2 = Value.int v t ∧ 0 ≤ v ∧ v < n
theorem HeadsOk.mono {kvs : List (Int × Value)} {n n' : Int} (h : HeadsOk kvs n) (hn : n ≤ n') : HeadsOk kvs n' := fun p hp =>
  let ⟨v, t, e, a, b⟩ := h p hp
  ⟨v, t, e, a, Int.lt_of_lt_of_le b hn⟩
theorem HeadsOk.stored {kvs : List (Int × Value)} {n v : Int} {k : Int} {t : Tok} (h : HeadsOk kvs n) (h0 : 0 ≤ v) (h1 : v < n) : HeadsOk (stored kvs k (.int v t)) n := by
  intro p hp
  unfold PySem.stored at hp
  split at hp
  · obtain ⟨q, hq, rfl⟩ := List.mem_map.mp hp
    split
    · exact ⟨v, t, rfl, h0, h1⟩
    · exact h q hq
  · rcases List.mem_append.mp hp with hq | hq
    · exact h p hq
    · rw [List.mem_singleton.mp hq]
      exact ⟨v, t, rfl, h0, h1⟩
theorem HeadsOk.get {kvs : List (Int × Value)} {n k : Int} {x : Value} (h : HeadsOk kvs n) (e : valueAt kvs k = some x) : ∃ v t, x = Value.int v t ∧ 0 ≤ v ∧ v < n := by
  unfold valueAt at e
  obtain ⟨p, hp, rfl⟩ := Option.map_eq_some_iff.mp e
  exact h p (List.mem_of_find?_eq_some hp)
section
variable {prog : Program} {w : World} {A : Around} {E : Value → Shared → Prop} {s : Shared} {h₀ : Heap} {L d : Addr} {m : Str → Option Value} {news : List (Addr × Obj)} {o : Obj} {kvs : List (Int × Value)}
theorem heads_get {k n : Int} {tk td : Tok} {Q : Value → Shared → Prop} (N : News h₀ L s.heap news) (hp : (d, o) ∈ news) (hd : o.IsDictOf (PySem.intKind prog w) kvs) (hv : HeadsOk kvs n) (lo : (d == sysModules) = false) (hn : 0 ≤ n)
    (h : ∀ v t tk', -1 ≤ v → v < n → Q (.int v t) { s with toks := tk' }) : wpAny (model prog w) A (call (.builtin "dict.get") [.ref d, .int k tk, .int (-1) td]) Q E s := by
  refine kdg_get2 (knd := PySem.intKind prog w) N hp hd lo (intKind_is _ _ _ _) (valueAt kvs k) rfl ?_
  cases e : valueAt kvs k with
  | none => exact h _ _ _ (by omega) (by omega)
  | some x =>
    obtain ⟨v, t, rfl, h1, h2⟩ := hv.get e
    exact h _ _ _ (by omega) h2
end
theorem news_kept0 {h₀ h h' : Heap} {L : Addr} {news : List (Addr × Obj)} (N : News h₀ L h news) (k : KeptBut [] h h') : News h₀ L h' news := fun p hp => ⟨k _ _ (N p hp).1 (by simp), (N p hp).2⟩
theorem heads_set {prog : Program} {w : World} {A : Around} {E : Value → Shared → Prop} {s : Shared} {h₀ : Heap} {L d : Addr} {m : Str → Option Value} {news : List (Addr × Obj)} {o : Obj} {kvs : List (Int × Value)} {g : Obj → List (Addr × Obj)} {k v n : Int} {tk tv : Tok} {Q : Unit → Shared → Prop}
    (F : Fr h₀ L s.heap m) (N : News h₀ L s.heap news) (U : UpdF d o news g) (hd : o.IsDictOf (PySem.intKind prog w) kvs) (hv : HeadsOk kvs n) (hsz : kvs.length ≤ 1000) (h0 : 0 ≤ v) (h1 : v < n)
    (h : ∀ h' o' kvs', Fr h₀ L h' m → News h₀ L h' (g o') → o'.IsDictOf (PySem.intKind prog w) kvs' → HeadsOk kvs' n → kvs'.length ≤ kvs.length + 1 → Q () { s with heap := h', toks := s.toks + 1 }) : wpAny (model prog w) A (setItem (.ref d) (.int k tk) (.int v tv)) Q E s :=
  kda_set (knd := PySem.intKind prog w) F N U hd (intKind_is _ _ _ _) (by rw [sizeLine_eq]; omega) fun h' o' F' N' hd' => h h' o' _ F' N' hd' (hv.stored h0 h1) (stored_length_le _ _ _)
theorem fresh_of {H g h' : Heap} {L' r : Addr} {o : Obj} {as : List Addr} {news : List (Addr × Obj)} (G : GSub H g as) (N : News g L' h' news) (hm : (r, o) ∈ news) (hr : r ∉ as) : H.get? r = none := by
  cases q : H.get? r with
  | none => rfl
  | some x =>
    have h1 := G r x q hr
    have h2 := (N _ hm).2.2
    rw [h1] at h2
    cases h2
theorem ne_fresh {h : Heap} {a r : Nat} {o : Obj} (ha : h.get? a = some o) (hr : h.get? r = none) : @Ne Nat a r := fun e => by
  rw [e, hr] at ha
  cases ha
end Mine
end
section
open PySem PySem.W PyProof.Rows PySem.Calls PySem.Spec PyProof.V
namespace Mine
theorem walk_off_C3 : True := by
  w_top off
  trivial
local macro_rules | `(tactic| walk_at "no key 0") => `(tactic| fail "none")
abbrev chDict (w : World) (b : Array UInt8) (tb t1 t2 t3 : Tok) (d l : Addr) : Obj :=
  dictOf [⟨PyData.keyHash w.params (Str.ofString "octets"), .str (Str.ofString "octets") t1, .bytes b tb⟩, ⟨PyData.keyHash w.params (Str.ofString "heads"), .str (Str.ofString "heads") t2, .ref d⟩, ⟨PyData.keyHash w.params (Str.ofString "earlier"), .str (Str.ofString "earlier") t3, .ref l⟩] 3
def EarlierOk (es : List Int) : Prop := ∀ i : Nat, i < es.length → -1 ≤ es.getD i 0 ∧ es.getD i 0 < (i : Int)
theorem EarlierOk.push {es : List Int} {v : Int} (h : EarlierOk es) (h0 : -1 ≤ v) (h1 : v < es.length) : EarlierOk (es ++ [v]) := by
  intro i hi
  rw [List.length_append, List.length_singleton] at hi
  by_cases hl : i < es.length
  · rw [List.getD_eq_getElem?_getD, List.getElem?_append_left hl, ← List.getD_eq_getElem?_getD]
    exact h i hl
  · have e : i = es.length := by omega
    subst e
    rw [List.getD_eq_getElem?_getD, List.getElem?_append_right (Nat.le_refl _), Nat.sub_self]
    exact ⟨h0, h1⟩
local macro_rules | `(tactic| walk_at "call ref") => `(tactic| (k_here; (with_reducible show wpAny _ _ (call (Value.ref 68) [_, _]) _ _ _); (rename News _ _ _ _ => lN'); k_dflt (refine' key_spec _ (by k_asm) (by k_asm) (by k_asm) (by k_asm) rfl (by assumption) (by assumption) (by omega) (by omega) (by ktr_room) (by ktr_units) ?_); intro r' t' h' tk' lo' hi' F' K'; (have N' := news_kept0 lN' K'); clear lN' K'))
local macro_rules | `(tactic| walk_at "call builtin:dict.get") => `(tactic| (k_here; k_dflt (refine' heads_get (by k_asm) (by k_mem) (by k_asm) (by assumption) (by assumption) (by omega) ?_); intro v' t' tk' v0' v1'))
local macro_rules | `(tactic| walk_at "setItem ref int") => `(tactic| (k_here; k_dflt (refine' heads_set (by k_asm) (by k_asm) (by k_updF) (by k_asm) (HeadsOk.mono (by assumption) (Int.le_add_of_nonneg_right (b := 1) (by decide))) (by omega) (by omega) (by omega) ?_); intro h' o' kvs' F' N' hd' hv' hl'; (try dsimp only at N')))
local macro_rules | `(tactic| walk_at "exec While Compare cons nil") => `(tactic| (refine halt ?_))
set_option maxRecDepth 100000 in
set_option maxHeartbeats 8000000 in
theorem put_spec (w : World) {mean : ExcName → Option Value} {mg mb : Str → Option Value} {dp un : Nat} {gd : Option (List Code)} {cn : Str} {cs : Scope} {a : Addr} {ccd : Value} {cl : List (Str × Addr)} {outer : List Env} {A₀ : Around} {base h₀ : Heap} {L : Addr} {m : Str → Option Value} {s : Shared} {Q E : Value → Shared → Prop}
    {b : Array UInt8} {ks es : List Int} {us : List Value} {j : Nat} {c dx d l : Nat} {od : Obj} {kvs : List (Int × Value)} {e : Int} {tb t1 t2 t3 te : Tok}
    (B : Below A₀ base outer h₀) (F : Fr h₀ L s.heap m) (X : (hd.heap_39 w.params).In h₀) (T : Top hd.view_39 LZ mean mg mb h₀) (hk : cs.kind = .function)
    (N : News h₀ L s.heap [(c, instObj 99 dx), (dx, chDict w b tb t1 t2 t3 d l), (d, od), (l, listOf us.toArray j)])
    (n1 : @Ne Nat c dx) (n2 : @Ne Nat c d) (n3 : @Ne Nat c l) (n4 : @Ne Nat dx d) (n5 : @Ne Nat dx l) (n6 : @Ne Nat d l) (lo : (d == sysModules) = false)
    (hkb : KBw.bInts b = ks) (hb : ks.length ≤ 100) (hd : od.IsDictOf (PySem.intKind PySem.Challenge.rw_og0134_01.row.prog w) kvs) (hkv : HeadsOk kvs es.length) (hkl : kvs.length ≤ es.length) (hi : IntsAre us es) (hes : EarlierOk es) (hel : es.length ≤ 100)
    (he0 : 0 ≤ e) (he1 : e ≤ 100) (hdp : dp + 2 < recursionLimit) (hun : un + 16 < cLine)
    (ret : ∀ h' tk od' kvs' us' es' j', od'.IsDictOf (PySem.intKind PySem.Challenge.rw_og0134_01.row.prog w) kvs' → HeadsOk kvs' es'.length → kvs'.length ≤ es'.length → IntsAre us' es' → EarlierOk es' → es'.length = max es.length e.toNat →
      Fr h₀ L h' m → News h₀ L h' [(c, instObj 99 dx), (dx, chDict w b tb t1 t2 t3 d l), (d, od'), (l, listOf us'.toArray j')] → KeptBut [c, dx, d, l] s.heap h' → Q .none { s with heap := h', toks := tk }) :
    wpAny (model PySem.Challenge.rw_og0134_01.row.prog w) (ktrTop dp un gd cn cs L a ccd cl outer) (call (.ref 89) [.ref c, .int e te]) Q E s := by
  revert X; k_fill; intro X
  refine wpAny_call ?_
  k_dflt (refine' code_defG ?k1 ?k2 ?k3 ?k4 ?k5 ?kA ?kF ?kK ?k6 ?k7 ?k8 ?k9 ?kB ?_ ?c2 ?c3 ?c4 ?c5; (case kA => exact rfl); (case kF => exact rfl); (case kK => assumption); (case k1 => k_asm); (case k2 => k_asm); (case k3 => k_asm); (case k4 => k_asm); (case k5 => k_asm); (case k6 => k_is); (case k7 => k_is); (case k8 => ktr_room); (case k9 => exact BindsTo.of_eq rfl); (case c5 => decide); (case kB => exact locs rfl); (case c2 => exact rfl); (case c3 => exact rfl); (case c4 => exact rfl); k_whole; intro g' L' h' FG' F' N' B' X' T' kG'; (try dsimp only); (try k_lift B'); (try k_fold))
  k_steps
  refine Halt.on ?_
  rename Fr _ _ _ _ => F1
  rename News _ _ _ _ => N1
  rename GSub _ _ _ => kG
  refine while_gen (σ := Unit) (n₀ := (e - es.length).toNat) (fun _ => over [Str.ofString "at", Str.ofString "before", Str.ofString "key"] _)
    (fun _ n nx => ∃ (od1 : Obj) (kvs1 : List (Int × Value)) (us1 : List Value) (es1 : List Int) (j1 : Nat), nx = [(c, instObj 99 dx), (dx, chDict w b tb t1 t2 t3 d l), (d, od1), (l, listOf us1.toArray j1)] ∧ n = (e - es1.length).toNat ∧
      od1.IsDictOf (PySem.intKind PySem.Challenge.rw_og0134_01.row.prog w) kvs1 ∧ HeadsOk kvs1 es1.length ∧ kvs1.length ≤ es1.length ∧ IntsAre us1 es1 ∧ EarlierOk es1 ∧ es1.length ≤ 100 ∧ es.length ≤ es1.length ∧ es1.length ≤ max es.length e.toNat) () F1 N1 (over_self _ _) ⟨od, kvs, us, es, j, rfl, rfl, hd, hkv, hkl, hi, hes, hel, by omega, by omega⟩ ?_
  rintro _ n1 nx u1 hp1 tk1 ⟨od1, kvs1, us1, es1, j1, rfl, rfl, hd1, hkv1, hkl1, hi1, hes1, hel1, hge1, hle1⟩ F2 N2
  clear hd hkv hi hes F1 N1
  k_steps
  · rename News _ _ _ _ => N9
    rename Fr _ _ _ _ => F9
    simp only [List.push_toArray] at N9
    rename Obj.IsDictOf _ _ _ => hd9
    refine WEnd.intro () F9 N9 ⟨_, _, _, _, _, rfl, rfl, hd9, ?v, ?k, hi1.append (.cons _ _ .nil), ?e, ?l1, ?l2, ?l3⟩ ?n (over_of ?o)
    case v => (rename HeadsOk _ (_ + 1) => hv9); simpa using hv9
    case k => (simp only [List.length_append, List.length_singleton]; omega)
    case e => exact hes1.push (by assumption) (by assumption)
    case l1 => (simp only [List.length_append, List.length_singleton]; omega)
    case l2 => (simp only [List.length_append, List.length_singleton]; omega)
    case l3 => (simp only [List.length_append, List.length_singleton]; omega)
    case n => (simp only [List.length_append, List.length_singleton]; omega)
    case o => (intro z hz; simp only [List.contains_cons, List.contains_nil, Bool.or_false, Bool.or_eq_false_iff, beq_eq_false_iff_ne, ne_eq] at hz; simp [over, hz])
  · rename News _ _ _ _ => N9
    rename Fr _ _ _ _ => F9
    simp only [List.push_toArray] at N9
    refine WEnd.intro () F9 N9 ⟨_, _, _, _, _, rfl, rfl, hd1, ?v, ?k, hi1.append (.cons _ _ .nil), ?e, ?l1, ?l2, ?l3⟩ ?n (over_of ?o)
    case v => exact hkv1.mono (by simp only [List.length_append, List.length_singleton]; omega)
    case k => (simp only [List.length_append, List.length_singleton]; omega)
    case e => exact hes1.push (by omega) (by omega)
    case l1 => (simp only [List.length_append, List.length_singleton]; omega)
    case l2 => (simp only [List.length_append, List.length_singleton]; omega)
    case l3 => (simp only [List.length_append, List.length_singleton]; omega)
    case n => (simp only [List.length_append, List.length_singleton]; omega)
    case o => (intro z hz; simp only [List.contains_cons, List.contains_nil, Bool.or_false, Bool.or_eq_false_iff, beq_eq_false_iff_ne, ne_eq] at hz; simp [over, hz])
  · exact ret _ _ _ _ _ _ _ hd1 hkv1 hkl1 hi1 hes1 (by omega) (by assumption) (by assumption) (kept_of kG F2)
end Mine
end
section
open PySem PySem.W PyProof.Rows PySem.Calls PySem.Spec PyProof.V
namespace Mine
theorem walk_off_C4 : True := by
  w_top off
  trivial
theorem notin4 {r c dx d l : Nat} (h : c < r ∧ dx < r ∧ d < r ∧ l < r) : r ∉ ([c, dx, d, l] : List Nat) := by
  simp only [List.mem_cons, List.not_mem_nil, or_false]
  omega
abbrev mapOf {h₀ h : Heap} {L : Addr} {m : Str → Option Value} (_ : Fr h₀ L h m) : Str → Option Value := m
local macro_rules | `(tactic| walk_at "call ref") => `(tactic| (k_here; (with_reducible show wpAny _ _ (call (Value.ref 68) [_, _]) _ _ _); (rename News _ _ _ _ => lN'); k_dflt (refine' key_spec _ (by k_asm) (by k_asm) (by k_asm) (by k_asm) rfl (by assumption) (by assumption) (by omega) (by omega) (by ktr_room) (by ktr_units) ?_); intro r' t' h' tk' lo' hi' F' K'; (have N' := news_kept0 lN' K'); clear lN' K'))
local macro_rules | `(tactic| walk_at "call builtin:dict.get") => `(tactic| (k_here; k_dflt (refine' heads_get (by k_asm) (by k_mem) (by k_asm) (by assumption) (by assumption) (by omega) ?_); intro v' t' tk' v0' v1'))
local macro_rules | `(tactic| walk_at "exec While BoolOp cons nil") => `(tactic| (refine halt ?_))
set_option maxRecDepth 100000 in
set_option maxHeartbeats 8000000 in
theorem places_spec (w : World) {mean : ExcName → Option Value} {mg mb : Str → Option Value} {dp un : Nat} {gd : Option (List Code)} {cn : Str} {cs : Scope} {a : Addr} {ccd : Value} {cl : List (Str × Addr)} {outer : List Env} {A₀ : Around} {base h₀ : Heap} {L : Addr} {m : Str → Option Value} {s : Shared} {Q E : Value → Shared → Prop}
    {b : Array UInt8} {ks es : List Int} {us : List Value} {j : Nat} {c dx d l : Nat} {od : Obj} {kvs : List (Int × Value)} {e mbk tr : Int} {tb t1 t2 t3 te tm tt : Tok}
    (B : Below A₀ base outer h₀) (F : Fr h₀ L s.heap m) (X : (hd.heap_39 w.params).In h₀) (T : Top hd.view_39 LZ mean mg mb h₀) (hk : cs.kind = .function)
    (N : News h₀ L s.heap [(c, instObj 99 dx), (dx, chDict w b tb t1 t2 t3 d l), (d, od), (l, listOf us.toArray j)])
    (n1 : @Ne Nat c dx) (n2 : @Ne Nat c d) (n3 : @Ne Nat c l) (n4 : @Ne Nat dx d) (n5 : @Ne Nat dx l) (n6 : @Ne Nat d l) (lo : (d == sysModules) = false)
    (hkb : KBw.bInts b = ks) (hb : ks.length ≤ 100) (hd : od.IsDictOf (PySem.intKind PySem.Challenge.rw_og0134_01.row.prog w) kvs) (hkv : HeadsOk kvs es.length) (hi : IntsAre us es) (hes : EarlierOk es) (hel : es.length ≤ 100)
    (he : e = (es.length : Int)) (htr0 : 0 ≤ tr) (htr1 : tr ≤ 10) (hdp : dp + 2 < recursionLimit) (hun : un + 16 < cLine)
    (ret : ∀ h' tk (r : Nat) fs gs j', IntsAre fs gs → (∀ g ∈ gs, 0 ≤ g ∧ g < e ∧ e - g ≤ mbk) → (gs.length : Int) ≤ tr → s.heap.get? r = none → fs.length ≤ 10 →
      Fr h₀ L h' m → News h₀ L h' [(r, listOf fs.toArray j'), (c, instObj 99 dx), (dx, chDict w b tb t1 t2 t3 d l), (d, od), (l, listOf us.toArray j)] → KeptBut [c, dx, d, l] s.heap h' → Q (.ref r) { s with heap := h', toks := tk }) :
    wpAny (model PySem.Challenge.rw_og0134_01.row.prog w) (ktrTop dp un gd cn cs L a ccd cl outer) (call (.ref 96) [.ref c, .int e te, .int mbk tm, .int tr tt]) Q E s := by
  revert X; k_fill; intro X
  refine wpAny_call ?_
  k_dflt (refine' code_defG ?k1 ?k2 ?k3 ?k4 ?k5 ?kA ?kF ?kK ?k6 ?k7 ?k8 ?k9 ?kB ?_ ?c2 ?c3 ?c4 ?c5; (case kA => exact rfl); (case kF => exact rfl); (case kK => assumption); (case k1 => k_asm); (case k2 => k_asm); (case k3 => k_asm); (case k4 => k_asm); (case k5 => k_asm); (case k6 => k_is); (case k7 => k_is); (case k8 => ktr_room); (case k9 => exact BindsTo.of_eq rfl); (case c5 => decide); (case kB => exact locs rfl); (case c2 => exact rfl); (case c3 => exact rfl); (case c4 => exact rfl); k_whole)
  intro g1 L1 h1 FG1 F1 N1 B1 X1 T1 kG
  (try dsimp only); (try k_lift B1); (try k_fold)
  k_steps
  · rename News g1 L1 _ _ => N9
    rename Fr g1 L1 _ _ => F9
    rename _ ∧ _ ∧ _ ∧ _ => hlt
    exact ret _ _ _ [] [] _ .nil (fun _ h => nomatch h) (by simpa using htr0) (fresh_of kG N9 (List.Mem.head _) (notin4 hlt)) (by simp) (by assumption) (by assumption) (kept_of kG F9)
  · refine Halt.on ?_
    rename News g1 L1 _ _ => N9
    rename Fr g1 L1 _ _ => F9
    rename _ ∧ _ ∧ _ ∧ _ => hlt
    rename -1 ≤ _ => hv0
    rename _ < (es.length : Int) => hv1
    rename_i rr _ _ _ _ _ _ _ _ _ _ _ v0 tv0 _ _
    refine while_gen (σ := Int × Tok) (n₀ := (v0 + 1 : Int).toNat) (fun c _ y => if y = Str.ofString "here" then some (.int c.1 c.2) else mapOf F9 y)
      (fun c1 n nx => ∃ (fs : List Value) (gs : List Int) (k1 : Nat), nx = [(rr, listOf fs.toArray k1), (c, instObj 99 dx), (dx, chDict w b tb t1 t2 t3 d l), (d, od), (l, listOf us.toArray j)] ∧ n = (c1.1 + 1).toNat ∧
        -1 ≤ c1.1 ∧ c1.1 < es.length ∧ IntsAre fs gs ∧ (∀ g ∈ gs, 0 ≤ g ∧ g < e ∧ e - g ≤ mbk) ∧ (gs.length : Int) ≤ tr) (v0, tv0) F9 N9 (by funext y; dsimp only [mapOf]; split <;> rfl) ⟨[], [], 0, rfl, rfl, hv0, hv1, .nil, (fun _ h => (nomatch h)), (by simpa using htr0)⟩ ?_
    rintro ⟨v1, tv1⟩ n1 nx u1 hp1 tk1 ⟨fs, gs, k1, rfl, rfl, hw0, hw1, hfs, hgs, hgl⟩ F2 N2
    dsimp only at hw0 hw1
    have hfl : fs.length ≤ 10 := by rw [hfs.length]; omega
    dsimp only [mapOf] at F2 ⊢
    clear hd hkv F9 N9
    k_steps
    · rename Fr g1 L1 _ _ => F8
      rename News g1 L1 _ _ => N8
      simp only [List.push_toArray] at N8
      have hv2 := hes v1.toNat (by omega)
      rename_i tq _
      refine WEnd.intro (es.getD v1.toNat 0, tq) F8 N8 ⟨_, _, _, rfl, rfl, hv2.1, ?h1, hfs.append (.cons _ _ .nil), ?h2, ?h3⟩ ?h4 ?h5
      case h1 => (have := hv2.2; dsimp only; omega)
      case h2 =>
        intro g hg
        rcases List.mem_append.mp hg with hg | hg
        · exact hgs g hg
        · rw [List.mem_singleton.mp hg]
          exact ⟨by assumption, by omega, by assumption⟩
      case h3 => (rw [List.length_append, List.length_singleton]; push_cast; omega)
      case h4 => (have := hv2.2; dsimp only; omega)
      case h5 =>
        funext y
        by_cases h : y = Str.ofString "here"
        · simp only [if_pos h]
        · simp only [if_neg h]
    all_goals exact ret _ _ _ _ _ _ hfs hgs hgl (fresh_of kG N2 (List.Mem.head _) (notin4 hlt)) hfl (by assumption) (by assumption) (kept_of kG F2)
end Mine
end
section
open PySem PySem.W PyProof.Rows PySem.Calls PySem.Spec PyProof.V
namespace Mine
theorem walk_off_C5 : True := by
  w_top off
  trivial
local macro_rules | `(tactic| walk_at "no key 0") => `(tactic| fail "none")
abbrev tup (vs : List Value) : Obj := { cls := .type "tuple", data := .seq vs.toArray }
def MatchOk (ks : List Int) (i l d : Int) : Prop :=
  0 ≤ l ∧ l ≤ 7 ∧ i + l ≤ (ks.length : Int) ∧ (0 < l → 1 ≤ d ∧ d ≤ i ∧ ∀ k : Nat, (k : Int) < l → ks.getD (i + k - d).toNat 0 = ks.getD (i + k).toNat 0)
theorem news_join {h₀ h h' : Heap} {L : Addr} {as : List Addr} {keep ch ch' : List (Addr × Obj)} (N : News h₀ L h (keep ++ ch)) (K : KeptBut as h h') (hk : ∀ p ∈ keep, p.1 ∉ as) (N' : News h₀ L h' ch') : News h₀ L h' (keep ++ ch') := fun p hp =>
  (List.mem_append.mp hp).elim (fun h1 => ⟨K _ _ (N p (List.mem_append.mpr (.inl h1))).1 (hk p h1), (N p (List.mem_append.mpr (.inl h1))).2⟩) (N' p)
theorem news_sub {h₀ h : Heap} {L : Addr} {keep ch : List (Addr × Obj)} (N : News h₀ L h (keep ++ ch)) : News h₀ L h ch := fun p hp => N p (List.mem_append.mpr (.inr hp))
theorem news_drop2 {h₀ h : Heap} {L : Addr} {a b : Addr × Obj} {rest : List (Addr × Obj)} (N : News h₀ L h (a :: b :: rest)) : News h₀ L h (a :: rest) := fun p hp =>
  (List.mem_cons.mp hp).elim (fun e => N p (e ▸ List.Mem.head _)) fun hp => N p (List.Mem.tail _ (List.Mem.tail _ hp))
theorem InvEndG.front {h₀ : Heap} {L : Addr} {J : (Str → Option Value) → List (Addr × Obj) → Prop} {m' : Str → Option Value} {own rest : List (Addr × Obj)} {p q : Addr × Obj} {s₁ : Shared} {h' : Heap} {tk : Nat} (F : Fr h₀ L h' m') (N : News h₀ L h' (p :: ((q :: rest) ++ own)))
    (hj : J m' (p :: rest)) (ha : OwnOff own ((q :: rest).map (·.1))) (hl : ∀ z : Addr × Obj, z ∈ (q :: rest) ++ own → z.1 < p.1) : InvEndG h₀ L J own s₁ { s₁ with heap := h', toks := tk } := by
  refine InvEndG.intro (nx := p :: rest) F N hj ?_ ?_ ?_
  · intro z hz y hy
    rcases List.mem_cons.mp hy with rfl | hy
    · exact Nat.ne_of_lt (hl z (List.mem_append.mpr (.inr hz)))
    · exact ha z hz y (List.Mem.tail _ hy)
  · intro z hz
    rcases List.mem_cons.mp hz with rfl | hz
    · exact List.Mem.head _
    · exact List.Mem.tail _ (List.mem_append.mpr (.inl (List.Mem.tail _ hz)))
  · exact fun z hz => List.Mem.tail _ (List.mem_append.mpr (.inr hz))
theorem over_but {x : Str} {v : Value} {st : List Str} {M m' : Str → Option Value} (h1 : m' x = some v) (h2 : ∀ z, z ≠ x → st.contains z = false → m' z = M z) : m' = fun y => if y = x then some v else over st M m' y := by
  funext y
  by_cases hb : y = x
  · rw [if_pos hb, hb, h1]
  · rw [if_neg hb]
    unfold over
    cases hz : st.contains y with
    | true => simp
    | false => simp [h2 y hb hz]
theorem MatchOk.zero {ks : List Int} {i : Int} (h : i ≤ ks.length) : MatchOk ks i 0 0 := ⟨Int.le_refl _, by decide, by omega, fun h => absurd h (by decide)⟩
theorem MatchOk.mk' {ks : List Int} {i g l : Int} (h0 : 0 ≤ l) (h7 : l ≤ 7) (hl : i + l ≤ ks.length) (hg0 : 0 ≤ g) (hgi : g < i) (h : ∀ k : Nat, (k : Int) < l → ks.getD (g + k).toNat 0 = ks.getD (i + k).toNat 0) : MatchOk ks i l (i - g) := by
  refine ⟨h0, h7, hl, fun _ => ⟨by omega, by omega, fun k hk => ?_⟩⟩
  have e : i + k - (i - g) = g + k := by omega
  rw [e]
  exact h k hk
local macro_rules | `(tactic| walk_at "exec For Name Call cons nil") => `(tactic| (refine halt ?_))
local macro_rules | `(tactic| walk_at "pyIter ref") => `(tactic| (refine halt ?_))
local macro_rules | `(tactic| walk_at "call ref") => `(tactic| (refine halt ?_))
local macro_rules | `(tactic| walk_at "call ref") => `(tactic| (k_here; (with_reducible show wpAny _ _ (call (Value.ref 110) _) _ _ _); (rename News _ _ _ _ => lN'); (rename _ ∧ _ ∧ _ => lg'); k_dflt (refine' common_spec _ (by k_asm) (by k_asm) (by k_asm) (by k_asm) rfl (by assumption) (by assumption) lg'.1 lg'.2.1 (by omega) (by decide) (by decide) (by ktr_room) (by ktr_units) ?_); intro r' t' h' tk' p0 p1 p2 p3 F' K'; (have N' := news_kept0 lN' K'); clear lN' K'))
set_option maxRecDepth 100000 in
set_option maxHeartbeats 8000000 in
theorem match_spec (w : World) {mean : ExcName → Option Value} {mg mb : Str → Option Value} {dp un : Nat} {gd : Option (List Code)} {cn : Str} {cs : Scope} {a : Addr} {ccd : Value} {cl : List (Str × Addr)} {outer : List Env} {A₀ : Around} {base h₀ : Heap} {L : Addr} {m : Str → Option Value} {s : Shared} {Q E : Value → Shared → Prop}
    {b : Array UInt8} {ks es : List Int} {us : List Value} {j : Nat} {c dx d l : Nat} {od : Obj} {kvs : List (Int × Value)} {e : Int} {tb t1 t2 t3 te tm tt tl : Tok}
    (B : Below A₀ base outer h₀) (F : Fr h₀ L s.heap m) (X : (hd.heap_39 w.params).In h₀) (T : Top hd.view_39 LZ mean mg mb h₀) (hk : cs.kind = .function)
    (N : News h₀ L s.heap [(c, instObj 99 dx), (dx, chDict w b tb t1 t2 t3 d l), (d, od), (l, listOf us.toArray j)])
    (n1 : @Ne Nat c dx) (n2 : @Ne Nat c d) (n3 : @Ne Nat c l) (n4 : @Ne Nat dx d) (n5 : @Ne Nat dx l) (n6 : @Ne Nat d l) (lo : (d == sysModules) = false)
    (hkb : KBw.bInts b = ks) (hb : ks.length ≤ 100) (hd : od.IsDictOf (PySem.intKind PySem.Challenge.rw_og0134_01.row.prog w) kvs) (hkv : HeadsOk kvs es.length) (hkl : kvs.length ≤ es.length) (hi : IntsAre us es) (hes : EarlierOk es)
    (hel : (es.length : Int) ≤ e) (he : e ≤ (ks.length : Int)) (hdp : dp + 3 < recursionLimit) (hun : un + 24 < cLine)
    (ret : ∀ h' tk (r : Nat) ml md tv1 tv2 od' kvs' us' es' j', MatchOk ks e ml md → s.heap.get? r = none →
      od'.IsDictOf (PySem.intKind PySem.Challenge.rw_og0134_01.row.prog w) kvs' → HeadsOk kvs' es'.length → kvs'.length ≤ es'.length → IntsAre us' es' → EarlierOk es' → (es'.length : Int) = e →
      Fr h₀ L h' m → News h₀ L h' [(r, tup [.int ml tv1, .int md tv2]), (c, instObj 99 dx), (dx, chDict w b tb t1 t2 t3 d l), (d, od'), (l, listOf us'.toArray j')] → KeptBut [c, dx, d, l] s.heap h' → Q (.ref r) { s with heap := h', toks := tk }) :
    wpAny (model PySem.Challenge.rw_og0134_01.row.prog w) (ktrTop dp un gd cn cs L a ccd cl outer) (call (.ref 117) [.ref c, .int e te, .int 12 tm, .int 7 tl, .int 3 tt]) Q E s := by
  revert X; k_fill; intro X
  refine wpAny_call ?_
  k_dflt (refine' code_defG ?k1 ?k2 ?k3 ?k4 ?k5 ?kA ?kF ?kK ?k6 ?k7 ?k8 ?k9 ?kB ?_ ?c2 ?c3 ?c4 ?c5; (case kA => exact rfl); (case kF => exact rfl); (case kK => assumption); (case k1 => k_asm); (case k2 => k_asm); (case k3 => k_asm); (case k4 => k_asm); (case k5 => k_asm); (case k6 => k_is); (case k7 => k_is); (case k8 => ktr_room); (case k9 => exact BindsTo.of_eq rfl); (case c5 => decide); (case kB => exact locs rfl); (case c2 => exact rfl); (case c3 => exact rfl); (case c4 => exact rfl); k_whole)
  intro g1 L1 h1 FG1 F1 N1 B1 X1 T1 kG
  (try dsimp only); (try k_lift B1); (try k_fold)
  k_steps
  refine Halt.on ?_
  rename News g1 L1 _ _ => N2
  rename Fr g1 L1 _ _ => F2
  rename _ ∧ _ ∧ _ ∧ _ => hlt
  rename_i tA D0 _ _
  k_dflt (refine' put_spec w ?kB F2 ?kX ?kT ?kk (news_sub (keep := [_]) N2) n1 n2 n3 n4 n5 n6 lo hkb hb hd hkv hkl hi hes ?a1 ?a2 ?a3 ?kdp ?kun ?_; (case kB => k_asm); (case kX => k_asm); (case kT => k_asm); (case kk => exact rfl); (case a1 => omega); (case a2 => omega); (case a3 => omega); (case kdp => ktr_room); (case kun => ktr_units))
  intro h3 tk3 od3 kvs3 us3 es3 j3 hd3 hkv3 hkl3 hi3 hes3 hel3 F3 N3' K3
  have N3 := news_join (keep := [_]) N2 K3 (fun p hp => by rw [List.mem_singleton.mp hp]; exact notin4 hlt) N3'
  clear N3' K3 F2 N2 hd hkv hkl hi
  have he3 : (es3.length : Int) = e := by omega
  k_steps
  refine Halt.on ?_
  (with_unfolding_all refine' For_invVF F3 ?k1 ?k2 ?_; (case k1 => exact rfl); (case k2 => exact rfl); k_whole)
  k_steps
  refine Halt.on ?_
  k_dflt (refine' places_spec w ?kB F3 ?kX ?kT ?kk (news_sub (keep := [_]) N3) n1 n2 n3 n4 n5 n6 lo hkb hb hd3 hkv3 hi3 hes3 ?a1 he3.symm (by decide) (by decide) ?kdp ?kun ?_; (case kB => k_asm); (case kX => k_asm); (case kT => k_asm); (case kk => exact rfl); (case a1 => omega); (case kdp => ktr_room); (case kun => ktr_units))
  intro h4 tk4 r fs gs j4 hfs hgs hgl hfr hfl F4 N4' K4
  have N4 := news_join (keep := [_]) N3 K4 (fun p hp => by rw [List.mem_singleton.mp hp]; exact notin4 hlt) N4'
  clear N4' K4 F3 N3
  k_steps
  refine Halt.on ?_
  refine kdl_iter (fun _ m₁ nx => ∃ (D : Addr) (ml md : Int) (u1 u2 : Tok) (u : Str → Option Value), nx = [(D, tup [.int ml u1, .int md u2]), (r, listOf fs.toArray j4), (c, instObj 99 dx), (dx, chDict w b tb t1 t2 t3 d l), (d, od3), (l, listOf us3.toArray j3)] ∧
      MatchOk ks e ml md ∧ D ∉ ([c, dx, d, l] : List Nat) ∧ m₁ = fun y => if y = Str.ofString "best" then some (.ref D) else over [Str.ofString "back", Str.ofString "length"] (mapOf F4) u y) rfl (List.Mem.tail _ (List.Mem.head _)) F4 N4 ⟨D0, 0, 0, _, _, mapOf F4, rfl, MatchOk.zero (by omega), notin4 hlt, ?hm⟩ ?_ ?_
  case hm =>
    funext y
    dsimp only [mapOf, over]
    by_cases h : y = Str.ofString "best"
    · simp only [if_pos h]
    · simp only [if_neg h, ite_self]
  · rintro i v m₁ nx h tk own hv hoff _ ⟨D, ml, md, u1, u2, u, rfl, hM, hDn, rfl⟩ F6 N6
    dsimp only [mapOf] at F6 ⊢
    obtain ⟨g, t, rfl, hg⟩ : ∃ g t, v = .int g t ∧ 0 ≤ g ∧ g < e ∧ e - g ≤ 12 := by
      have hi' : i < gs.length := by rw [← hfs.length]; exact (List.getElem?_eq_some_iff.mp hv).1
      obtain ⟨t, hx⟩ := hfs.get i (gs[i]'hi') (List.getElem?_eq_getElem hi')
      rw [hx] at hv
      exact ⟨_, t, (Option.some.inj hv).symm, hgs _ (List.getElem_mem hi')⟩
    clear F4 N4 hd3 hkv3 hi3
    k_steps
    · rename Fr g1 L1 _ _ => F9
      rename News g1 L1 _ _ => N9
      rename ∀ p : Addr × Obj, p ∈ _ → p.1 < _ => l9
      rename 0 ≤ _ => p0
      rename _ ∧ _ ∧ _ => hg
      rename ∀ k : Nat, _ => p3
      refine InvEndG.front F9 N9 ⟨List.Mem.tail _ (List.Mem.head _), _, _, _, _, _, mapOf F9, rfl, MatchOk.mk' p0 (by assumption) (by assumption) hg.1 hg.2.1 p3, ?o1, ?o2⟩ hoff l9
      case o1 => exact notin4 ⟨l9 (c, instObj 99 dx) (by simp), l9 (dx, chDict w b tb t1 t2 t3 d l) (by simp), l9 (d, od3) (by simp), l9 (l, listOf us3.toArray j3) (by simp)⟩
      case o2 =>
        refine over_but (by simp only [if_true]) fun z hb hz => ?_
        simp only [List.contains_cons, List.contains_nil, Bool.or_false, Bool.or_eq_false_iff, beq_eq_false_iff_ne, ne_eq] at hz
        simp [over, hb, hz]
    · rename Fr g1 L1 _ _ => F9
      rename News g1 L1 _ _ => N9
      refine InvEndG.intro (nx := [_, _, _, _, _, _]) F9 N9 ⟨List.Mem.tail _ (List.Mem.head _), D, ml, md, u1, u2, mapOf F9, rfl, hM, hDn, ?q2⟩ hoff (fun p hp => List.mem_append.mpr (.inl hp)) (fun p hp => List.mem_append.mpr (.inr hp))
      case q2 =>
        refine over_but ?_ fun z hb hz => ?_
        · rw [if_neg (by decide), if_neg (by decide), if_pos rfl]
        · simp only [List.contains_cons, List.contains_nil, Bool.or_false, Bool.or_eq_false_iff, beq_eq_false_iff_ne, ne_eq] at hz
          simp [over, hb, hz]
  · rintro m₁ nx h tk ⟨D, ml, md, u1, u2, u, rfl, hM, hDn, rfl⟩ F6 N6
    dsimp only [mapOf] at F6 ⊢
    clear F4 N4
    k_steps
    · rename News h₀ _ _ _ => N9
      exact ret _ _ _ _ _ _ _ _ _ _ _ _ hM (fresh_of kG N6 (List.Mem.head _) hDn) hd3 hkv3 hkl3 hi3 hes3 he3 (by assumption) (news_drop2 N9) (kept_of kG F6)
    · rename News h₀ _ _ _ => N9
      rename Fr g1 _ _ _ => F9
      rename News g1 _ _ _ => N8
      rename _ ∧ _ ∧ _ ∧ _ ∧ _ ∧ _ => l9
      exact ret _ _ _ _ _ _ _ _ _ _ _ _ (MatchOk.zero he) (fresh_of kG N8 (List.Mem.head _) (notin4 ⟨l9.2.2.1, l9.2.2.2.1, l9.2.2.2.2.1, l9.2.2.2.2.2⟩)) hd3 hkv3 hkl3 hi3 hes3 he3 (by assumption) (news_drop2 (news_drop2 N9)) (kept_of kG F9)
end Mine
end
section
namespace Mine
theorem walk_off_Lay : True := by
  w_top off
  trivial
abbrev Part := Int ⊕ (Int × Int)
def copyN : List Int → Nat → Nat → List Int
  | out, 0, _ => out
  | out, n + 1, d => copyN (out ++ [out.getD (out.length - d) 0]) n d
def lay1 : List Int → Part → List Int
  | out, .inl k => out ++ [k]
  | out, .inr (l, d) => copyN out l.toNat d.toNat
def PartOk (out : List Int) : Part → Prop
  | .inl k => 0 ≤ k ∧ k < 256 ∧ out.length < 1000
  | .inr (l, d) => 0 ≤ l ∧ 1 ≤ d ∧ d ≤ (out.length : Int) ∧ (out.length : Int) + l ≤ 1000
def LaidOk : List Int → List Part → Prop
  | _, [] => True
  | out, p :: ps => PartOk out p ∧ LaidOk (lay1 out p) ps
theorem LaidOk.snoc : ∀ {ps : List Part} {out : List Int} {p : Part}, LaidOk out ps → PartOk (ps.foldl lay1 out) p → LaidOk out (ps ++ [p])
  | [], _, _, _, h => ⟨h, trivial⟩
  | _ :: _, _, _, h, h2 => ⟨h.1, LaidOk.snoc h.2 h2⟩
theorem LaidOk.at : ∀ {ps : List Part} {out : List Int} {i : Nat} {p : Part}, LaidOk out ps → ps[i]? = some p → PartOk ((ps.take i).foldl lay1 out) p
  | _ :: _, _, 0, _, h, e => by
    simp only [List.getElem?_cons_zero, Option.some.injEq] at e
    subst e
    exact h.1
  | _ :: _, _, i + 1, _, h, e => by
    simp only [List.getElem?_cons_succ] at e
    have h3 := LaidOk.at h.2 e
    exact h3
theorem foldl_take_succ {ps : List Part} {out : List Int} {i : Nat} {p : Part} (e : ps[i]? = some p) : (ps.take (i + 1)).foldl lay1 out = lay1 ((ps.take i).foldl lay1 out) p := by
  rw [List.take_add_one, e, List.foldl_append]
  rfl
theorem copyN_length : ∀ (n : Nat) (out : List Int) (d : Nat), (copyN out n d).length = out.length + n
  | 0, _, _ => rfl
  | n + 1, out, d => by rw [copyN, copyN_length n]; simp; omega
theorem copyN_prefix : ∀ (n : Nat) (out : List Int) (d : Nat), (copyN out n d).take out.length = out
  | 0, out, _ => by rw [copyN, List.take_length]
  | n + 1, out, d => by
    have h := copyN_prefix n (out ++ [out.getD (out.length - d) 0]) d
    rw [copyN]
    have h2 := congrArg (List.take out.length) h
    rw [List.take_take, List.length_append, List.length_singleton, Nat.min_eq_left (by omega), List.take_append_of_le_length (Nat.le_refl _), List.take_length] at h2
    exact h2
theorem copyN_add : ∀ (n k : Nat) (out : List Int) (d : Nat), copyN out (n + k) d = copyN (copyN out n d) k d
  | 0, k, out, d => by rw [Nat.zero_add, copyN]
  | n + 1, k, out, d => by rw [show n + 1 + k = (n + k) + 1 by omega, copyN, copyN, copyN_add n k]
theorem getD_take {xs : List Int} {n j : Nat} (h : j < n) : (xs.take n).getD j 0 = xs.getD j 0 := by
  rw [List.getD_eq_getElem?_getD, List.getElem?_take, if_pos h, ← List.getD_eq_getElem?_getD]
theorem getD_left {xs ys : List Int} {j : Nat} (h : j < xs.length) : (xs ++ ys).getD j 0 = xs.getD j 0 := by
  rw [List.getD_eq_getElem?_getD, List.getElem?_append_left h, ← List.getD_eq_getElem?_getD]
theorem take_succ' (ks : List Int) (i : Nat) (h : i < ks.length) : ks.take i ++ [ks.getD i 0] = ks.take (i + 1) := by
  rw [List.take_add_one, List.getElem?_eq_getElem h, List.getD_eq_getElem?_getD, List.getElem?_eq_getElem h]
  rfl
theorem copy_take {ks : List Int} {d : Nat} : ∀ (n i : Nat), i + n ≤ ks.length → 1 ≤ d → d ≤ i → (∀ k, k < n → ks.getD (i + k - d) 0 = ks.getD (i + k) 0) → copyN (ks.take i) n d = ks.take (i + n)
  | 0, i, _, _, _, _ => rfl
  | n + 1, i, h, hd, hi, hk => by
    rw [copyN]
    have e1 : (ks.take i).length = i := by rw [List.length_take]; omega
    have e2 : (ks.take i).getD ((ks.take i).length - d) 0 = ks.getD i 0 := by
      rw [e1, List.getD_eq_getElem?_getD, List.getElem?_take, if_pos (by omega), ← List.getD_eq_getElem?_getD]
      have := hk 0 (by omega)
      simpa using this
    rw [e2, take_succ' ks i (by omega), copy_take n (i + 1) (by omega) hd (by omega) fun k h1 => by
      have := hk (k + 1) (by omega)
      rw [show i + 1 + k = i + (k + 1) by omega]
      exact this]
    rw [show i + 1 + n = i + (n + 1) by omega]
/-- each new octet is the one that lies the distance ahead of it -/
theorem copyN_back {d : Nat} (hd : 1 ≤ d) : ∀ (n : Nat) (out : List Int) (i : Nat), d ≤ out.length → out.length ≤ i → i < out.length + n → (copyN out n d).getD i 0 = (copyN out n d).getD (i - d) 0
  | 0, out, i, _, h1, h2 => by omega
  | n + 1, out, i, h0, h1, h2 => by
    rw [copyN]
    by_cases h : i = out.length
    · have pre := copyN_prefix n (out ++ [out.getD (out.length - d) 0]) d
      have get : ∀ j, j < out.length + 1 → (copyN (out ++ [out.getD (out.length - d) 0]) n d).getD j 0 = (out ++ [out.getD (out.length - d) 0]).getD j 0 := by
        intro j hj
        rw [← getD_take (n := (out ++ [out.getD (out.length - d) 0]).length) (by simpa using hj), pre]
      rw [get i (by omega), get (i - d) (by omega), h]
      have a1 : (out ++ [out.getD (out.length - d) 0]).getD out.length 0 = out.getD (out.length - d) 0 := by
        rw [List.getD_eq_getElem?_getD, List.getElem?_append_right (Nat.le_refl _), Nat.sub_self]
        rfl
      have a2 : (out ++ [out.getD (out.length - d) 0]).getD (out.length - d) 0 = out.getD (out.length - d) 0 := by
        rw [List.getD_eq_getElem?_getD (l := out ++ _), List.getElem?_append_left (by omega), ← List.getD_eq_getElem?_getD]
      rw [a1, a2]
    · exact copyN_back hd n _ i (by simp; omega) (by simp; omega) (by simp; omega)
theorem snoc_eq_take_drop {out : List Int} {d : Nat} : out.take (out.length - d) ++ out.drop (out.length - d) = out := List.take_append_drop _ _
/-- one whole distance repeats the last octets -/
theorem copyN_once {d : Nat} : ∀ (n : Nat) (out : List Int), n ≤ d → d ≤ out.length → copyN out n d = out ++ (out.drop (out.length - d)).take n
  | 0, out, _, _ => by simp [copyN]
  | n + 1, out, hn, hd => by
    rw [show n + 1 = n + 1 from rfl, copyN_add n 1, copyN_once n out (by omega) hd, copyN, copyN]
    rw [List.append_assoc]
    congr 1
    have hl : ((out.drop (out.length - d)).take n).length = n := by simp; omega
    rw [List.length_append, hl]
    have e : (out ++ (out.drop (out.length - d)).take n).getD (out.length + n - d) 0 = (out.drop (out.length - d)).getD n 0 := by
      rw [List.getD_eq_getElem?_getD, List.getElem?_append_left (by omega), List.getD_eq_getElem?_getD, List.getElem?_drop, show out.length - d + n = out.length + n - d by omega]
    rw [e, take_succ' _ _ (by simp; omega)]
theorem copyN_times {d : Nat} : ∀ (t : Nat) (out : List Int), d ≤ out.length → copyN out (t * d) d = out ++ (List.replicate t (out.drop (out.length - d))).flatten
  | 0, out, _ => by simp [copyN]
  | t + 1, out, hd => by
    rw [show (t + 1) * d = d + t * d by rw [Nat.add_mul]; omega, copyN_add, copyN_once d out (Nat.le_refl _) hd]
    have hl : (out.drop (out.length - d)).length = d := by simp; omega
    have ht : (out.drop (out.length - d)).take d = out.drop (out.length - d) := by rw [List.take_of_length_le (by omega)]
    rw [ht, copyN_times t _ (by simp; omega)]
    have e : (out ++ out.drop (out.length - d)).drop ((out ++ out.drop (out.length - d)).length - d) = out.drop (out.length - d) := by
      rw [List.length_append, hl, Nat.add_sub_cancel, List.drop_append_of_le_length (Nat.le_refl _), List.drop_length, List.nil_append]
    rw [e, List.append_assoc, List.replicate_succ, List.flatten_cons]
end Mine
end
section
open PySem PySem.W PyProof.Rows PySem.Calls PySem.Spec PyProof.V
namespace Mine
theorem walk_off_C6 : True := by
  w_top off
  trivial
theorem news_chain {h₀ h : Heap} {L : Addr} {c dx d l : Addr × Obj} (N : News h₀ L h [l, d, c, dx]) : News h₀ L h [c, dx, d, l] := fun p hp => N p (by
  simp only [List.mem_cons, List.not_mem_nil, or_false] at hp ⊢
  rcases hp with h | h | h | h <;> simp [h])
theorem news_turn {h₀ h : Heap} {L : Addr} {r p c dx d l : Addr × Obj} {tl : List (Addr × Obj)} (N : News h₀ L h (r :: p :: c :: dx :: d :: l :: tl)) : News h₀ L h (p :: c :: dx :: d :: l :: r :: tl) := fun q hq => N q (by
  simp only [List.mem_cons] at hq ⊢
  rcases hq with h | h | h | h | h | h | h <;> simp [h])
theorem news_mid {h₀ h h' : Heap} {L : Addr} {as : List Addr} {r : Addr × Obj} {pre ch post ch' : List (Addr × Obj)} (N : News h₀ L h (pre ++ (ch ++ post))) (K : KeptBut as h h') (h1 : ∀ p ∈ pre, p.1 ∉ as) (h2 : ∀ p ∈ post, p.1 ∉ as) (N' : News h₀ L h' (r :: ch')) : News h₀ L h' (r :: (pre ++ (ch' ++ post))) := by
  intro p hp
  rcases List.mem_cons.mp hp with e | hp
  · exact N' p (e ▸ List.Mem.head _)
  · rcases List.mem_append.mp hp with hp | hp
    · exact ⟨K _ _ (N p (List.mem_append.mpr (.inl hp))).1 (h1 p hp), (N p (List.mem_append.mpr (.inl hp))).2⟩
    · rcases List.mem_append.mp hp with hp | hp
      · exact N' p (List.Mem.tail _ hp)
      · exact ⟨K _ _ (N p (List.mem_append.mpr (.inr (List.mem_append.mpr (.inr hp))))).1 (h2 p hp), (N p (List.mem_append.mpr (.inr (List.mem_append.mpr (.inr hp))))).2⟩
inductive PartsAre (tl : List (Addr × Obj)) : List Value → List Part → Prop
  | nil : PartsAre tl [] []
  | int (k : Int) (t : Tok) {vs ps} : PartsAre tl vs ps → PartsAre tl (.int k t :: vs) (.inl k :: ps)
  | tup (r : Addr) (l d : Int) (t1 t2 : Tok) {vs ps} : (r, tup [.int l t1, .int d t2]) ∈ tl → PartsAre tl vs ps → PartsAre tl (.ref r :: vs) (.inr (l, d) :: ps)
theorem PartsAre.mono {tl tl' : List (Addr × Obj)} (h : ∀ p ∈ tl, p ∈ tl') {vs : List Value} {ps : List Part} (q : PartsAre tl vs ps) : PartsAre tl' vs ps := by
  induction q with
  | nil => exact .nil
  | int k t _ ih => exact .int k t ih
  | tup r l d t1 t2 hm _ ih => exact .tup r l d t1 t2 (h _ hm) ih
theorem PartsAre.append {tl : List (Addr × Obj)} {vs vs' : List Value} {ps ps' : List Part} (q : PartsAre tl vs ps) (q' : PartsAre tl vs' ps') : PartsAre tl (vs ++ vs') (ps ++ ps') := by
  induction q with
  | nil => exact q'
  | int k t _ ih => exact .int k t ih
  | tup r l d t1 t2 hm _ ih => exact .tup r l d t1 t2 hm ih
theorem PartsAre.length {tl : List (Addr × Obj)} {vs : List Value} {ps : List Part} (q : PartsAre tl vs ps) : vs.length = ps.length := by
  induction q with
  | nil => rfl
  | int k t _ ih => simp [ih]
  | tup r l d t1 t2 hm _ ih => simp [ih]
set_option maxRecDepth 100000 in
set_option maxHeartbeats 8000000 in
theorem chains_spec (w : World) {mean : ExcName → Option Value} {mg mb : Str → Option Value} {dp un : Nat} {gd : Option (List Code)} {cn : Str} {cs : Scope} {a : Addr} {ccd : Value} {cl : List (Str × Addr)} {outer : List Env} {A₀ : Around} {base h₀ : Heap} {L : Addr} {m : Str → Option Value} {s : Shared} {Q E : Value → Shared → Prop}
    {b : Array UInt8} {tb : Tok}
    (B : Below A₀ base outer h₀) (F : Fr h₀ L s.heap m) (X : (hd.heap_39 w.params).In h₀) (T : Top hd.view_39 LZ mean mg mb h₀) (hk : cs.kind = .function) (N : News h₀ L s.heap [])
    (hdp : dp + 2 < recursionLimit) (hun : un + 16 < cLine)
    (ret : ∀ h' tk (c dx d l : Nat) od j t1 t2 t3, od.IsDictOf (PySem.intKind PySem.Challenge.rw_og0134_01.row.prog w) [] → c ≠ dx → c ≠ d → c ≠ l → dx ≠ d → dx ≠ l → d ≠ l → (d == sysModules) = false →
      Fr h₀ L h' m → News h₀ L h' [(c, instObj 99 dx), (dx, chDict w b tb t1 t2 t3 d l), (d, od), (l, listOf ([] : List Value).toArray j)] → Q (.ref c) { s with heap := h', toks := tk }) :
    wpAny (model PySem.Challenge.rw_og0134_01.row.prog w) (ktrTop dp un gd cn cs L a ccd cl outer) (call (.ref 99) [.bytes b tb]) Q E s := by
  revert X; k_fill; intro X
  (k_here; (with_reducible show wpAny _ _ (call (Value.ref 99) _ _) _ _ _); k_dflt (refine' call_cls ?k1 ?k2 ?k3 ?k4 ?k5 ?k6 ?_; (case k1 => k_asm); (case k2 => k_asm); (case k3 => k_asm); (case k4 => k_is); (case k5 => k_is); (case k6 => k_is); k_whole; intro x' d' h' F' N' l1 l2; (try k_lt l1); (try k_lt2 l2); (try k_sweep)); (refine' code_defG ?k1 ?k2 ?k3 ?k4 ?k5 ?kA ?kF ?kK ?k6 ?k7 ?k8 ?k9 ?kB ?_ ?c2 ?c3 ?c4 ?c5; (case kA => exact rfl); (case kF => exact rfl); (case kK => assumption); (case k1 => k_asm); (case k2 => k_asm); (case k3 => k_asm); (case k4 => k_asm); (case k5 => k_asm); (case k6 => k_is); (case k7 => k_is); (case k8 => ktr_room); (case k9 => exact BindsTo.of_eq rfl); (case c5 => decide); (case kB => exact locs rfl); (case c2 => exact rfl); (case c3 => exact rfl); (case c4 => exact rfl); k_whole; intro g' L' h' FG' F' N' B' X' T' kG'; (try dsimp only); (try k_lift B'); (try k_fold)))
  k_steps
  rename Obj.IsDictOf (PySem.intKind _ _) _ _ => hdi
  rename News h₀ _ _ _ => N9
  exact ret _ _ _ _ _ _ _ _ _ _ _ hdi (by omega) (by omega) (by omega) (by omega) (by omega) (by omega) (by assumption) (by assumption) (news_chain N9)
end Mine
end
section
open PySem PySem.W PyProof.Rows PySem.Calls PySem.Spec PyProof.V
namespace Mine
theorem walk_off_C7 : True := by
  w_top off
  trivial
local macro_rules | `(tactic| walk_at "no key 0") => `(tactic| fail "none")
theorem news_drop1 {h₀ h : Heap} {L : Addr} {p : Addr × Obj} {tl : List (Addr × Obj)} (N : News h₀ L h (p :: tl)) : News h₀ L h tl := fun q hq => N q (List.Mem.tail _ hq)
theorem news_six {h₀ h : Heap} {L : Addr} {p c dx d l : Addr × Obj} {tl : List (Addr × Obj)} (N : News h₀ L h (p :: c :: dx :: d :: l :: tl)) : News h₀ L h (p :: tl) := fun q hq => N q (by
  simp only [List.mem_cons] at hq ⊢
  rcases hq with h | h <;> simp [h])
/-- what a chains object and its parts' list hold, at `at` -/
structure Held (w : World) (ks : List Int) (e : Int) (od : Obj) (kvs : List (Int × Value)) (us : List Value) (es : List Int) : Prop where
  d : od.IsDictOf (PySem.intKind PySem.Challenge.rw_og0134_01.row.prog w) kvs
  v : HeadsOk kvs es.length
  k : kvs.length ≤ es.length
  i : IntsAre us es
  a : EarlierOk es
  l : (es.length : Int) ≤ e
structure Told (ks : List Int) (e : Int) (tl : List (Addr × Obj)) (vs : List Value) (ps : List Part) : Prop where
  p : PartsAre tl vs ps
  ok : LaidOk [] ps
  lay : ps.foldl lay1 [] = ks.take e.toNat
  n : vs.length ≤ e.toNat
  e0 : 0 ≤ e
  e1 : e ≤ (ks.length : Int)
theorem Told.octet {ks : List Int} {e : Int} {tl : List (Addr × Obj)} {vs : List Value} {ps : List Part} {t : Tok} (h : Told ks e tl vs ps) (hb : ∀ k ∈ ks, 0 ≤ k ∧ k < 256) (hl : ks.length ≤ 100) (he : e < ks.length) : Told ks (e + 1) tl (vs ++ [.int (ks.getD e.toNat 0) t]) (ps ++ [.inl (ks.getD e.toNat 0)]) := by
  have e0 := h.e0
  have hlt : e.toNat < ks.length := by omega
  refine ⟨h.p.append (.int _ _ .nil), h.ok.snoc ?_, ?_, ?_, by omega, by omega⟩
  · have hm : ks.getD e.toNat 0 ∈ ks := by
      rw [List.getD_eq_getElem?_getD, List.getElem?_eq_getElem hlt]
      exact List.getElem_mem hlt
    exact ⟨(hb _ hm).1, (hb _ hm).2, by rw [h.lay, List.length_take]; omega⟩
  · rw [List.foldl_append, h.lay]
    show ks.take e.toNat ++ [_] = _
    rw [take_succ' _ _ hlt, show (e + 1).toNat = e.toNat + 1 by omega]
  · have := h.n
    rw [List.length_append, List.length_singleton]
    omega
theorem Told.match {ks : List Int} {e l d : Int} {tl : List (Addr × Obj)} {vs : List Value} {ps : List Part} {r : Addr} {t1 t2 : Tok} (h : Told ks e tl vs ps) (hl : ks.length ≤ 100) (hm : MatchOk ks e l d) (h0 : 0 < l) : Told ks (e + l) ((r, tup [.int l t1, .int d t2]) :: tl) (vs ++ [.ref r]) (ps ++ [.inr (l, d)]) := by
  obtain ⟨_, _, m3, m4⟩ := hm
  obtain ⟨d1, d2, dk⟩ := m4 h0
  obtain ⟨hp, hok, hlay, hn, e0, e1⟩ := h
  obtain ⟨a, rfl⟩ := Int.eq_ofNat_of_zero_le e0
  obtain ⟨b, rfl⟩ := Int.eq_ofNat_of_zero_le (Int.le_of_lt h0)
  obtain ⟨c, rfl⟩ := Int.eq_ofNat_of_zero_le (Int.le_trans (by decide) d1)
  have hlay' : ps.foldl lay1 [] = ks.take a := hlay
  have hn' : vs.length ≤ a := hn
  have h3 : a + b ≤ ks.length := Int.ofNat_le.mp m3
  have h2 : c ≤ a := Int.ofNat_le.mp d2
  have h1 : 1 ≤ c := Int.ofNat_le.mp d1
  have hb : 0 < b := Int.ofNat_lt.mp h0
  have hlen : (ks.take a).length = a := by rw [List.length_take]; exact Nat.min_eq_left (Nat.le_trans (Nat.le_add_right a b) h3)
  refine ⟨(hp.mono fun _ hp => List.Mem.tail _ hp).append (.tup _ _ _ _ _ (List.Mem.head _) .nil), hok.snoc ?_, ?_, ?_, Int.natCast_nonneg (a + b), m3⟩
  · rw [hlay']
    refine ⟨Int.natCast_nonneg b, d1, ?_, ?_⟩
    · rw [hlen]; exact d2
    · rw [hlen]; exact Int.le_trans m3 (Int.ofNat_le.mpr (Nat.le_trans hl (by decide)))
  · rw [List.foldl_append, hlay']
    show copyN (ks.take a) b c = ks.take (a + b)
    refine copy_take b a h3 h1 h2 fun k hk => ?_
    have := dk k (Int.ofNat_lt.mpr hk)
    rw [show ((a : Int) + k - c).toNat = a + k - c from Int.toNat_sub (a + k) c] at this
    exact this
  · show (vs ++ [_]).length ≤ a + b
    rw [List.length_append]
    exact Nat.add_le_add hn' hb
local macro_rules | `(tactic| walk_at "exec While Compare cons nil") => `(tactic| (refine halt ?_))
local macro_rules | `(tactic| walk_at "call ref") => `(tactic| (refine halt ?_))
set_option maxRecDepth 100000 in
set_option maxHeartbeats 8000000 in
theorem find_spec (w : World) {mean : ExcName → Option Value} {mg mb : Str → Option Value} {dp un : Nat} {gd : Option (List Code)} {cn : Str} {cs : Scope} {a : Addr} {ccd : Value} {cl : List (Str × Addr)} {outer : List Env} {A₀ : Around} {base h₀ : Heap} {L : Addr} {m : Str → Option Value} {s : Shared} {Q E : Value → Shared → Prop}
    {b : Array UInt8} {ks : List Int} {tb te tm tt : Tok}
    (B : Below A₀ base outer h₀) (F : Fr h₀ L s.heap m) (X : (hd.heap_39 w.params).In h₀) (T : Top hd.view_39 LZ mean mg mb h₀) (hk : cs.kind = .function)
    (hkb : KBw.bInts b = ks) (hb : ks.length ≤ 100) (hr : ∀ k ∈ ks, 0 ≤ k ∧ k < 256) (hdp : dp + 4 < recursionLimit) (hun : un + 32 < cLine)
    (ret : ∀ h' tk (P : Addr) vs j ps tl, PartsAre tl vs ps → LaidOk [] ps → ps.foldl lay1 [] = ks → vs.length ≤ 100 → Fr h₀ L h' m → News h₀ L h' ((P, listOf vs.toArray j) :: tl) → KeptBut [] s.heap h' → Q (.ref P) { s with heap := h', toks := tk }) :
    wpAny (model PySem.Challenge.rw_og0134_01.row.prog w) (ktrTop dp un gd cn cs L a ccd cl outer) (call (.ref 125) [.bytes b tb, .int 12 te, .int 7 tm, .int 3 tt]) Q E s := by
  revert X; k_fill; intro X
  have N : News h₀ L s.heap [] := News.nil
  refine wpAny_call ?_
  k_dflt (refine' code_defG ?k1 ?k2 ?k3 ?k4 ?k5 ?kA ?kF ?kK ?k6 ?k7 ?k8 ?k9 ?kB ?_ ?c2 ?c3 ?c4 ?c5; (case kA => exact rfl); (case kF => exact rfl); (case kK => assumption); (case k1 => k_asm); (case k2 => k_asm); (case k3 => k_asm); (case k4 => k_asm); (case k5 => k_asm); (case k6 => k_is); (case k7 => k_is); (case k8 => ktr_room); (case k9 => first | exact BindsTo.of_eq rfl | exact binds_K (by k_in) rfl (by k_is) rfl rfl rfl); (case c5 => decide); (case kB => exact locs rfl); (case c2 => exact rfl); (case c3 => exact rfl); (case c4 => exact rfl); k_whole)
  intro g1 L1 h1 FG1 F1 N1 B1 X1 T1 kG
  (try dsimp only); (try k_lift B1); (try k_fold)
  k_steps
  refine Halt.on ?_
  k_dflt (refine' chains_spec w ?kB F1 ?kX ?kT ?kk N1 ?kdp ?kun ?_; (case kB => k_asm); (case kX => k_asm); (case kT => k_asm); (case kk => exact rfl); (case kdp => ktr_room); (case kun => ktr_units))
  intro h2 tk2 c dx d l od j t1 t2 t3 hdi n1 n2 n3 n4 n5 n6 lo F2 N2
  k_steps
  refine Halt.on ?_
  rename Fr g1 L1 _ _ => F3
  rename News g1 L1 _ _ => N3
  rename _ ∧ _ ∧ _ ∧ _ => hlt
  rename_i P0 _ _ _
  obtain ⟨t0, ht0⟩ : ∃ t0, mapOf F3 (Str.ofString "at") = some (.int 0 t0) := ⟨_, if_pos rfl⟩
  refine while_gen (σ := Int × Tok) (n₀ := ks.length) (fun c1 u y => if y = Str.ofString "at" then some (.int c1.1 c1.2) else over [Str.ofString "match"] (mapOf F3) u y)
    (fun c1 n nx => ∃ (od1 : Obj) (kvs1 : List (Int × Value)) (us1 : List Value) (es1 : List Int) (j1 : Nat) (vs : List Value) (ps : List Part) (jp : Nat) (tl : List (Addr × Obj)), nx = (P0, listOf vs.toArray jp) :: (c, instObj 99 dx) :: (dx, chDict w b tb t1 t2 t3 d l) :: (d, od1) :: (l, listOf us1.toArray j1) :: tl ∧
      n = ((ks.length : Int) - c1.1).toNat ∧ Held w ks c1.1 od1 kvs1 us1 es1 ∧ Told ks c1.1 tl vs ps ∧ OwnOff tl [P0, c, dx, d, l]) (0, t0) F3 N3 ?hm
    ⟨od, [], [], [], j, [], [], 0, [], rfl, rfl, ⟨hdi, (fun _ h => (nomatch h)), Nat.le_refl _, .nil, (fun i h => absurd h (Nat.not_lt_zero _)), Int.le_refl _⟩, ⟨.nil, trivial, rfl, Nat.zero_le _, Int.le_refl _, Int.natCast_nonneg _⟩, (fun _ h => (nomatch h))⟩ ?_
  case hm => exact over_but ht0 fun z _ _ => rfl
  rintro ⟨e, te1⟩ n1 nx u1 hp1 tk1 ⟨od1, kvs1, us1, es1, j1, vs, ps, jp, tl, rfl, rfl, hH, hT, hoff⟩ F4 N4
  dsimp only [mapOf] at F4 hH hT ⊢
  have e0 := hT.e0
  have e1 := hT.e1
  have hvl : vs.length ≤ 100 := by have := hT.n; omega
  clear ht0 F3 N3
  k_steps
  · refine Halt.on ?_
    have N4' : News g1 L1 hp1 [(c, instObj 99 dx), (dx, chDict w b tb t1 t2 t3 d l), (d, od1), (l, listOf us1.toArray j1)] := fun p hp => N4 p (List.Mem.tail _ (List.mem_append.mpr (.inl hp) : p ∈ [(c, instObj 99 dx), (dx, chDict w b tb t1 t2 t3 d l), (d, od1), (l, listOf us1.toArray j1)] ++ tl))
    k_dflt (refine' match_spec w ?kB F4 ?kX ?kT ?kk N4' n1 n2 n3 n4 n5 n6 lo hkb hb hH.d hH.v hH.k hH.i hH.a hH.l e1 ?kdp ?kun ?_; (case kB => k_asm); (case kX => k_asm); (case kT => k_asm); (case kk => exact rfl); (case kdp => ktr_room); (case kun => ktr_units))
    intro h5 tk5 r ml md v1 v2 od5 kvs5 us5 es5 j5 hM hfr hd5 hv5 hk5 hi5 ha5 hl5 F5 N5' K5
    have N5 : News g1 L1 h5 ((r, tup [.int ml v1, .int md v2]) :: (P0, listOf vs.toArray jp) :: (c, instObj 99 dx) :: (dx, chDict w b tb t1 t2 t3 d l) :: (d, od5) :: (l, listOf us5.toArray j5) :: tl) :=
      news_mid (pre := [_]) (ch := [_, _, _, _]) (post := tl) N4 K5 (fun p hp => by rw [List.mem_singleton.mp hp]; exact notin4 hlt) (fun p hp hq => (hoff p hp p.1 (List.Mem.tail _ hq)) rfl) N5'
    have m0 : @Ne Nat P0 r := ne_fresh (N4 _ (List.Mem.head _)).1 hfr
    have m1 : @Ne Nat c r := ne_fresh (N4' _ (List.Mem.head _)).1 hfr
    have m2 : @Ne Nat dx r := ne_fresh (N4' _ (List.Mem.tail _ (List.Mem.head _))).1 hfr
    have m3 : @Ne Nat d r := ne_fresh (N4' _ (List.Mem.tail _ (List.Mem.tail _ (List.Mem.head _)))).1 hfr
    have m4 : @Ne Nat l r := ne_fresh (N4' _ (List.Mem.tail _ (List.Mem.tail _ (List.Mem.tail _ (List.Mem.head _))))).1 hfr
    clear N4' N5' F4 N4 K5 hfr
    k_steps
    · rename Fr g1 L1 _ _ => F9
      rename News g1 L1 _ _ => N9
      rename 0 < ml => hpos
      obtain ⟨t9, ht9⟩ : ∃ t9, mapOf F9 (Str.ofString "at") = some (.int (e + ml) t9) := ⟨_, if_pos rfl⟩
      have hT9 := hT.match (r := r) (t1 := v1) (t2 := v2) hb hM hpos
      have e9 := hT9.e1
      refine WEnd.intro (e + ml, t9) F9 (news_turn N9) ⟨od5, kvs5, us5, es5, j5, _, _, _, _, rfl, rfl, ⟨hd5, hv5, hk5, hi5, ha5, ?w1⟩, hT9, ?w2⟩ ?w3 (over_but ht9 ?w4)
      case w1 => (dsimp only; omega)
      case w2 =>
        intro p hp q hq
        rcases List.mem_cons.mp hp with rfl | hp
        · simp only [List.mem_cons, List.not_mem_nil, or_false] at hq
          dsimp only
          rcases hq with rfl | rfl | rfl | rfl | rfl
          · exact m0.symm
          · exact m1.symm
          · exact m2.symm
          · exact m3.symm
          · exact m4.symm
        · exact hoff p hp q hq
      case w3 => (dsimp only; omega)
      case w4 =>
        intro z hz1 hz2
        simp only [List.contains_cons, List.contains_nil, Bool.or_false, beq_eq_false_iff_ne, ne_eq] at hz2
        simp [mapOf, over, hz1, hz2]
    · rename Fr g1 L1 _ _ => F9
      rename News g1 L1 _ _ => N9
      simp only [List.push_toArray] at N9
      obtain ⟨t9, ht9⟩ : ∃ t9, mapOf F9 (Str.ofString "at") = some (.int (e + 1) t9) := ⟨_, if_pos rfl⟩
      refine WEnd.intro (e + 1, t9) F9 (news_drop1 N9) ⟨od5, kvs5, us5, es5, j5, _, _, _, _, rfl, rfl, ⟨hd5, hv5, hk5, hi5, ha5, ?z1⟩, hT.octet hr hb (by assumption), hoff⟩ ?z3 (over_but ht9 ?z4)
      case z1 => (dsimp only; omega)
      case z3 => (dsimp only; omega)
      case z4 =>
        intro z hz1 hz2
        simp only [List.contains_cons, List.contains_nil, Bool.or_false, beq_eq_false_iff_ne, ne_eq] at hz2
        simp [mapOf, over, hz1, hz2]
  · rename News h₀ _ _ _ => N9
    have he : e = ks.length := by omega
    have hl := hT.lay
    rw [he, Int.toNat_natCast, List.take_length] at hl
    exact ret _ _ _ _ _ _ _ hT.p hT.ok hl hvl (by assumption) (news_six N9) (kept_of kG F4)
end Mine
end
section
open PySem PySem.W PyProof.Rows PySem.Calls PySem.Spec PyProof.V
namespace Mine
theorem walk_off_C8 : True := by
  w_top off
  trivial
theorem Told.mono {ks : List Int} {e : Int} {tl tl' : List (Addr × Obj)} {vs : List Value} {ps : List Part} (h : Told ks e tl vs ps) (hm : ∀ p ∈ tl, p ∈ tl') : Told ks e tl' vs ps := ⟨h.p.mono hm, h.ok, h.lay, h.n, h.e0, h.e1⟩
theorem over_two {x1 x2 : Str} {v1 v2 : Value} {st : List Str} {M m' : Str → Option Value} (h1 : m' x1 = some v1) (h2 : m' x2 = some v2) (h3 : ∀ z, z ≠ x1 → z ≠ x2 → st.contains z = false → m' z = M z) : m' = fun y => if y = x1 then some v1 else if y = x2 then some v2 else over st M m' y := by
  funext y
  by_cases hb : y = x1
  · rw [if_pos hb, hb, h1]
  · by_cases hc : y = x2
    · rw [if_neg hb, if_pos hc, hc, h2]
    · rw [if_neg hb, if_neg hc]
      unfold over
      cases hz : st.contains y with
      | true => simp
      | false => simp [h3 y hb hc hz]
structure Off (r : Nat) (P0 c dx d l : Nat) : Prop where
  m0 : @Ne Nat P0 r
  m1 : @Ne Nat c r
  m2 : @Ne Nat dx r
  m3 : @Ne Nat d r
  m4 : @Ne Nat l r
theorem Off.off {r P0 c dx d l : Nat} {o : Obj} {tl : List (Addr × Obj)} (h : Off r P0 c dx d l) (hoff : OwnOff tl [P0, c, dx, d, l]) : OwnOff ((r, o) :: tl) [P0, c, dx, d, l] := by
  intro p hp q hq
  rcases List.mem_cons.mp hp with rfl | hp
  · simp only [List.mem_cons, List.not_mem_nil, or_false] at hq
    dsimp only
    rcases hq with rfl | rfl | rfl | rfl | rfl
    · exact h.m0.symm
    · exact h.m1.symm
    · exact h.m2.symm
    · exact h.m3.symm
    · exact h.m4.symm
  · exact hoff p hp q hq
theorem Off.of {h₀ h : Heap} {L : Addr} {r P0 c dx d l : Nat} {o0 o1 o2 o3 o4 : Obj} {tl : List (Addr × Obj)} (N : News h₀ L h ((P0, o0) :: (c, o1) :: (dx, o2) :: (d, o3) :: (l, o4) :: tl)) (hfr : h.get? r = none) : Off r P0 c dx d l :=
  ⟨ne_fresh (N _ (List.Mem.head _)).1 hfr, ne_fresh (N _ (List.Mem.tail _ (List.Mem.head _))).1 hfr, ne_fresh (N _ (List.Mem.tail _ (List.Mem.tail _ (List.Mem.head _)))).1 hfr, ne_fresh (N _ (List.Mem.tail _ (List.Mem.tail _ (List.Mem.tail _ (List.Mem.head _))))).1 hfr, ne_fresh (N _ (List.Mem.tail _ (List.Mem.tail _ (List.Mem.tail _ (List.Mem.tail _ (List.Mem.head _)))))).1 hfr⟩
theorem news_four {h₀ h : Heap} {L : Addr} {p c dx d l : Addr × Obj} {tl : List (Addr × Obj)} (N : News h₀ L h (p :: c :: dx :: d :: l :: tl)) : News h₀ L h [c, dx, d, l] := fun q hq => N q (by
  simp only [List.mem_cons, List.not_mem_nil, or_false] at hq ⊢
  rcases hq with h | h | h | h <;> simp [h])
theorem notin_off {tl : List (Addr × Obj)} {P0 c dx d l : Addr} (hoff : OwnOff tl [P0, c, dx, d, l]) : ∀ p ∈ tl, p.1 ∉ [c, dx, d, l] := fun p hp hq => (hoff p hp p.1 (List.Mem.tail _ hq)) rfl
local macro_rules | `(tactic| walk_at "exec While Compare cons nil") => `(tactic| (refine halt ?_))
local macro_rules | `(tactic| walk_at "call ref") => `(tactic| (refine halt ?_))
set_option maxRecDepth 100000 in
set_option maxHeartbeats 8000000 in
theorem lazy_spec (w : World) {mean : ExcName → Option Value} {mg mb : Str → Option Value} {dp un : Nat} {gd : Option (List Code)} {cn : Str} {cs : Scope} {a : Addr} {ccd : Value} {cl : List (Str × Addr)} {outer : List Env} {A₀ : Around} {base h₀ : Heap} {L : Addr} {m : Str → Option Value} {s : Shared} {Q E : Value → Shared → Prop}
    {b : Array UInt8} {ks : List Int} {tb te tm tt : Tok}
    (B : Below A₀ base outer h₀) (F : Fr h₀ L s.heap m) (X : (hd.heap_39 w.params).In h₀) (T : Top hd.view_39 LZ mean mg mb h₀) (hk : cs.kind = .function)
    (hkb : KBw.bInts b = ks) (hb : ks.length ≤ 100) (hr : ∀ k ∈ ks, 0 ≤ k ∧ k < 256) (hdp : dp + 4 < recursionLimit) (hun : un + 32 < cLine)
    (ret : ∀ h' tk (P : Addr) vs j ps tl, PartsAre tl vs ps → LaidOk [] ps → ps.foldl lay1 [] = ks → vs.length ≤ 100 → Fr h₀ L h' m → News h₀ L h' ((P, listOf vs.toArray j) :: tl) → KeptBut [] s.heap h' → Q (.ref P) { s with heap := h', toks := tk }) :
    wpAny (model PySem.Challenge.rw_og0134_01.row.prog w) (ktrTop dp un gd cn cs L a ccd cl outer) (call (.ref 133) [.bytes b tb, .int 12 te, .int 7 tm, .int 3 tt]) Q E s := by
  revert X; k_fill; intro X
  have N : News h₀ L s.heap [] := News.nil
  refine wpAny_call ?_
  k_dflt (refine' code_defG ?k1 ?k2 ?k3 ?k4 ?k5 ?kA ?kF ?kK ?k6 ?k7 ?k8 ?k9 ?kB ?_ ?c2 ?c3 ?c4 ?c5; (case kA => exact rfl); (case kF => exact rfl); (case kK => assumption); (case k1 => k_asm); (case k2 => k_asm); (case k3 => k_asm); (case k4 => k_asm); (case k5 => k_asm); (case k6 => k_is); (case k7 => k_is); (case k8 => ktr_room); (case k9 => first | exact BindsTo.of_eq rfl | exact binds_K (by k_in) rfl (by k_is) rfl rfl rfl); (case c5 => decide); (case kB => exact locs rfl); (case c2 => exact rfl); (case c3 => exact rfl); (case c4 => exact rfl); k_whole)
  intro g1 L1 h1 FG1 F1 N1 B1 X1 T1 kG
  (try dsimp only); (try k_lift B1); (try k_fold)
  k_steps
  refine Halt.on ?_
  k_dflt (refine' chains_spec w ?kB F1 ?kX ?kT ?kk N1 ?kdp ?kun ?_; (case kB => k_asm); (case kX => k_asm); (case kT => k_asm); (case kk => exact rfl); (case kdp => ktr_room); (case kun => ktr_units))
  intro h2 tk2 c dx d l od j t1 t2 t3 hdi n1 n2 n3 n4 n5 n6 lo F2 N2
  k_steps
  refine Halt.on ?_
  rename Fr g1 L1 _ _ => F3
  rename News g1 L1 _ _ => N3
  rename _ ∧ _ ∧ _ ∧ _ => hlt
  rename_i P0 _ _ _
  obtain ⟨t0, ht0⟩ : ∃ t0, mapOf F3 (Str.ofString "at") = some (.int 0 t0) := ⟨_, if_pos rfl⟩
  k_dflt (refine' match_spec w ?kB F3 ?kX ?kT ?kk (news_four N3) n1 n2 n3 n4 n5 n6 lo hkb hb hdi (fun _ h => (nomatch h)) (Nat.le_refl _) .nil (fun i h => absurd h (Nat.not_lt_zero _)) (Int.le_refl _) (Int.natCast_nonneg _) ?kdp ?kun ?_; (case kB => k_asm); (case kX => k_asm); (case kT => k_asm); (case kk => exact rfl); (case kdp => ktr_room); (case kun => ktr_units))
  intro h4 tk4 r0 ml0 md0 v1 v2 od4 kvs4 us4 es4 j4 hM4 hfr4 hd4 hv4 hk4 hi4 ha4 hl4 F4 N4' K4
  have N4 : News g1 L1 h4 ((r0, tup [.int ml0 v1, .int md0 v2]) :: (P0, listOf ([] : List Value).toArray 0) :: (c, instObj 99 dx) :: (dx, chDict w b tb t1 t2 t3 d l) :: (d, od4) :: (l, listOf us4.toArray j4) :: []) :=
    news_mid (pre := [_]) (ch := [_, _, _, _]) (post := []) N3 K4 (fun p hp => by rw [List.mem_singleton.mp hp]; exact notin4 hlt) (fun p hp => (nomatch hp)) N4'
  have hoff4 := Off.of N3 hfr4
  clear N4' N3 K4 hfr4 hdi
  k_steps
  refine Halt.on ?_
  rename Fr g1 L1 _ _ => F5
  rename News g1 L1 _ _ => N5
  refine while_gen (σ := (Int × Tok) × Addr) (n₀ := ks.length) (fun c1 u y => if y = Str.ofString "at" then some (.int c1.1.1 c1.1.2) else if y = Str.ofString "match" then some (.ref c1.2) else over [Str.ofString "later"] (mapOf F5) u y)
    (fun c1 n nx => ∃ (od1 : Obj) (kvs1 : List (Int × Value)) (us1 : List Value) (es1 : List Int) (j1 : Nat) (vs : List Value) (ps : List Part) (jp : Nat) (ml md : Int) (w1 w2 : Tok) (tl : List (Addr × Obj)), nx = (P0, listOf vs.toArray jp) :: (c, instObj 99 dx) :: (dx, chDict w b tb t1 t2 t3 d l) :: (d, od1) :: (l, listOf us1.toArray j1) :: (c1.2, tup [.int ml w1, .int md w2]) :: tl ∧
      n = ((ks.length : Int) - c1.1.1).toNat ∧ Held w ks c1.1.1 od1 kvs1 us1 es1 ∧ Told ks c1.1.1 tl vs ps ∧ OwnOff tl [P0, c, dx, d, l] ∧ Off c1.2 P0 c dx d l ∧ MatchOk ks c1.1.1 ml md) ((0, t0), r0) F5 (news_turn N5) ?hm
    ⟨od4, kvs4, us4, es4, j4, [], [], 0, ml0, md0, v1, v2, [], rfl, rfl, ⟨hd4, hv4, hk4, hi4, ha4, Int.le_of_eq hl4⟩, ⟨.nil, trivial, rfl, Nat.zero_le _, Int.le_refl _, Int.natCast_nonneg _⟩, (fun _ h => (nomatch h)), hoff4, hM4⟩ ?_
  case hm => exact over_two ht0 (if_pos rfl) fun z _ _ _ => rfl
  rintro ⟨⟨e, te1⟩, r⟩ n1' nx u1 hp1 tk1 ⟨od1, kvs1, us1, es1, j1, vs, ps, jp, ml, md, w1, w2, tl, rfl, rfl, hH, hT, hoff, hoffr, hM⟩ F6 N6
  dsimp only [mapOf] at F6 N6 hH hT hoffr hM ⊢
  have e0 := hT.e0
  have e1 := hT.e1
  have hvl : vs.length ≤ 100 := by have := hT.n; omega
  clear F5 N5 ht0 F3 hd4 hv4 hk4 hi4 ha4 hl4 hM4 hoff4
  obtain ⟨m0, m1, m2, m3, m4⟩ := id hoffr
  k_steps
  · refine Halt.on ?_
    rename e < _ => hlte
    k_dflt (refine' match_spec w ?kB F6 ?kX ?kT ?kk (news_four N6) n1 n2 n3 n4 n5 n6 lo hkb hb hH.d hH.v hH.k hH.i hH.a (Int.le_trans hH.l (Int.le_add_of_nonneg_right (by decide))) (by omega) ?kdp ?kun ?_; (case kB => k_asm); (case kX => k_asm); (case kT => k_asm); (case kk => exact rfl); (case kdp => ktr_room); (case kun => ktr_units))
    intro h7 tk7 q lml lmd v1 v2 od7 kvs7 us7 es7 j7 hM7 hfr7 hd7 hv7 hk7 hi7 ha7 hl7 F7 N7' K7
    have N7 : News g1 L1 h7 ((q, tup [.int lml v1, .int lmd v2]) :: (P0, listOf vs.toArray jp) :: (c, instObj 99 dx) :: (dx, chDict w b tb t1 t2 t3 d l) :: (d, od7) :: (l, listOf us7.toArray j7) :: (r, tup [.int ml w1, .int md w2]) :: tl) :=
      news_mid (pre := [_]) (ch := [_, _, _, _]) (post := _ :: tl) N6 K7 (fun p hp => by rw [List.mem_singleton.mp hp]; exact notin4 hlt) (notin_off (hoffr.off hoff)) N7'
    have hoff7 := Off.of N6 hfr7
    obtain ⟨q0, q1, q2, q3, q4⟩ := id hoff7
    clear N7' F6 N6 K7 hfr7 hH
    k_steps
    · refine Halt.on ?_
      rename Fr g1 L1 _ _ => F8
      rename News g1 L1 _ _ => N8
      rename 0 < ml => hpos
      have hT9 := hT.match (r := r) (t1 := w1) (t2 := w2) hb hM hpos
      have e9 := hT9.e1
      have N8' := news_drop1 N8
      k_dflt (refine' match_spec w ?kB F8 ?kX ?kT ?kk (news_four N8') n1 n2 n3 n4 n5 n6 lo hkb hb hd7 hv7 hk7 hi7 ha7 (by omega) e9 ?kdp ?kun ?_; (case kB => k_asm); (case kX => k_asm); (case kT => k_asm); (case kk => exact rfl); (case kdp => ktr_room); (case kun => ktr_units))
      intro h9 tk9 r3 ml3 md3 v3 v4 od9 kvs9 us9 es9 j9 hM9 hfr9 hd9 hv9 hk9 hi9 ha9 hl9 F9 N9' K9
      have N9 := news_mid (pre := [_]) (ch := [_, _, _, _]) (post := _ :: tl) N8' K9 (fun p hp => by rw [List.mem_singleton.mp hp]; exact notin4 hlt) (notin_off (hoffr.off hoff)) N9'
      have hoff9 := Off.of N8' hfr9
      simp only [List.cons_append, List.nil_append] at N9
      clear N9' F8 N8 N8' K9 hfr9
      k_steps
      rename Fr g1 L1 _ _ => F0
      rename News g1 L1 _ _ => N0
      obtain ⟨t9, ht9⟩ : ∃ t9, mapOf F0 (Str.ofString "at") = some (.int (e + ml) t9) := ⟨_, (if_neg (by decide)).trans (if_pos rfl)⟩
      refine WEnd.intro ((e + ml, t9), r3) F0 (news_turn N0) ⟨od9, kvs9, us9, es9, j9, _, _, _, ml3, md3, v3, v4, _, rfl, rfl, ⟨hd9, hv9, hk9, hi9, ha9, Int.le_of_eq hl9⟩, hT9, hoffr.off hoff, hoff9, hM9⟩ ?w3 (over_two ht9 (if_pos rfl) ?w4)
      case w3 => (dsimp only; omega)
      case w4 =>
        intro z hz1 hz2 hz3
        simp only [List.contains_cons, List.contains_nil, Bool.or_false, beq_eq_false_iff_ne, ne_eq] at hz3
        simp [mapOf, over, hz1, hz2, hz3]
    all_goals (
      rename Fr g1 L1 _ _ => F0
      rename News g1 L1 _ _ => N0
      simp only [List.push_toArray] at N0
      obtain ⟨t9, ht9⟩ : ∃ t9, mapOf F0 (Str.ofString "at") = some (.int (e + 1) t9) := ⟨_, (if_neg (by decide)).trans (if_pos rfl)⟩
      refine WEnd.intro ((e + 1, t9), q) F0 (news_turn N0) ⟨od7, kvs7, us7, es7, j7, _, _, _, lml, lmd, v1, v2, _, rfl, rfl, ⟨hd7, hv7, hk7, hi7, ha7, Int.le_of_eq hl7⟩, (hT.octet hr hb hlte).mono fun _ hp => List.Mem.tail _ hp, hoffr.off hoff, hoff7, hM7⟩ ?y3 (over_two ht9 (if_pos rfl) ?y4)
      case y3 => (dsimp only; omega)
      case y4 =>
        intro z hz1 hz2 hz3
        simp only [List.contains_cons, List.contains_nil, Bool.or_false, beq_eq_false_iff_ne, ne_eq] at hz3
        simp [mapOf, over, hz1, hz2, hz3])
  · rename News h₀ _ _ _ => N9
    have he : e = ks.length := by omega
    have hl := hT.lay
    rw [he, Int.toNat_natCast, List.take_length] at hl
    exact ret _ _ _ _ _ _ _ (hT.p.mono fun _ hp => List.Mem.tail _ hp) hT.ok hl hvl (by assumption) (news_six N9) (kept_of kG F6)
end Mine
end
section
open PySem PySem.W PyProof.Rows PySem.Calls PySem.Spec
namespace Mine
theorem walk_off_D1 : True := by
  w_top off
  trivial
open Sem (wp)
set_option maxRecDepth 100000
namespace FB
theorem getattribute : typeLookup (.type "bytearray") "__getattribute__" = pure (some (.builtin "bytearray.__getattribute__")) := by rw [typeLookup_type, builtinLookup_eq_fast]; kernel_rfl
theorem canon_getattribute : (Manifest.canonical "bytearray.__getattribute__" != "object.__getattribute__") = false := by decide +kernel
theorem getattr_none : typeLookup (.type "bytearray") "__getattr__" = pure none := by rw [typeLookup_type, builtinLookup_eq_fast]; kernel_rfl
theorem lk_bytes : typeLookup (.type "bytearray") "__bytes__" = pure none := by rw [typeLookup_type, builtinLookup_eq_fast]; kernel_rfl
theorem lk_index : typeLookup (.type "bytearray") "__index__" = pure none := by rw [typeLookup_type, builtinLookup_eq_fast]; kernel_rfl
end FB
section
variable {prog : Program} {w : World} {A : Around} {E : Value → Shared → Prop} {s : Shared}
theorem ba_method {M : Model} {S : Addr} {b : Array UInt8} {pl : Sem Bool} {Q : Value × List Value → Shared → Prop} (hS : s.heap.get? S = some (baOf b))
    (h : Q (.builtin "bytearray.append", [.ref S]) s) : wpAny M A (getMethod (.ref S) "append" pl) Q E s := by
  have hT := ba_type hS
  unfold getMethod
  refine wpAny_bind (wpAny_specialOf hT FB.getattribute ?_)
  show wpAny M A (if (Manifest.canonical "bytearray.__getattribute__" != "object.__getattribute__") = true then _ else _) Q E s
  rw [FB.canon_getattribute, if_neg Bool.false_ne_true]
  refine wpAny_bind (wpAny_specialOf hT FB.getattr_none ?_)
  refine wpAny_bind (wpAny_specialOf hT FB.slot_append.lookup ?_)
  refine wpAny_bind (wpAny_of_eq FB.type_append ?_)
  refine wpAny_bind (wpAny_load hS ?_)
  exact wpAny_bind (wpAny_rule (wpAny_pure h))
theorem ba_len {S : Addr} {b : Array UInt8} {Q : Value → Shared → Prop} (hS : s.heap.get? S = some (baOf b)) (hfit : b.size ≤ 1000)
    (h : Q (.int b.size (s.toks + 1)) { s with toks := s.toks + 1 + 1 }) : wpAny (model prog w) A (call (.builtin "len") [.ref S]) Q E s := by
  refine call_len_slot (ba_type hS) FB.slot_len (fun Q' h' => wpAny_call_entry FB.slot_len (ba_type hS) FB.entry_len ?_ (FB.args_len _)) (by omega) (by omega) h
  refine wpAny_bind (wpAny_of_eq (a := (Value.ref S, [])) rfl ?_)
  dsimp only
  refine wpAny_bind (ba_payload hS ?_)
  exact wpAny_bind (wpAny_mkInt (wpAny_pure ⟨_, rfl, h'⟩))
theorem seqIndex_in {k : Int} {n : Nat} (h0 : 0 ≤ k) (h1 : k < n) : seqIndex? k n = some k.toNat := by
  unfold seqIndex?
  dsimp only
  rw [if_neg (Int.not_lt.mpr h0), if_pos (by simp only [Bool.and_eq_true, decide_eq_true_eq]; exact ⟨h0, h1⟩)]
theorem ba_getItem {S : Addr} {b : Array UInt8} {k : Int} {t : Tok} {x : UInt8} {Q : Value → Shared → Prop} (hS : s.heap.get? S = some (baOf b)) (h0 : 0 ≤ k) (h1 : k < b.size) (hfit : b.size ≤ 1000) (hx : b[k.toNat]? = some x)
    (h : Q (.int x.toNat s.toks) { s with toks := s.toks + 1 }) : wpAny (model prog w) A (getItem (.ref S) (.int k t)) Q E s := by
  refine getItem_slot (ba_type hS) (by decide +kernel) FB.slot_getitem (wpAny_call_entry FB.slot_getitem (ba_type hS) FB.entry_getitem ?_ (FB.args_getitem _ _))
  refine wpAny_bind (wpAny_of_eq (a := (Value.ref S, [Value.int k t])) rfl ?_)
  dsimp only
  refine wpAny_bind (m := Builtin.Bytes.subscript? (.int k t)) ?_
  unfold Builtin.Bytes.subscript?
  refine wpAny_bind (wpAny_specialOf (T := "int") rfl int_index ?_)
  refine bm_if_false rfl ?_
  refine wpAny_bind (wpAny_of_eq (rfl : asIndex (.int k t) = pure k) ?_)
  refine bm_if_false (by simp only [Builtin.Bytes.fitsIndex, Bool.not_eq_false', Bool.and_eq_true, decide_eq_true_eq]; omega) ?_
  refine wpAny_pure ?_
  dsimp only
  refine wpAny_bind (ba_payload hS ?_)
  rw [seqIndex_in h0 h1]
  dsimp only [Option.bind]
  rw [hx]
  dsimp only
  exact wpAny_bind (wpAny_mkInt (wpAny_pure ⟨_, rfl, h⟩))
theorem ba_item {value slice : PySem.Expr} {S : Addr} {b : Array UInt8} {k : Int} {u : Tok} {Q : Value → Shared → Prop} (hS : s.heap.get? S = some (baOf b)) (h0 : 0 ≤ k) (h1 : k < b.size) (hfit : b.size ≤ 1000)
    (h : ∀ x, b[k.toNat]? = some x → Q (.int x.toNat s.toks) { s with toks := s.toks + 1 })
    (hs : subscripted slice false (.ref S) (.int k u) = operate [.ref S, .int k u] (getItem (.ref S) (.int k u)) := by with_unfolding_all rfl) :
    wpAny (model prog w) A (subscriptTail value slice (.ref S) (.int k u)) Q E s := by
  have hlt : k.toNat < b.size := by omega
  refine tail_any (ba_type hS) FB.slot_getitem.lookup (ba_getItem hS h0 h1 hfit (Array.getElem?_eq_getElem hlt) (h _ (Array.getElem?_eq_getElem hlt))) hs
theorem ba_new_bytes {S : Addr} {b : Array UInt8} {Q : Value → Shared → Prop} (hS : s.heap.get? S = some (baOf b)) (hz : b.size ≤ 1000)
    (hQ : ∀ t k, Q (.bytes b t) { s with toks := k }) :
    codeAny (model prog w) A (.call (.builtin "bytes.__new__") ⟨[.type "bytes", .ref S], []⟩) (wants Q E) s := by
  refine codeAny_of_tree ?_
  show wpAny _ A.in1 (do checkBuiltinCall "bytes.__new__" ⟨[.type "bytes", .ref S], []⟩; again (.builtin "bytes.__new__" ⟨[.type "bytes", .ref S], []⟩)) _ _ s
  refine wpAny_bind (wpAny_of_eq (F.bm_newCall _) (wpAny_pure ⟨plainId_quiet F.bm_plain _, codeAny_builtin F.bm_entry ?_⟩))
  rw [Around.under_plainId F.bm_plain _]
  have hT := ba_type hS
  unfold Builtin.«bytes.__new__»
  refine wpAny_bind (wpAny_of_eq (a := true) rfl ?_)
  refine bm_if_false rfl ?_
  refine wpAny_bind (wpAny_of_eq F.bm_sub ?_)
  refine bm_if_false rfl ?_
  refine wpAny_bind (wpAny_of_eq (F.bm_bind _) ?_)
  refine wpAny_bind (wpAny_of_eq (a := ()) rfl ?_)
  refine wpAny_bind (wpAny_of_eq (a := ()) rfl ?_)
  refine bm_if_false rfl ?_
  refine wpAny_bind (wpAny_specialOf hT FB.lk_bytes ?_)
  refine wpAny_bind (wpAny_bind ?_)
  show wpAny _ _ (load S >>= _) _ _ _
  refine wpAny_bind (wpAny_load hS ?_)
  refine wpAny_pure (wpAny_pure ?_)
  refine bm_if_false rfl ?_
  refine wpAny_bind (wpAny_specialOf hT FB.lk_index ?_)
  refine bm_if_true rfl ?_
  first
    | show wpAny _ _ (Builtin.Bytes.buffer? "bytes.__new__" (.ref S) true >>= _) _ _ _
    | (refine wpAny_bind ?_; show wpAny _ _ (Builtin.Bytes.buffer? "bytes.__new__" (.ref S) true >>= _) _ _ _)
  refine wpAny_bind (ba_buffer hS ?_)
  dsimp only
  refine wpAny_bind (wpAny_rule ?_)
  refine wpAny_bind (wpAny_mkBytes ?_ (by rw [sizeLine_eq]; omega))
  show wpAny _ _ (if (Value.type "bytes" == Value.type "bytes") = true then _ else _) _ _ _
  refine bm_if_true (by decide) ?_
  first
    | exact wpAny_pure (hQ _ _)
    | exact wpAny_bind (wpAny_pure (wpAny_pure (hQ _ _)))
theorem callBytes_ba {S : Addr} {b : Array UInt8} {Q : Value → Shared → Prop} (hS : s.heap.get? S = some (baOf b)) (hz : b.size ≤ 1000)
    (hQ : ∀ t k, Q (.bytes b t) { s with toks := k }) : wpAny (model prog w) A (call (.type "bytes") [.ref S]) Q E s := by
  refine callType_codes (Q₁ := fun obj s₁ => s₁.TypeIs obj "bytes" ∧ Q obj s₁) F.bm_called (F.bm_typeCall _) F.entry_object_init
    (ba_new_bytes hS hz fun t k => ⟨PySem.W.typeIs_bytes _ _ _, hQ t k⟩) fun obj s₁ h₁ => ?_
  exact ⟨h₁.1, F.args_object_init_2 obj _, object_init_meets F.bm_called.init.lookup F.bm_called.made (by decide) prog w A.in1 _ s₁ ⟨h₁.1, rfl, h₁.2⟩⟩
end
end Mine
end
section
open PySem PySem.W PyProof.Rows PySem.Calls PySem.Spec PyProof.V
set_option maxRecDepth 100000
namespace Mine
theorem walk_off_D2 : True := by
  w_top off
  trivial
section
variable {prog : Program} {w : World} {A A₀ : Around} {E : Value → Shared → Prop} {s : Shared} {h₀ base : Heap} {L : Addr} {m mg mb : Str → Option Value} {news : List (Addr × Obj)} {p : Program} {loose : List Str} {mean : ExcName → Option Value}
theorem codeR_call_def {R : Result → Shared → Prop} {a : Addr} {o : Obj} {fd : FuncData} {body : List Stmt} {args : Args} {binds : List (Str × Value)}
    (hroom : A.depth < recursionLimit) (ho : s.heap.get? a = some o) (hdata : o.data = .func fd) (hlim : s.heap.NoLimit) (hcd : s.heap.CodeRec fd.code fd.qualname)
    (hbody : fd.body = .stmts body) (hbind : BindsTo s fd args binds) (hcell : ∀ x ∈ fd.scope.names, x.2 ≠ .cell) (hloc : ∀ x ∈ binds, fd.scope.names.lookup x.1 = some .local)
    (h : ∀ g, g.Ns s.heap.objs.size (fun x => binds.reverse.lookup x) → (∀ b o, s.heap.get? b = some o → g.get? b = some o) →
      wpR (model prog w) (A.deeper (callEnv fd s.heap.objs.size a)) (execs body (callEnv fd s.heap.objs.size a)) (fun f s' => R (.ok (.ret (match f with | .ret v => v | _ => .none))) s')
        (fun e s' => wpAny (model prog w) (A.deeper (callEnv fd s.heap.objs.size a)) (leaving (callEnv fd s.heap.objs.size a) e) (fun _ s'' => R (.error e) s'') (fun e' s'' => R (.error e') s'') s')
        { s with heap := g, toks := s.toks + binds.length })
    (hco : fd.scope.isCoroutine = false := by rfl) (hgen : fd.scope.isGenerator = false := by rfl) (hk : fd.scope.kind = .function := by rfl) :
    codeR (model prog w) A (.call (.ref a) args) R s :=
  codeR_call_function hroom ho hdata hco hgen hbody hcd (hbind _ _ _ _ (wpAny_newFunctionEnv hcell hloc (fun g hns hsb => ⟨hlim.fresh _ hsb,
    codeR_func (h g hns fun b _ e => hsb.extBut b _ (Nat.ne_of_lt (Heap.lt_size e)) (Heap.get?_push_of_some _ e))⟩) hk))
theorem codeR_defG {K : Frag} {R : Result → Shared → Prop} {name qual : Str} {params : Arguments} {body : List Stmt} {scope : Scope} {dV kV doc pm cdv ct oc : Value} {an od : Option Addr} {osl : Array (Option Value)} {f : Addr} {args : Args} {binds : List (Str × Value)} {env : Env} {outer : List Env}
    (B : Below A₀ base outer h₀) (F : Fr h₀ L s.heap m) (X₀ : K.In h₀) (N : News h₀ L s.heap news) (T : Top p loose mean mg mb h₀) (hA : A.frames = some (env :: outer)) (hf : env.frame = some L) (hke : env.scope.kind = .function)
    (ho : K.lookup f = some ⟨oc, od, .func (fnOf name qual params body scope dV kV doc pm an cdv ct), osl⟩) (hcd : codeIn K cdv qual = true) (hroom : A.depth < recursionLimit)
    (hbind : BindsTo s (fnOf name qual params body scope dV kV doc pm an cdv ct) args binds) (hloc : ∀ y ∈ binds, scope.names.lookup y.1 = some .local)
    (h : ∀ g L' h₁, Fr h₀ L g m → Fr g L' h₁ (fun y => binds.reverse.lookup y) → News g L' h₁ news → Below A base (env :: outer) g → K.In g → Top p loose mean mg mb g → GSub s.heap g (news.map (·.1)) →
      wpR (model prog w) (A.deeper (envOf qual scope L' f cdv)) (execs body (envOf qual scope L' f cdv))
        (fun fl s' => LeaveK h₀ L m g R (match fl with | .ret v => v | _ => .none) s')
        (fun e s' => wpAny (model prog w) (A.deeper (envOf qual scope L' f cdv)) (leaving (envOf qual scope L' f cdv) e) (fun _ s'' => R (.error e) s'') (fun e' s'' => R (.error e') s'') s')
        { s with heap := h₁, toks := s.toks + binds.length })
    (hco : scope.isCoroutine = false) (hgen : scope.isGenerator = false) (hk : scope.kind = .function)
    (hcell : ∀ x ∈ scope.names, x.2 ≠ .cell) : codeR (model prog w) A (.call (.ref f) args) R s := by
  obtain ⟨FG, BG, st, lv⟩ := groundX (R := R) B F N hA hf hke
  refine codeR_call_def (fd := fnX name qual params body scope [] dV kV doc pm an cdv ct) (body := body) (binds := binds) hroom ((X₀.keeps F.keep) _ _ ho) rfl (T.nolimit.keeps F.keep) (codeRec_of (X₀.keeps F.keep) hcd) rfl hbind hcell hloc (fun h₁ hns hk₁ => ?_) hco hgen hk
  have F₁ : Fr (hideAll s.heap (news.map (·.1))) s.heap.objs.size h₁ (fun y => binds.reverse.lookup y) := ⟨hns, fun b o e => hk₁ b o (of_hideAll _ e), Nat.le_of_eq (hideAll_size _ _)⟩
  have N₁ : News (hideAll s.heap (news.map (·.1))) s.heap.objs.size h₁ news := fun p hp => ⟨hk₁ _ _ (N p hp).1, Nat.ne_of_lt (Heap.lt_size (N p hp).1), hideAll_none _ (List.mem_map_of_mem hp)⟩
  exact wpR_mono (h _ _ h₁ FG F₁ N₁ BG (X₀.keeps st) (T.keeps st) (fun b o e n => hideAll_get _ e n)) (fun _ _ hl => lv _ _ hl) fun _ _ y => y
theorem news_set {h h' : Heap} {S : Addr} {o o' : Obj} {rest : List (Addr × Obj)} (N : News h₀ L h ((S, o) :: rest)) (hS : h'.get? S = some o') (sb : Heap.SameBut S h h') (hr : ∀ p ∈ rest, p.1 ≠ S) : News h₀ L h' ((S, o') :: rest) := by
  intro p hp
  rcases List.mem_cons.mp hp with rfl | hp
  · exact ⟨hS, (N _ (List.Mem.head _)).2⟩
  · exact ⟨(sb.2 _ (hr p hp)).trans (N p (List.Mem.tail _ hp)).1, (N p (List.Mem.tail _ hp)).2⟩
theorem ints_push {b : Array UInt8} {ks : List Int} {k : Int} (hb : KBw.bInts b = ks) (h0 : 0 ≤ k) (h1 : k < 256) : KBw.bInts (b.push k.toNat.toUInt8) = ks ++ [k] := by
  subst hb
  unfold KBw.bInts
  rw [Array.toList_push, List.map_append]
  congr 1
  simp only [List.map_cons, List.map_nil, List.cons.injEq, and_true]
  have : k.toNat.toUInt8.toNat = k.toNat := by
    rw [Nat.toUInt8_eq, UInt8.toNat_ofNat']
    exact Nat.mod_eq_of_lt (by omega)
  omega
/-- out.append(k), out a bytearray of the ledger -/
theorem append_R {S : Addr} {b : Array UInt8} {ks : List Int} {k : Int} {t : Tok} {rest : List (Addr × Obj)} {Q : Value → Shared → Prop} (F : Fr h₀ L s.heap m) (N : News h₀ L s.heap ((S, baOf b) :: rest)) (hr : ∀ p ∈ rest, p.1 ≠ S)
    (hb : KBw.bInts b = ks) (hl : ks.length ≤ 1000) (h0 : 0 ≤ k) (h1 : k < 256)
    (h : ∀ h' b', KBw.bInts b' = ks ++ [k] → Fr h₀ L h' m → News h₀ L h' ((S, baOf b') :: rest) → Q .none { s with heap := h' }) :
    wpR (model prog w) A (call (.builtin "bytearray.append") [.ref S, .int k t]) Q E s := by
  have hs : b.size = ks.length := by rw [← KBw.ints_length, hb]
  have z := N _ (List.Mem.head _)
  exact callR_append z.1 h0 h1 (by rw [sizeLine_eq]; omega) fun h' hS sb => h h' _ (ints_push hb h0 h1) (F.change sb z.2.1 z.2.2) (news_set N hS sb hr)
theorem ba_itemK {value slice : PySem.Expr} {S : Addr} {b : Array UInt8} {ks : List Int} {k : Int} {u : Tok} {Q : Value → Shared → Prop} (hS : s.heap.get? S = some (baOf b)) (hb : KBw.bInts b = ks) (h0 : 0 ≤ k) (h1 : k < ks.length) (hfit : ks.length ≤ 1000)
    (h : ∀ t k', 0 ≤ ks.getD k.toNat 0 → ks.getD k.toNat 0 < 256 → Q (.int (ks.getD k.toNat 0) t) { s with toks := k' })
    (hs : subscripted slice false (.ref S) (.int k u) = operate [.ref S, .int k u] (getItem (.ref S) (.int k u)) := by with_unfolding_all rfl) :
    wpAny (model prog w) A (subscriptTail value slice (.ref S) (.int k u)) Q E s := by
  have hz : b.size = ks.length := by rw [← KBw.ints_length, hb]
  refine ba_item hS h0 (by omega) (by omega) (fun x hx => ?_) hs
  have hx' := KBw.ints_get hx
  rw [hb] at hx'
  have e : ks.getD k.toNat 0 = (x.toNat : Int) := by rw [List.getD_eq_getElem?_getD, hx']; rfl
  have hlt := x.toNat_lt
  have := h s.toks (s.toks + 1) (by rw [e]; omega) (by rw [e]; omega)
  rwa [e] at this
theorem copyN_snoc (ks : List Int) (i d : Nat) : copyN ks (i + 1) d = copyN ks i d ++ [(copyN ks i d).getD ((copyN ks i d).length - d) 0] := by
  rw [copyN_add i 1, copyN, copyN]
end
end Mine
end
section
open PySem PySem.W PyProof.Rows PySem.Calls PySem.Spec PyProof.V
set_option maxRecDepth 100000
namespace Mine
theorem walk_off_D5 : True := by
  w_top off
  trivial
section
variable {prog : Program} {w : World} {A : Around} {E : Value → Shared → Prop} {s : Shared} {h₀ : Heap} {env : Env}
/-- a turn's end on a calm stack -/
def TurnR (h₀ : Heap) (L : Addr) (s : Shared) (wr : List Addr) (St : Nat → Heap → Prop) (J : Nat → (Str → Option Value) → List (Addr × Obj) → Prop) (R : Result → Shared → Prop) (i : Nat) (f : Flow) (s₃ : Shared) : Prop :=
  match f with
  | .next | .cont => ∃ h' tk m' nx, s₃ = { s with heap := h', toks := tk } ∧ St i h' ∧ Fr h₀ L h' m' ∧ News h₀ L h' nx ∧ (∀ p ∈ nx, p.1 ∉ wr) ∧ J i m' nx
  | .brk => R (.ok .next) s₃
  | .ret v => R (.ok (.ret v)) s₃
theorem forR_walk {R : Result → Shared → Prop} {x : Str} {px : Pos} {body : List Stmt} {I : Addr} {fp wr : List Addr} {n : Nat} {P : Nat → Value → Prop} {St : Nat → Heap → Prop} {m : Str → Option Value} {news : List (Addr × Obj)}
    (J : Nat → (Str → Option Value) → List (Addr × Obj) → Prop) (W : Walks prog w A I fp wr n P St) (hx : env.kindOf x = some .local)
    (hp : (env.scope.kind == .class || (env.scope.kind == .module && env.locals != env.globals)) = false) (hLf : env.locals ∉ fp) (hwr : ∀ b ∈ wr, h₀.get? b = none)
    (hst : St 0 s.heap) (F : Fr h₀ env.locals s.heap m) (N : News h₀ env.locals s.heap news) (hnw : ∀ p ∈ news, p.1 ∉ wr) (h0 : J 0 m news)
    (turn : ∀ i v m₁ nx h tk, i < n → P i v → J i m₁ nx → (∀ p ∈ nx, p.1 ∉ wr) → St (i + 1) h → Fr h₀ env.locals h (fun y => if y = x then some v else m₁ y) → News h₀ env.locals h nx →
      wpR (model prog w) A (execs body env) (TurnR h₀ env.locals s wr St J R (i + 1)) (notedBy (model prog w) A env fun e s' => R (.error e) s') { s with heap := h, toks := tk })
    (done : ∀ m₁ nx h tk, J n m₁ nx → Fr h₀ env.locals h m₁ → News h₀ env.locals h nx → R (.ok .next) { s with heap := h, toks := tk }) :
    codeR (model prog w) A (.forLoop (.Name x px) (.ref I) body [] env) R s := by
  have hLw : env.locals ∉ wr := fun h => hLf (W.sub _ h)
  have old : ∀ b o, h₀.get? b = some o → b ∉ wr := fun b o e hb => by rw [hwr b hb] at e; cases e
  refine codeR_forLoop (fun k s' => ∃ i h' tk m' nx, s' = { s with heap := h', toks := tk } ∧ St i h' ∧ Fr h₀ env.locals h' m' ∧ News h₀ env.locals h' nx ∧ (∀ p ∈ nx, p.1 ∉ wr) ∧ J i m' nx ∧ i ≤ n ∧ k = n - i) ?_ n
    ⟨0, s.heap, s.toks, m, news, rfl, hst, F, N, hnw, h0, Nat.zero_le _, rfl⟩
  rintro k s' ⟨i, h', tk, m', nx, rfl, hst', F', N', hnx, hJ, hi, rfl⟩
  have kept : ∀ h₁ : Heap, (∀ b o, b ∉ wr → h'.get? b = some o → h₁.get? b = some o) → Fr h₀ env.locals h₁ m' ∧ News h₀ env.locals h₁ nx := fun h₁ hk =>
    ⟨⟨F'.ns.at' fun o e => hk _ o hLw e, fun b o e => hk b o (old b o e) (F'.keep b o e), F'.above⟩, fun p hp => ⟨hk _ _ (hnx p hp) (N' p hp).1, (N' p hp).2⟩⟩
  rcases Nat.lt_or_ge i n with hlt | hge
  · refine W.item i _ _ _ hlt hst' fun v h₁ tk₁ hP hst₁ hk₁ => ?_
    obtain ⟨F₁, N₁⟩ := kept h₁ hk₁
    refine wpAny_assign_Name (wpAny_storeName_local hx F₁.ns (fun h₂ hn₂ hs₂ => ?_) hp)
    have hst₂ : St (i + 1) h₂ := W.frame _ _ _ hst₁ fun b hb o e => (hs₂.2 b fun q => hLf (q ▸ hb)).trans e
    refine wpR_mono (turn i v m' nx h₂ _ hlt hP hJ hnx hst₂ (F₁.set hn₂ hs₂) (N₁.set hs₂)) (fun f s₃ h₃ => ?_) fun _ _ e => e
    cases f with
    | ret v => exact h₃
    | brk => exact h₃
    | next =>
      obtain ⟨h4, tk4, m4, nx4, rfl, a, b, c, d, e⟩ := h₃
      exact ⟨n - (i + 1), by omega, i + 1, h4, tk4, m4, nx4, rfl, a, b, c, d, e, hlt, rfl⟩
    | cont =>
      obtain ⟨h4, tk4, m4, nx4, rfl, a, b, c, d, e⟩ := h₃
      exact ⟨n - (i + 1), by omega, i + 1, h4, tk4, m4, nx4, rfl, a, b, c, d, e, hlt, rfl⟩
  · have hin : i = n := by omega
    subst hin
    refine W.done _ _ _ hst' fun h₁ tk₁ hk₁ => wpAny_execs_nil ?_
    obtain ⟨F₁, N₁⟩ := kept h₁ hk₁
    exact done _ _ _ _ hJ F₁ N₁
def TurnI (h₀ : Heap) (L : Addr) (s : Shared) (I : Addr) (oI : Obj) (J : (Str → Option Value) → List (Addr × Obj) → Prop) (R : Result → Shared → Prop) (f : Flow) (s₃ : Shared) : Prop :=
  match f with
  | .next | .cont => ∃ h' tk m' nx, s₃ = { s with heap := h', toks := tk } ∧ Fr h₀ L h' m' ∧ News h₀ L h' (nx ++ [(I, oI)]) ∧ (∀ p ∈ nx, p.1 ≠ I) ∧ J m' nx
  | .brk => R (.ok .next) s₃
  | .ret v => R (.ok (.ret v)) s₃
theorem forR_range {R : Result → Shared → Prop} {x : Str} {px : Pos} {body : List Stmt} {r : Addr} {a₀ b₀ : Int} {t₀ u₀ v₀ : Tok} {n : Nat} {m : Str → Option Value} {news : List (Addr × Obj)}
    (J : Nat → (Str → Option Value) → List (Addr × Obj) → Prop) (hh : A.handled = none) (hr : IsRange s.heap r a₀ b₀ 1 t₀ u₀ v₀) (hsmall : Builtin.Range.small a₀ b₀ 1 = true) (hsz : Builtin.Range.rangeSize a₀ b₀ 1 = (n : Int))
    (hx : env.kindOf x = some .local) (hp : (env.scope.kind == .class || (env.scope.kind == .module && env.locals != env.globals)) = false)
    (F : Fr h₀ env.locals s.heap m) (N : News h₀ env.locals s.heap news) (h0 : J 0 m news)
    (turn : ∀ (i : Nat) t m₁ nx h tk I oI, i < n → J i m₁ nx → (∀ p ∈ nx, p.1 ≠ I) → Fr h₀ env.locals h (fun y => if y = x then some (.int (a₀ + i) t) else m₁ y) → News h₀ env.locals h (nx ++ [(I, oI)]) →
      wpR (model prog w) A (execs body env) (TurnI h₀ env.locals s I oI (J (i + 1)) R) (notedBy (model prog w) A env fun e s' => R (.error e) s') { s with heap := h, toks := tk })
    (done : ∀ m₁ nx h tk, J n m₁ nx → Fr h₀ env.locals h m₁ → News h₀ env.locals h nx → R (.ok .next) { s with heap := h, toks := tk }) :
    wpAny (model prog w) A (pyIter (.ref r)) (fun it s₂ => codeR (model prog w) A (.forLoop (.Name x px) it body [] env) R s₂) E s := by
  refine wpAny_pyIter_range hr hsmall ?_
  have hI0 : h₀.get? s.heap.objs.size = none := next_is_new F
  have hLI : env.locals ≠ s.heap.objs.size := Nat.ne_of_lt F.ns.lt
  refine forR_walk J (Walks.range hh s.heap.objs.size a₀ 1 n) hx hp (fun h => hLI (List.mem_singleton.mp h)) (fun b hb => by rw [List.mem_singleton.mp hb]; exact hI0) ?_ (F.push _)
    (fun p hp => ⟨Heap.get?_push_of_some _ (N p hp).1, (N p hp).2⟩) (fun p hp h => absurd (Heap.lt_size (N p hp).1) ((List.mem_singleton.mp h) ▸ Nat.lt_irrefl _)) h0 ?_ ?_
  · show IsRangeIter _ _ _ _ _
    rw [hsz]
    simpa using Heap.get?_push_size _ rfl
  · rintro i v m₁ nx h tk hi ⟨t, rfl⟩ hJ hnx hst F₁ N₁
    have e1 : a₀ + (i : Int) * 1 = a₀ + (i : Int) := by omega
    rw [e1] at F₁
    obtain ⟨oI, hst', hback⟩ : ∃ o, h.get? s.heap.objs.size = some o ∧ ∀ h' : Heap, h'.get? s.heap.objs.size = some o → IsRangeIter h' s.heap.objs.size (a₀ + ((i + 1 : Nat) : Int) * 1) ((n : Int) - ((i + 1 : Nat) : Int)) 1 := ⟨_, hst, fun _ e => e⟩
    refine wpR_mono (turn i t m₁ nx h tk s.heap.objs.size oI hi hJ (fun p hp e => hnx p hp (List.mem_singleton.mpr e)) F₁ (fun p hp => ?_)) (fun f s₃ h₃ => ?_) fun _ _ e => e
    · rcases List.mem_append.mp hp with hp | hp
      · exact N₁ p hp
      · rw [List.mem_singleton.mp hp]
        exact ⟨hst', hLI.symm, hI0⟩
    · cases f with
      | ret v => exact h₃
      | brk => exact h₃
      | next =>
        obtain ⟨h4, tk4, m4, nx4, rfl, F4, N4, d4, J4⟩ := h₃
        exact ⟨h4, tk4, m4, nx4, rfl, hback _ (N4 _ (List.mem_append.mpr (.inr (List.mem_singleton.mpr rfl)))).1, F4, fun p hp => N4 p (List.mem_append.mpr (.inl hp)), fun p hp h => d4 p hp (List.mem_singleton.mp h), J4⟩
      | cont =>
        obtain ⟨h4, tk4, m4, nx4, rfl, F4, N4, d4, J4⟩ := h₃
        exact ⟨h4, tk4, m4, nx4, rfl, hback _ (N4 _ (List.mem_append.mpr (.inr (List.mem_singleton.mpr rfl)))).1, F4, fun p hp => N4 p (List.mem_append.mpr (.inl hp)), fun p hp h => d4 p hp (List.mem_singleton.mp h), J4⟩
  · exact fun m₁ nx h tk hJ F₁ N₁ => done m₁ nx h tk hJ F₁ N₁
theorem forR_list {R : Result → Shared → Prop} {x : Str} {px : Pos} {body : List Stmt} {l : Addr} {vs : List Value} {nn : Nat} {m : Str → Option Value} {news : List (Addr × Obj)}
    (J : Nat → (Str → Option Value) → List (Addr × Obj) → Prop) (hh : A.handled = none) (hl : (l, listOf vs.toArray nn) ∈ news)
    (hx : env.kindOf x = some .local) (hp : (env.scope.kind == .class || (env.scope.kind == .module && env.locals != env.globals)) = false)
    (F : Fr h₀ env.locals s.heap m) (N : News h₀ env.locals s.heap news) (h0 : J 0 m news) (hJl : ∀ i m nx, J i m nx → (l, listOf vs.toArray nn) ∈ nx)
    (turn : ∀ (i : Nat) v m₁ nx h tk I oI, vs[i]? = some v → J i m₁ nx → (∀ p ∈ nx, p.1 ≠ I) → Fr h₀ env.locals h (fun y => if y = x then some v else m₁ y) → News h₀ env.locals h (nx ++ [(I, oI)]) →
      wpR (model prog w) A (execs body env) (TurnI h₀ env.locals s I oI (J (i + 1)) R) (notedBy (model prog w) A env fun e s' => R (.error e) s') { s with heap := h, toks := tk })
    (done : ∀ m₁ nx h tk, J vs.length m₁ nx → Fr h₀ env.locals h m₁ → News h₀ env.locals h nx → R (.ok .next) { s with heap := h, toks := tk }) :
    wpAny (model prog w) A (pyIter (.ref l)) (fun it s₂ => codeR (model prog w) A (.forLoop (.Name x px) it body [] env) R s₂) E s := by
  have hol : s.heap.get? l = some (listOf vs.toArray nn) := (N _ hl).1
  have hls : s.heap.IsList l vs.toArray := ⟨_, hol, rfl, nn, rfl⟩
  have hne : l ≠ s.heap.objs.size := Nat.ne_of_lt (Heap.lt_size hol)
  refine wpAny_pyIter_list hls ?_
  have hI0 : h₀.get? s.heap.objs.size = none := next_is_new F
  have hLI : env.locals ≠ s.heap.objs.size := Nat.ne_of_lt F.ns.lt
  have hLl : env.locals ≠ l := fun e => (N _ hl).2.1 e.symm
  have W := Walks.list (prog := prog) (w := w) hh s.heap.objs.size l hne vs.toArray
  have hlen : vs.toArray.size = vs.length := by simp
  rw [hlen] at W
  refine forR_walk J W hx hp (fun h => ?_) (fun b hb => by rw [List.mem_singleton.mp hb]; exact hI0) ⟨⟨_, Heap.get?_push_size _ rfl, rfl, rfl⟩, hls.at fun o e => Heap.get?_push_of_some _ e⟩ (F.push _)
    (fun p hp => ⟨Heap.get?_push_of_some _ (N p hp).1, (N p hp).2⟩) (fun p hp h => absurd (Heap.lt_size (N p hp).1) ((List.mem_singleton.mp h) ▸ Nat.lt_irrefl _)) h0 ?_ ?_
  · rcases List.mem_cons.mp h with e | h
    · exact hLI e
    · exact hLl (List.mem_singleton.mp h)
  · rintro i v m₁ nx h tk hi hP hJ hnx hst F₁ N₁
    have hv : vs[i]? = some v := by simpa using hP
    obtain ⟨oI, hoI, hrest⟩ := id hst.1
    refine wpR_mono (turn i v m₁ nx h tk s.heap.objs.size oI hv hJ (fun p hp e => hnx p hp (List.mem_singleton.mpr e)) F₁ (fun p hp => ?_)) (fun f s₃ h₃ => ?_) fun _ _ e => e
    · rcases List.mem_append.mp hp with hp | hp
      · exact N₁ p hp
      · rw [List.mem_singleton.mp hp]
        exact ⟨hoI, hLI.symm, hI0⟩
    · cases f with
      | ret v => exact h₃
      | brk => exact h₃
      | next =>
        obtain ⟨h4, tk4, m4, nx4, rfl, F4, N4, d4, J4⟩ := h₃
        exact ⟨h4, tk4, m4, nx4, rfl, ⟨⟨oI, (N4 _ (List.mem_append.mpr (.inr (List.mem_singleton.mpr rfl)))).1, hrest⟩, ⟨_, (N4 _ (List.mem_append.mpr (.inl (hJl _ _ _ J4)))).1, rfl, nn, rfl⟩⟩, F4, fun p hp => N4 p (List.mem_append.mpr (.inl hp)), fun p hp h => d4 p hp (List.mem_singleton.mp h), J4⟩
      | cont =>
        obtain ⟨h4, tk4, m4, nx4, rfl, F4, N4, d4, J4⟩ := h₃
        exact ⟨h4, tk4, m4, nx4, rfl, ⟨⟨oI, (N4 _ (List.mem_append.mpr (.inr (List.mem_singleton.mpr rfl)))).1, hrest⟩, ⟨_, (N4 _ (List.mem_append.mpr (.inl (hJl _ _ _ J4)))).1, rfl, nn, rfl⟩⟩, F4, fun p hp => N4 p (List.mem_append.mpr (.inl hp)), fun p hp h => d4 p hp (List.mem_singleton.mp h), J4⟩
  · exact fun m₁ nx h tk hJ F₁ N₁ => done m₁ nx h tk hJ F₁ N₁
end
end Mine
end
section
open PySem PySem.W PyProof.Rows PySem.Calls PySem.Spec PyProof.V
namespace Mine
theorem walk_off_D3 : True := by
  w_top off
  trivial
local macro_rules | `(tactic| walk_at "getMethod ref") => `(tactic| (k_here; (rename News _ _ _ ((_, baOf _) :: _) => lN'); k_dflt (refine' ba_method (lN' _ (List.Mem.head _)).1 ?_)))
set_option maxRecDepth 100000 in
set_option maxHeartbeats 8000000 in
theorem lay_int (w : World) {mean : ExcName → Option Value} {mg mb : Str → Option Value} {dp un : Nat} {gd : Option (List Code)} {cn : Str} {cs : Scope} {a : Addr} {ccd : Value} {cl : List (Str × Addr)} {outer : List Env} {A₀ : Around} {base h₀ : Heap} {L : Addr} {m : Str → Option Value} {s : Shared} {Q E : Value → Shared → Prop}
    {b : Array UInt8} {ks : List Int} {S : Nat} {k : Int} {tk ta : Tok} {at0 : Int}
    (B : Below A₀ base outer h₀) (F : Fr h₀ L s.heap m) (X : (hd.heap_39 w.params).In h₀) (T : Top hd.view_39 LZ mean mg mb h₀) (hk : cs.kind = .function)
    (N : News h₀ L s.heap [(S, baOf b)]) (hkb : KBw.bInts b = ks) (hl : ks.length ≤ 1000) (h0 : 0 ≤ k) (h1 : k < 256) (hdp : dp + 2 < recursionLimit) (hun : un + 16 < cLine)
    (ret : ∀ h' tk b', KBw.bInts b' = ks ++ [k] → Fr h₀ L h' m → News h₀ L h' [(S, baOf b')] → KeptBut [S] s.heap h' → Q .none { s with heap := h', toks := tk }) :
    wpR (model PySem.Challenge.rw_og0134_01.row.prog w) (ktrTop dp un gd cn cs L a ccd cl outer) (call (.ref 61) [.ref S, .int k tk, .int at0 ta]) Q E s := by
  revert X; k_fill; intro X
  refine wpR_call ?_
  k_dflt (refine' codeR_defG ?k1 ?k2 ?k3 ?k4 ?k5 ?kA ?kF ?kK ?k6 ?k7 ?k8 ?k9 ?kB ?_ ?c2 ?c3 ?c4 ?c5; (case kA => exact rfl); (case kF => exact rfl); (case kK => assumption); (case k1 => k_asm); (case k2 => k_asm); (case k3 => k_asm); (case k4 => k_asm); (case k5 => k_asm); (case k6 => k_is); (case k7 => k_is); (case k8 => ktr_room); (case k9 => first | exact BindsTo.of_eq rfl | exact binds_K (by k_in) rfl (by k_is) rfl rfl rfl); (case c5 => decide); (case kB => exact locs rfl); (case c2 => exact rfl); (case c3 => exact rfl); (case c4 => exact rfl); k_whole)
  intro g1 L1 hp1 FG1 F1 N1 B1 X1 T1 kG
  (try dsimp only); (try k_lift B1); (try k_fold)
  refine wpR_execs_cons (wpR_If (wpR_of ?_))
  k_steps
  refine wpR_execs_cons (wpR_Expr (wpR_evalMethod ?_))
  k_steps
  · exact Keeps.builtin
  rename News g1 L1 _ _ => N2
  k_dflt (refine' append_R ?kF ?kN (List.forall_mem_nil _) hkb hl h0 h1 ?_; (case kF => exact F1); (case kN => exact N2))
  intro h3 b3 hb3 F3 N3
  dsimp only
  refine wpR_of ?_
  k_steps
  rename News h₀ _ _ _ => N9
  exact ret _ _ _ hb3 (by assumption) N9 (kept_of kG F3)
end Mine
end
section
open PySem PySem.W PyProof.Rows PySem.Calls PySem.Spec PyProof.V
namespace Mine
theorem walk_off_D4 : True := by
  w_top off
  trivial
local macro_rules | `(tactic| walk_at "getMethod ref") => `(tactic| (k_here; (rename News _ _ _ ((_, baOf _) :: _) => lN'); k_dflt (refine' ba_method (lN' _ (List.Mem.head _)).1 ?_)))
local macro_rules | `(tactic| walk_at "pyIter ref") => `(tactic| (refine halt ?_))
local macro_rules | `(tactic| walk_at "subscriptTail") => `(tactic| (k_here; (with_reducible show wpAny _ _ (subscriptTail _ _ (Value.ref _) (Value.int _ _)) _ _ _); (rename News _ _ _ ((_, baOf _) :: _) => lN'); k_dflt (with_unfolding_all refine' ba_itemK (lN' _ (List.Mem.head _)).1 (by assumption) (by omega) (by omega) (by omega) ?_ ?f; (case f => with_unfolding_all rfl); k_whole); intro t' k' lo' hi'))
local macro_rules | `(tactic| walk_at "call builtin:len") => `(tactic| (k_here; (with_reducible show wpAny _ _ (call (Value.builtin _) [Value.ref _]) _ _ _); (rename News _ _ _ ((_, baOf _) :: _) => lN'); k_dflt (refine' ba_len (lN' _ (List.Mem.head _)).1 (by omega) ?_)))
set_option maxRecDepth 100000 in
set_option maxHeartbeats 8000000 in
theorem lay_tup (w : World) {mean : ExcName → Option Value} {mg mb : Str → Option Value} {dp un : Nat} {gd : Option (List Code)} {cn : Str} {cs : Scope} {a : Addr} {ccd : Value} {cl : List (Str × Addr)} {outer : List Env} {A₀ : Around} {base h₀ : Heap} {L : Addr} {m : Str → Option Value} {s : Shared} {Q E : Value → Shared → Prop}
    {b : Array UInt8} {ks : List Int} {S r : Nat} {l d : Int} {t1 t2 ta : Tok} {at0 : Int}
    (B : Below A₀ base outer h₀) (F : Fr h₀ L s.heap m) (X : (hd.heap_39 w.params).In h₀) (T : Top hd.view_39 LZ mean mg mb h₀) (hk : cs.kind = .function)
    (N : News h₀ L s.heap [(S, baOf b), (r, tup [.int l t1, .int d t2])]) (hSr : @Ne Nat S r) (hkb : KBw.bInts b = ks) (hl0 : 0 ≤ l) (hd0 : 1 ≤ d) (hd1 : d ≤ (ks.length : Int)) (hl1 : (ks.length : Int) + l ≤ 1000) (hdp : dp + 2 < recursionLimit) (hun : un + 16 < cLine)
    (ret : ∀ h' tk b', KBw.bInts b' = copyN ks l.toNat d.toNat → Fr h₀ L h' m → News h₀ L h' [(S, baOf b'), (r, tup [.int l t1, .int d t2])] → KeptBut [S, r] s.heap h' → Q .none { s with heap := h', toks := tk }) :
    wpR (model PySem.Challenge.rw_og0134_01.row.prog w) (ktrTop dp un gd cn cs L a ccd cl outer) (call (.ref 61) [.ref S, .ref r, .int at0 ta]) Q E s := by
  revert X; k_fill; intro X
  refine wpR_call ?_
  k_dflt (refine' codeR_defG ?k1 ?k2 ?k3 ?k4 ?k5 ?kA ?kF ?kK ?k6 ?k7 ?k8 ?k9 ?kB ?_ ?c2 ?c3 ?c4 ?c5; (case kA => exact rfl); (case kF => exact rfl); (case kK => assumption); (case k1 => k_asm); (case k2 => k_asm); (case k3 => k_asm); (case k4 => k_asm); (case k5 => k_asm); (case k6 => k_is); (case k7 => k_is); (case k8 => ktr_room); (case k9 => first | exact BindsTo.of_eq rfl | exact binds_K (by k_in) rfl (by k_is) rfl rfl rfl); (case c5 => decide); (case kB => exact locs rfl); (case c2 => exact rfl); (case c3 => exact rfl); (case c4 => exact rfl); k_whole)
  intro g1 L1 hp1 FG1 F1 N1 B1 X1 T1 kG
  (try dsimp only); (try k_lift B1); (try k_fold)
  have hbs : b.size = ks.length := by rw [← KBw.ints_length, hkb]
  refine wpR_execs_split [_, _, _] ?_
  k_steps
  dsimp only
  refine wpR_execs_cons (wpR_For ?_)
  k_steps
  refine Halt.on ?_
  rename IsRange _ _ _ _ _ _ _ _ => hR
  rename Fr g1 L1 _ _ => F3
  rename News g1 L1 _ _ => N3
  have hsz : Builtin.Range.rangeSize 0 l 1 = (l.toNat : Int) := by have := rangeSize_nat 0 l; rwa [Int.sub_zero] at this
  refine forR_range (fun i m₁ nx => ∃ b' u, nx = [(S, baOf b'), (r, tup [.int l t1, .int d t2])] ∧ KBw.bInts b' = copyN ks i d.toNat ∧ m₁ = over [Str.ofString "turn"] (mapOf F3) u) rfl hR (small_one (by decide) (by decide) (by omega) (by omega)) hsz rfl rfl F3 N3
    ⟨b, mapOf F3, rfl, hkb, over_self _ _⟩ ?_ ?_
  · rintro i t m₁ nx h tk I oI hi ⟨b', u, rfl, hb', rfl⟩ hnI F4 N4
    dsimp only [mapOf] at F4 ⊢
    have hSI : @Ne Nat S I := hnI (S, baOf b') (List.Mem.head _)
    have hlen : b'.size = ks.length + i := by rw [← KBw.ints_length, hb', copyN_length]
    have hcl : (copyN ks i d.toNat).length = ks.length + i := copyN_length _ _ _
    simp only [List.cons_append, List.nil_append] at N4
    clear F3 N3
    refine wpR_execs_cons (wpR_Expr (wpR_evalMethod ?_))
    k_steps
    · exact Keeps.builtin
    rename 0 ≤ List.getD _ _ _ => lo1
    rename List.getD _ _ _ < 256 => hi1
    rename News _ _ _ ((_, baOf _) :: _) => N5
    k_dflt (refine' append_R ?kF ?kN ?kR hb' ?kL lo1 hi1 ?_; (case kF => exact F4); (case kN => exact N5); (case kL => omega))
    case kR =>
      intro p hp
      simp only [List.mem_cons, List.not_mem_nil, or_false] at hp
      rcases hp with rfl | rfl
      · exact fun e => hSr e.symm
      · exact fun e => hSI e.symm
    intro h6 b6 hb6 F6 N6
    refine wpR_execs_nil ?_
    have e6 : KBw.bInts b6 = copyN ks (i + 1) d.toNat := by
      rw [hb6, copyN_snoc, hcl]
      have : ((b'.size : Int) - d).toNat = ks.length + i - d.toNat := by omega
      rw [this]
    refine ⟨h6, _, _, [(S, baOf b6), (r, tup [.int l t1, .int d t2])], rfl, F6, N6, ?n1, b6, mapOf F6, rfl, e6, over_of ?n2⟩
    case n1 =>
      intro p hp
      simp only [List.mem_cons, List.not_mem_nil, or_false] at hp
      rcases hp with rfl | rfl
      · exact hSI
      · exact hnI _ (List.Mem.tail _ (List.Mem.head _))
    case n2 =>
      intro z hz
      simp only [List.contains_cons, List.contains_nil, Bool.or_false, beq_eq_false_iff_ne, ne_eq] at hz
      simp [over, hz]
  · rintro m₁ nx h tk ⟨b', u, rfl, hb', rfl⟩ F4 N4
    dsimp only [mapOf] at F4 ⊢
    refine wpR_of ?_
    clear F3 N3
    k_steps
    rename News h₀ _ _ _ => N9
    exact ret _ _ _ hb' (by assumption) N9 (kept_of kG F4)
end Mine
end
section
open PySem PySem.W
set_option maxRecDepth 100000
namespace Mine
theorem walk_off_X1 : True := by
  w_top off
  trivial
/-! ## an own exception class whose base has an `__init__` of its own -/
section
variable {M : Model} {A : Around} {E : Value → Shared → Prop} {h : Heap} {g : Array GenState} {d : Drawn} {t : Nat} {os : OsState}
variable {nm q : Str} {C N : Addr} {bs bm bmB : List Value} {hdct : Bool} {sn : List Str} {sub : List Value} {ab : Bool} {col : Option Bool} {dd : Option Addr} {k0 k1 k2 k3 k5 : Option Value} {B newId initId : String}
theorem exi_check (F : ExcBaseFacts B newId initId bmB) (hb : bm.contains (.type B) = true) {rest : List Value} {Q : Unit → Shared → Prop} (hC : h.get? C = some (excClassObj nm q C N bs bm hdct sn sub ab col dd k0 k1 k2 k3 k5 newId))
    (hq : Q () ⟨h, g, d, t, os⟩) : wpAny M A (checkBuiltinCall newId ⟨.ref C :: rest, []⟩) Q E ⟨h, g, d, t, os⟩ := by
  have hcont : (Value.ref C :: bm).contains (.type B) = true := by rw [List.contains_cons, hb, Bool.or_true]
  have hstar := F.noStar
  simp only [checkBuiltinCall, F.newKind, F.newSplit, F.newRow]
  repeat (first | refine wpAny_loadPart_at hC ?_ | (refine wpAny_isSubtype_exc hC ?_; rw [hcont]) | refine wpAny_staticBase_exc hC ?_ | refine wpAny_madeBy_exc hC ?_ | simp only [bne_self_eq_false, Bool.false_eq_true, if_false] | wp_step)
  exact hq
end
section
variable {prog : Program} {w : World} {A : Around} {R : Result → Shared → Prop} {h : Heap} {g : Array GenState} {d : Drawn} {t : Nat} {os : OsState}
variable {nm q : Str} {C N : Addr} {bs bm bmB : List Value} {hdct : Bool} {sn : List Str} {sub : List Value} {ab : Bool} {col : Option Bool} {dd : Option Addr} {k0 k1 k2 k3 k5 : Option Value} {B newId initId : String}
abbrev excObj (C t : Addr) : Obj := { cls := .ref C, data := .fields #[.ref t, .none, .none, .none, .bool false, .none] }
theorem exi_new (F : ExcBaseFacts B newId initId bmB) (hb : bm.contains (.type B) = true) (h1 : bm.contains (.type "AttributeError") = false) (h2 : bm.contains (.type "NameError") = false) {rest : List Value}
    (hC : h.get? C = some (excClassObj nm q C N bs bm hdct sn sub ab col dd k0 k1 k2 k3 k5 newId))
    (hq : R (.ok (.ret (.ref (h.objs.size + 1)))) ⟨(h.push { cls := .type "tuple", data := .seq rest.toArray }).push (excObj C h.objs.size), g, d, t, os⟩) (hrest : rest.length ≤ sizeLine := by size_fits) :
    codeAny (model prog w) A (.builtin newId ⟨.ref C :: rest, []⟩) R ⟨h, g, d, t, os⟩ := by
  have hends := F.ends
  have hcB : (Value.ref C :: bm).contains (.type B) = true := by rw [List.contains_cons, hb, Bool.or_true]
  have hcA : (Value.ref C :: bm).contains (.type "AttributeError") = false := by rw [List.contains_cons, h1]; rfl
  have hcN : (Value.ref C :: bm).contains (.type "NameError") = false := by rw [List.contains_cons, h2]; rfl
  refine codeAny_builtinAt F.entry ?_
  unfold Builtin.«BaseException.__new__»
  refine wpAt_bind ?_
  show wpAt _ _ _ (stack >>= _) _ _ _
  refine wpAt_bind (wpAt_stack fun p below => wpAt_of_wpAny ?_)
  wp_walk
  refine wpAt_of_wpAny ?_
  rw [F.owner]
  repeat (first | with_reducible refine wpAny_madeHere_exc F.canon hC ?_ | with_reducible refine wpAny_loadPart_at hC ?_ | (with_reducible refine wpAny_isSubtype_exc hC ?_; first | rw [hcB] | rw [hcA] | rw [hcN]) | wp_step)
  show R _ _
  rw [Heap.size_push]
  exact hq
end
section
variable {prog : Program} {w : World} {A : Around} {E : Value → Shared → Prop} {h : Heap} {g : Array GenState} {d : Drawn} {t : Nat} {os : OsState} {K : Frag}
variable {nm q : Str} {C N : Addr} {bs bm bmB : List Value} {hdct : Bool} {sn : List Str} {sub : List Value} {ab : Bool} {col : Option Bool} {dd : Option Addr} {k0 k1 k2 k3 k5 : Option Value} {B newId initId : String}
theorem exi_typeCall (F : ExcBaseFacts B newId initId bmB) (X : K.In h) (hb : bm.contains (.type B) = true) (h1 : bm.contains (.type "AttributeError") = false) (h2 : bm.contains (.type "NameError") = false) {rest : List Value} {fI : Addr} {Q : Fin → Shared → Prop}
    (hC : h.get? C = some (excClassObj nm q C N bs bm hdct sn sub ab col dd k0 k1 k2 k3 k5 newId)) (hi : findIn K (.ref C) "__init__" = some (some (.ref fI))) (hf : typeIn K (.ref fI) = some (.type "function"))
    (hq : wpAny (model prog w) A (call (.ref fI) (.ref (h.objs.size + 1) :: rest)) (fun r s' => r = .none ∧ Q (.done (.ret (.ref (h.objs.size + 1)))) s') E ⟨(h.push { cls := .type "tuple", data := .seq rest.toArray }).push (excObj C h.objs.size), g, d, t, os⟩) (hrest : rest.length ≤ sizeLine := by size_fits) :
    wpAny (model prog w) A (Builtin.«type.__call__» ⟨.ref C :: rest, []⟩) Q E ⟨h, g, d, t, os⟩ := by
  repeat (first | with_reducible refine wpAny_loadPart_at hC ?_ | with_reducible refine wpAny_madeBy_exc hC ?_ | wp_step)
  refine codeAny_call_builtin_code (Code.quiet_builtin _ F.quiet) (exi_check F hb hC ?_)
  refine exi_new F hb h1 h2 hC ?_ hrest
  show wpAny _ _ _ _ _ _
  have k : ∀ b o, h.get? b = some o → ((h.push { cls := .type "tuple", data := .seq rest.toArray }).push (excObj C h.objs.size)).get? b = some o := fun b o e => Heap.get?_push_of_some _ (Heap.get?_push_of_some _ e)
  have hC₁ := k _ _ hC
  have X₁ := X.keeps k
  have hget : ((h.push { cls := .type "tuple", data := .seq rest.toArray }).push (excObj C h.objs.size)).get? (h.objs.size + 1) = some (excObj C h.objs.size) := by heap_get
  have hcC : (Value.ref C :: bm).contains (.ref C) = true := by simp
  unfold isInstance
  repeat (first | with_reducible refine wpAny_loadPart_at hget ?_ | (with_reducible refine wpAny_isSubtype_exc hC₁ ?_; rw [hcC]) | wp_step)
  show wpAny _ _ (typeLookup (.ref C) _) _ _ _
  refine (looks_findIn X₁ hi).here ?_
  refine wpAny_holding (wpAny_bind ?_)
  refine (bind_fn X₁ (.ref (h.objs.size + 1)) hf).here (wpAny_bind (wpAny_mono hq (fun r s' hr => ?_) fun _ _ x => x))
  obtain ⟨rfl, hQ⟩ := hr
  wp_walk
  exact hQ
theorem exi_call (F : ExcBaseFacts B newId initId bmB) (X : K.In h) (hb : bm.contains (.type B) = true) (h1 : bm.contains (.type "AttributeError") = false) (h2 : bm.contains (.type "NameError") = false) {rest : List Value} {fI : Addr} {Q : Value → Shared → Prop}
    (hC : h.get? C = some (excClassObj nm q C N bs bm hdct sn sub ab col dd k0 k1 k2 k3 k5 newId)) (hi : findIn K (.ref C) "__init__" = some (some (.ref fI))) (hf : typeIn K (.ref fI) = some (.type "function"))
    (hq : wpAny (model prog w) (A.under (.builtin "type.__call__" ⟨.ref C :: rest, []⟩)) (call (.ref fI) (.ref (h.objs.size + 1) :: rest)) (fun r s' => r = .none ∧ Q (.ref (h.objs.size + 1)) s') E ⟨(h.push { cls := .type "tuple", data := .seq rest.toArray }).push (excObj C h.objs.size), g, d, t, os⟩) (hrest : rest.length ≤ sizeLine := by size_fits) :
    wpAny (model prog w) A (call (.ref C) rest) Q E ⟨h, g, d, t, os⟩ := by
  have f1 := tc_lookup
  have f2 := tc_bind (.ref C)
  have hT : (⟨h, g, d, t, os⟩ : Shared).TypeIs (.ref C) "type" := ⟨_, hC, rfl⟩
  refine wpAny_call (codeAny_of_tree ?_)
  show wpAny _ _ (callAny (.ref C) _) _ _ _
  repeat (any_goals (first | assumption | with_reducible refine wpAny_loadPart_at hC ?_ | wp_step))
  refine ⟨rfl, ?_⟩
  exact codeAny_call_builtin_at (Code.quiet_builtin _ (by decide +kernel)) entry_typeCall (wpAny_check_type_call_sub hC (exi_typeCall (hrest := hrest) F X hb h1 h2 hC hi hf hq))
end
end Mine
end
section
open PySem PySem.W PyProof.Rows
set_option maxRecDepth 100000
namespace Mine
theorem walk_off_X2 : True := by
  w_top off
  trivial
theorem putL_length (name : Str) (hsh : Int) (key v : Value) : ∀ es : List DictEntry, (putL name hsh key v es).length ≤ es.length + 1
  | [] => Nat.le_refl _
  | e :: r => by
    have := putL_length name hsh key v r
    unfold putL
    split
    · simp
    · simp only [List.length_cons]; omega
theorem exi_refuse (self : Value) : refuseLoop self "__setattr__" [.ref 52, .ref 39, .type "Exception", .type "BaseException", .type "object"] = pure () := by
  rw [refuseLoop_ref, refuseLoop_ref]
  kernel_rfl
section
variable {prog : Program} {w : World} {A : Around} {E : Value → Shared → Prop} {R : Result → Shared → Prop} {s : Shared} {K : Frag} {x C L : Nat} {h₀ : Heap} {m : Str → Option Value} {rest : List (Addr × Obj)} {ox : Obj} {od : Option Obj} {name : Str} {tk : Tok} {v : Value} {cd : ClassData}
theorem exi_osa {r : Option Value} (X : K.In s.heap) (I : InstAt s.heap x ox C od) (hc : clsIn K C = some cd) (hm : cd.mro.contains (.type "object") = true) (hne : cd.mro.isEmpty = false) (hrf : refuseLoop (.ref x) "__setattr__" cd.mro = pure ()) (ht : takerIn K C name = some r)
    (h : ∀ b, wpAny (model prog w) A.in1 (match r with | some a => Builtin.ObjectAttr.setByDescriptor a (.ref x) v | none => Builtin.ObjectAttr.storeInOwnDict (.ref x) (.ref C) (.str name tk) name v b)
      (fun fin s' => match fin with | .done f => R (.ok f) s' | .again c' => c'.quiet = true ∧ codeAny (model prog w) A c' R s') (fun e s' => R (.error e) s') s) :
    codeAny (model prog w) A (.call (.builtin "object.__setattr__") ⟨[.ref x, .str name tk, v], []⟩) R s := by
  have SF := PySem.F.store_object
  have sub : Looks (model prog w) s.heap (isInstance (.ref x) (.type "object")) true := I.type.andThen (looks_mroIn X (by unfold mroIn; rw [hc, Option.bind_some, if_neg (by rw [hne]; decide), hm]))
  refine codeAny_call_builtin SF.slot.plain SF.entry (@check_slot (model prog w) _ _ s "object.__setattr__" "object" "__setattr__" (.ref x) [.str name tk, v] [] _ SF.kind SF.split sub (SF.args (.ref x) (.str name tk) v) ?_)
  obtain ⟨attr, ha, hr⟩ := Option.bind_eq_some_iff.mp ht
  have hm : Looks (model prog w) s.heap (mroOf (.ref C)) cd.mro := (looks_clsIn X hc).andThen .now
  have L3 : Looks (model prog w) s.heap (Builtin.ObjectAttr.storeTaker? attr) r := by
    cases attr with
    | none => cases hr; exact .now
    | some a =>
      obtain ⟨b, hb, rfl⟩ := Option.map_eq_some_iff.mp hr
      refine (looks_takesIn X hb).andThen ?_
      cases b <;> exact .now
  rw [osa_eq, refuse_eq]
  refine wpAny_bind (wpAny_bind (I.type.here (wpAny_bind (hm.here ?_))))
  rw [hrf]
  refine wpAny_pure (wpAny_bind (I.type.here (wpAny_bind ((looks_findIn X ha).here (wpAny_bind (L3.here ?_))))))
  exact h _
theorem exi_setNone {Q : Unit → Shared → Prop} {vs : Array Value} (F : Fr h₀ L s.heap m) (N : News h₀ L s.heap ((x, { cls := .ref C, data := .fields vs }) :: rest)) (X : K.In s.heap) (hs : findIn K (.ref C) "__setattr__" = some (some (.builtin "object.__setattr__")))
    (hc : clsIn K C = some cd) (hm : cd.mro.contains (.type "object") = true) (hne : cd.mro.isEmpty = false) (hrf : refuseLoop (.ref x) "__setattr__" cd.mro = pure ()) (ht : takerIn K C name = some none) (hd : cd.hasDict = true) (hr : ∀ p ∈ rest, p.1 ≠ x)
    (h : ∀ h' (D : Nat) k, Fr h₀ L h' m → News h₀ L h' ((x, { cls := .ref C, dict := some D, data := .fields vs }) :: (D, dictOf [⟨PyData.keyHash w.params name, .str name k, v⟩] 1) :: rest) → x < D → (∀ p ∈ rest, p.1 < D) → Q () { s with heap := h', toks := s.toks + 2 }) :
    wpAny (model prog w) A (setAttr (.ref x) name v) Q E s := by
  obtain ⟨hh, g, dr, t, os⟩ := s
  dsimp only at F N X
  have hx := (N _ (List.Mem.head _)).1
  dsimp only at hx
  have I : InstAt hh x { cls := .ref C, data := .fields vs } C none := ⟨hx, rfl, rfl, trivial⟩
  have LC := looks_clsIn (M := model prog w) X hc
  refine set_plain (s := ⟨hh, g, dr, t, os⟩) X I hs (exi_osa (s := ⟨hh, g, dr, t + 1, os⟩) X I hc hm hne hrf ht fun b => ?_)
  refine wpAny_bind (wpAny_pure (wpAny_bind (wpAny_bind (wpAny_loadPart hx (wpAny_bind (LC.at ?_))))))
  rw [hd]
  dsimp only [Bool.not_true]
  refine bm_if_false rfl ?_
  refine bm_if_false rfl ?_
  have hxs : x < hh.objs.size := Heap.lt_size hx
  have N1 : News h₀ L (hh.push emptyDict) ([] ++ (x, { cls := .ref C, data := .fields vs }) :: ((hh.objs.size, emptyDict) :: rest)) := fun p hp => by
    have := (News.push F N emptyDict) p (by
      simp only [List.nil_append, List.mem_cons] at hp ⊢
      rcases hp with h | h | h <;> simp [h])
    exact this
  obtain ⟨U1, U2⟩ := news_upd (f := fun o => { o with dict := some hh.objs.size }) (o' := { cls := .ref C, dict := some hh.objs.size, data := .fields vs }) (F.push emptyDict) N1 (fun _ h => (nomatch h)) (fun p hp => by
    rcases List.mem_cons.mp hp with rfl | hp
    · exact Nat.ne_of_gt hxs
    · exact hr p hp) rfl rfl
  have D1 := (U2 (hh.objs.size, emptyDict) (by simp)).1
  have N2 : News h₀ L _ ([(x, { cls := .ref C, dict := some hh.objs.size, data := .fields vs })] ++ (hh.objs.size, emptyDict) :: rest) := U2
  obtain ⟨V1, V2⟩ := news_upd (f := Obj.putName name (PyData.keyHash w.params name) (.str name (t + 1)) v) (o' := dictOf [⟨PyData.keyHash w.params name, .str name (t + 1), v⟩] 1) U1 N2 (fun p hp => by rw [List.mem_singleton.mp hp]; exact Nat.ne_of_lt hxs)
    (fun p hp => Nat.ne_of_lt (Heap.lt_size (N p (List.Mem.tail _ hp)).1)) (putName_dict name (PyData.keyHash w.params name) (.str name (t + 1)) v [] 0) rfl
  have D2 := (V2 (hh.objs.size, dictOf [⟨PyData.keyHash w.params name, .str name (t + 1), v⟩] 1) (by simp)).1
  refine wpAny_bind (wpAny_alloc ?_)
  refine wpAny_bind (wpAny_update (Heap.get?_push_of_some _ hx) ?_)
  refine wpAny_bind (wpAny_pure (wpAny_pure ?_))
  dsimp only
  refine wpAny_bind (wpAny_pure (wpAny_bind ?_))
  unfold nsSet
  refine wpAny_bind (wpAny_bind (wpAny_askSetting (wpAny_pure (wpAny_bind (wpAny_mkText (wpAny_bind (wpAny_loadPart D1 ?_)))))))
  refine wpAny_updatePart D1 ?_
  refine wpAny_bind (wpAny_lookBehind D2 (pastItsLine_dict (by rw [sizeLine_eq]; exact Nat.le_of_ble_eq_true rfl)) ?_)
  exact wpAny_pure (h _ _ _ V1 V2 hxs fun p hp => Heap.lt_size (N p (List.Mem.tail _ hp)).1)
theorem exi_setSome {Q : Unit → Shared → Prop} {vs : Array Value} {D : Nat} {es : List DictEntry} {n : Nat} (F : Fr h₀ L s.heap m) (N : News h₀ L s.heap ((x, { cls := .ref C, dict := some D, data := .fields vs }) :: (D, dictOf es n) :: rest)) (X : K.In s.heap) (hs : findIn K (.ref C) "__setattr__" = some (some (.builtin "object.__setattr__")))
    (hc : clsIn K C = some cd) (hm : cd.mro.contains (.type "object") = true) (hne : cd.mro.isEmpty = false) (hrf : refuseLoop (.ref x) "__setattr__" cd.mro = pure ()) (ht : takerIn K C name = some none) (hd : cd.hasDict = true) (hr : ∀ p ∈ rest, p.1 ≠ D) (hxD : x ≠ D)
    (hz : es.length ≤ 100) (hk : (!es.toArray.any (·.key.isStr name) && es.toArray.any (·.refKey)) = false)
    (h : ∀ h' k, Fr h₀ L h' m → News h₀ L h' ((x, { cls := .ref C, dict := some D, data := .fields vs }) :: (D, dictOf (putL name (PyData.keyHash w.params name) (.str name k) v es) (putN name es n)) :: rest) → Q () { s with heap := h', toks := s.toks + 2 }) :
    wpAny (model prog w) A (setAttr (.ref x) name v) Q E s := by
  obtain ⟨hh, g, dr, t, os⟩ := s
  dsimp only at F N X
  have hx := (N _ (List.Mem.head _)).1
  have D1 := (N _ (List.Mem.tail _ (List.Mem.head _))).1
  dsimp only at hx D1
  have I : InstAt hh x { cls := .ref C, dict := some D, data := .fields vs } C (some (dictOf es n)) := ⟨hx, rfl, rfl, D1⟩
  have LC := looks_clsIn (M := model prog w) X hc
  refine set_plain (s := ⟨hh, g, dr, t, os⟩) X I hs (exi_osa (s := ⟨hh, g, dr, t + 1, os⟩) X I hc hm hne hrf ht fun b => ?_)
  refine wpAny_bind (wpAny_pure (wpAny_bind (wpAny_bind (wpAny_loadPart hx (wpAny_bind (LC.at ?_))))))
  rw [hd]
  dsimp only [Bool.not_true]
  refine bm_if_false rfl ?_
  have N2 : News h₀ L hh ([(x, { cls := .ref C, dict := some D, data := .fields vs })] ++ (D, dictOf es n) :: rest) := N
  obtain ⟨V1, V2⟩ := news_upd (f := Obj.putName name (PyData.keyHash w.params name) (.str name (t + 1)) v) (o' := dictOf (putL name (PyData.keyHash w.params name) (.str name (t + 1)) v es) (putN name es n)) F N2 (fun p hp => by rw [List.mem_singleton.mp hp]; exact hxD)
    hr (putName_dict name (PyData.keyHash w.params name) (.str name (t + 1)) v es n) rfl
  have D2 := (V2 (D, dictOf (putL name (PyData.keyHash w.params name) (.str name (t + 1)) v es) (putN name es n)) (by simp)).1
  refine wpAny_pure (a := some D) (wpAny_bind (wpAny_pure (wpAny_bind ?_)))
  unfold nsSet
  refine wpAny_bind (wpAny_bind (wpAny_askSetting (wpAny_pure (wpAny_bind (wpAny_mkText (wpAny_bind (wpAny_loadPart D1 ?_)))))))
  dsimp only
  rw [aRefKeyMayBeTheName_at, hk]
  refine wpAny_updatePart D1 ?_
  refine wpAny_bind (wpAny_lookBehind D2 (pastItsLine_dict (by
    have := putL_length name (PyData.keyHash w.params name) (.str name (t + 1)) v es
    rw [List.size_toArray, sizeLine_eq]; omega)) ?_)
  exact wpAny_pure (h _ _ V1 V2)
end
end Mine
end
section
open PySem PySem.W
set_option maxRecDepth 100000
namespace Mine
theorem walk_off_X3 : True := by
  w_top off
  trivial
theorem ga_plain : plainId "BaseException.__getattribute__" = true := by decide +kernel
theorem ga_kind : builtinKind "BaseException.__getattribute__" = some .slot := by decide +kernel
theorem ga_split : splitId "BaseException.__getattribute__" = some ("BaseException", "__getattribute__") := by decide +kernel
theorem ga_ne {C : Nat} : (onTheHeap (Value.ref C) && Value.builtin "BaseException.__getattribute__" == Value.builtin "object.__getattribute__") = false := by
  have : (Value.builtin "BaseException.__getattribute__" == Value.builtin "object.__getattribute__") = false := by decide +kernel
  rw [this]; rfl
theorem ga_bind (self : Value) : bindSpecial (.builtin "BaseException.__getattribute__") self = pure (.builtin "BaseException.__getattribute__", [self]) := by
  have hop : withoutEnding? "BaseException.__getattribute__" "#opaque" = none := by decide +kernel
  kernel_rfl
section
variable {prog : Program} {w : World} {A : Around} {E : Value → Shared → Prop} {s : Shared} {K : Frag} {x C : Nat} {ox : Obj} {od : Option Obj} {name : Str} {v : Value} {expr : Bool}
theorem exi_getAttr {Q : Value → Shared → Prop} (X : K.In s.heap) (I : InstAt s.heap x ox C od) (hga : findIn K (.ref C) "__getattribute__" = some (some (.builtin "BaseException.__getattribute__"))) (hgn : findIn K (.ref C) "__getattr__" = some none)
    (hb : mroIn K C (.type "BaseException") = some true) (hf : findObj K C od name = some (.value v)) (hh : handedIn v = true) (h : Q v { s with toks := s.toks + 1 }) : wpAny (model prog w) A (getAttr (.ref x) name expr) Q E s := by
  obtain ⟨hp, g, d, t, os⟩ := s
  dsimp only at X I h
  have L0 := I.type (M := model prog w)
  have L1 := looks_findIn (M := model prog w) X hga
  have L2 := looks_findIn (M := model prog w) X hgn
  have L3 := looks_find (M := model prog w) X I hf
  have LB : Looks (model prog w) hp (isInstance (.ref x) (.type "BaseException")) true := L0.andThen (looks_mroIn X hb)
  unfold getAttr getAttrBy
  refine wpAny_bind (wpAny_mkText (wpAny_holding (wpAny_bind (L0.at (wpAny_bind (L1.at ?_))))))
  dsimp only
  refine bm_if_false ga_ne ?_
  unfold getAttrByItsOwn hookBefore
  refine wpAny_bind (L2.at (wpAny_bind (wpAny_attempt (wpAny_holding ?_))))
  unfold callGetattribute
  refine bm_if_false (by cases expr <;> rfl) ?_
  unfold boundAndCalled
  rw [ga_bind]
  refine wpAny_bind (wpAny_pure ?_)
  dsimp only [List.cons_append, List.nil_append]
  refine wpAny_call ?_
  refine codeAny_call_builtin (b := Builtin.«object.__getattribute__») ga_plain F.entry_bexc_ga ?_
  refine @check_slot (model prog w) _ _ ⟨hp, g, d, t + 1, os⟩ "BaseException.__getattribute__" "BaseException" "__getattribute__" (.ref x) [.str name t] [] _ ga_kind ga_split LB (F.args_bexc_ga _ _) ?_
  show wpAny _ _ (Builtin.«object.__getattribute__» _) _ _ _
  unfold Builtin.«object.__getattribute__»
  refine wpAny_bind (wpAny_of_eq (a := (Value.ref x, [Value.str name t])) rfl ?_)
  dsimp only
  refine wpAny_bind (wpAny_pure ?_)
  refine wpAny_bind (L0.at (wpAny_bind (L3.at ?_)))
  dsimp only
  refine wpAny_pure ?_
  dsimp only
  show wpAny _ _ (handedOut v) _ _ _
  rw [handedOut_of hh]
  exact wpAny_pure h
end
end Mine
end
section
open PySem PySem.W
set_option maxRecDepth 100000
namespace Mine
theorem walk_off_X4 : True := by
  w_top off
  trivial
theorem ei_plain : plainId "Exception.__init__" = true := by decide +kernel
theorem ei_entry : entryFor table "Exception.__init__" = some Builtin.«BaseException.__init__» := PySem.F.excBase_Exception.initEntry
section
variable {prog : Program} {w : World} {A : Around} {E : Value → Shared → Prop} {s : Shared} {K : Frag} {x C L : Nat} {h₀ : Heap} {m : Str → Option Value} {rest : List (Addr × Obj)} {v : Value}
theorem ei_check {M : Model} {h : Heap} {g : Array GenState} {d : Drawn} {t : Nat} {os : OsState} {rest : List Value} {Q : Unit → Shared → Prop} {oe : Obj}
    {nm q : Str} {N : Addr} {bs bm : List Value} {hdct : Bool} {sn : List Str} {sub : List Value} {ab : Bool} {col : Option Bool} {dd : Option Addr} {k0 k1 k2 k3 k5 : Option Value} {newId : String}
    (hb : bm.contains (.type "Exception") = true) (hC : h.get? C = some (excClassObj nm q C N bs bm hdct sn sub ab col dd k0 k1 k2 k3 k5 newId)) (he : h.get? x = some oe) (hcls : oe.cls = .ref C) (hq : Q () ⟨h, g, d, t, os⟩) :
    wpAny M A (checkBuiltinCall "Exception.__init__" ⟨.ref x :: rest, []⟩) Q E ⟨h, g, d, t, os⟩ := by
  have FE := PySem.F.excBase_Exception
  have hcB : (Value.ref C :: bm).contains (.type "Exception") = true := by rw [List.contains_cons, hb, Bool.or_true]
  have hshort := FE.noStar
  simp only [checkBuiltinCall, FE.initKind, FE.initSplit, FE.initRow]
  repeat (first | (with_reducible refine wpAny_loadPart_at he ?_; rw [hcls]) | with_reducible refine wpAny_loadPart_at hC ?_ | (with_reducible refine wpAny_isSubtype_exc hC ?_; rw [hcB]) | wp_step)
  refine wpAny_onRaise ?_
  rw [show ∀ (a b : String) (n : Nat), Bind.check ⟨.positional, "*", "Exception", .self, [⟨"args", .varPos, false⟩]⟩ a b n (List.map (fun x => x.fst) ({ pos := Value.ref x :: rest } : Args).kw) = pure () from
    fun a b n => check_star_args _ _ _ _ _ _]
  exact wpAny_pure hq
theorem exi_initCall {Q : Value → Shared → Prop} {t : Nat} (F : PyProof.Rows.Fr h₀ L s.heap m) (N : PyProof.Rows.News h₀ L s.heap ((x, excObj C t) :: rest)) {nm q : Str} {N' : Addr} {bs bm : List Value} {hdct : Bool} {sn : List Str} {sub : List Value} {ab : Bool} {col : Option Bool} {dd : Option Addr} {k0 k1 k2 k3 k5 : Option Value} {newId : String}
    (hb : bm.contains (.type "Exception") = true) (hC : s.heap.get? C = some (excClassObj nm q C N' bs bm hdct sn sub ab col dd k0 k1 k2 k3 k5 newId)) (hr : ∀ p ∈ rest, p.1 ≠ x)
    (h : ∀ h' (T : Nat), PyProof.Rows.Fr h₀ L h' m → PyProof.Rows.News h₀ L h' ((x, excObj C T) :: (T, { cls := .type "tuple", data := .seq #[v] }) :: rest) → x < T → (∀ p ∈ rest, p.1 < T) → Q .none { s with heap := h' }) :
    wpAny (model prog w) A (call (.builtin "Exception.__init__") [.ref x, v]) Q E s := by
  obtain ⟨hp, g, d, tk, os⟩ := s
  dsimp only at F N hC h
  have hx := (N _ (List.Mem.head _)).1
  dsimp only at hx
  refine wpAny_call ?_
  refine codeAny_call_builtin (b := Builtin.«BaseException.__init__») ei_plain ei_entry ?_
  refine ei_check hb hC hx rfl ?_
  unfold Builtin.«BaseException.__init__»
  dsimp only
  refine bm_if_false rfl ?_
  have hxs : x < hp.objs.size := Heap.lt_size hx
  have N1 : PyProof.Rows.News h₀ L (hp.push { cls := .type "tuple", data := .seq #[v] }) ([] ++ (x, excObj C t) :: ((hp.objs.size, { cls := .type "tuple", data := .seq #[v] }) :: rest)) := fun p hp' => by
    have := (PyProof.Rows.News.push F N { cls := .type "tuple", data := .seq #[v] }) p (by
      simp only [List.nil_append, List.mem_cons] at hp' ⊢
      rcases hp' with h | h | h <;> simp [h])
    exact this
  obtain ⟨U1, U2⟩ := news_upd (f := Obj.mapFields (·.setIfInBounds 0 (Value.ref hp.objs.size))) (o' := excObj C hp.objs.size) (F.push _) N1 (fun _ h => (nomatch h)) (fun p hp' => by
    rcases List.mem_cons.mp hp' with rfl | hp'
    · exact Nat.ne_of_gt hxs
    · exact hr p hp') rfl rfl
  have hx1 := (N1 (x, excObj C t) (by simp)).1
  refine wpAny_bind (wpAny_newTuple ?_)
  show wpAny _ _ (_ >>= _) _ _ _
  refine wpAny_bind (wpAny_bind (wpAny_field hx1 rfl (x := .ref t) rfl ?_))
  refine wpAny_bind (wpAny_setField hx1 rfl (Nat.le_of_ble_eq_true rfl) ?_)
  dsimp only
  refine wpAny_letGo (wpAny_pure ?_)
  exact h _ _ U1 U2 hxs fun p hp' => Heap.lt_size (N p (List.Mem.tail _ hp')).1
end
end Mine
end
section
open PySem PySem.W PyProof.Rows PySem.Calls PySem.Spec PyProof.V
namespace Mine
theorem walk_off_X5 : True := by
  w_top off
  trivial
abbrev mro52 : List Value := [.ref 52, .ref 39, .type "Exception", .type "BaseException", .type "object"]
def cd52 : ClassData := { name := "FilterFault", bases := [.ref 39], mro := mro52, ns := 51, qualname := "FilterFault" }
theorem cls52 (p : Params) : clsIn (hd.heap_39 p) 52 = some cd52 := rfl
theorem obj52 (p : Params) : (hd.heap_39 p).lookup 52 = some (excClassObj "FilterFault" "FilterFault" 52 51 [.ref 39] [.ref 39, .type "Exception", .type "BaseException", .type "object"] true [] [] false none none (some (.ref 43)) none (some (.str "FilterFault" 229)) (some (.str "FilterFault" 237)) (some (.bool true)) "Exception.__new__") := rfl
theorem taker52 (p : Params) : takerIn (hd.heap_39 p) 52 "what" = some none ∧ takerIn (hd.heap_39 p) 52 "at" = some none := ⟨rfl, rfl⟩
theorem store52 (p : Params) : findIn (hd.heap_39 p) (.ref 52) "__setattr__" = some (some (.builtin "object.__setattr__")) := rfl
theorem get52 (p : Params) : findIn (hd.heap_39 p) (.ref 52) "__getattribute__" = some (some (.builtin "BaseException.__getattribute__")) := rfl
theorem getattr52 (p : Params) : findIn (hd.heap_39 p) (.ref 52) "__getattr__" = some none := rfl
theorem init52 (p : Params) : findIn (hd.heap_39 p) (.ref 52) "__init__" = some (some (.ref 29)) := rfl
theorem type29 (p : Params) : typeIn (hd.heap_39 p) (.ref 29) = some (.type "function") := rfl
theorem meta_Exception : typeOf (.type "Exception") = pure (.type "type") := rfl
abbrev exc2 (C T D : Nat) : Obj := { cls := .ref C, dict := some D, data := .fields #[.ref T, .none, .none, .none, .bool false, .none] }
abbrev faultDict (p : Params) (k4 k5 : Tok) (x : Str) (tx : Tok) (k : Int) (tq : Tok) : Obj := dictOf [⟨PyData.keyHash p (Str.ofString "what"), .str (Str.ofString "what") k4, .str x tx⟩, ⟨PyData.keyHash p (Str.ofString "at"), .str (Str.ofString "at") k5, .int k tq⟩] 2
local macro_rules | `(tactic| walk_at "setAttr ref") => `(tactic| (refine halt ?_))
local macro_rules | `(tactic| walk_at "getMethod type:Exception") => `(tactic| (k_here; refine' method_type ?F ?X ?m (by decide +kernel) ?e ?h ?_; (case F => k_asm); (case X => k_asm); (case m => exact meta_Exception); (case e => k_dflt k_is); (case h => k_handed)))
set_option maxRecDepth 100000 in
set_option maxHeartbeats 8000000 in
theorem init_spec (w : World) {mean : ExcName → Option Value} {mg mb : Str → Option Value} {A A₀ : Around} {env : Env} {outer : List Env} {base h₀ : Heap} {L : Addr} {m : Str → Option Value} {s : Shared} {Q E : Value → Shared → Prop}
    {e t : Nat} {x : Str} {k : Int} {tx tq : Tok} {vs : List Value}
    (B : Below A₀ base outer h₀) (F : Fr h₀ L s.heap m) (X : (hd.heap_39 w.params).In h₀) (T : Top hd.view_39 LZ mean mg mb h₀) (hA : A.frames = some (env :: outer)) (hf : env.frame = some L) (hke : env.scope.kind = .function)
    (N : News h₀ L s.heap [(e, excObj 52 t), (t, tup vs)]) (het : @Ne Nat e t) (hdp : A.depth + 2 < recursionLimit)
    (ret : ∀ h' tk (T D : Nat) k4 k5, Fr h₀ L h' m → News h₀ L h' [(e, exc2 52 T D), (D, faultDict w.params k4 k5 x tx k tq), (T, tup [.str x tx]), (t, tup vs)] → e < T → e < D → KeptBut [e, t] s.heap h' → Q .none { s with heap := h', toks := tk }) :
    wpAny (model PySem.Challenge.rw_og0134_01.row.prog w) A (call (.ref 29) [.ref e, .str x tx, .int k tq]) Q E s := by
  revert X; k_fill; intro X
  refine wpAny_call ?_
  (refine' code_defG ?k1 ?k2 ?k3 ?k4 ?k5 ?kA ?kF ?kK ?k6 ?k7 ?k8 ?k9 ?kB ?_ ?c2 ?c3 ?c4 ?c5; (case kA => exact hA); (case kF => exact hf); (case kK => assumption); (case k1 => k_asm); (case k2 => k_asm); (case k3 => k_asm); (case k4 => k_asm); (case k5 => k_asm); (case k6 => k_is); (case k7 => k_is); (case k8 => omega); (case k9 => first | exact BindsTo.of_eq rfl | exact binds_K (by k_in) rfl (by k_is) rfl rfl rfl); (case c5 => decide); (case kB => exact locs rfl); (case c2 => exact rfl); (case c3 => exact rfl); (case c4 => exact rfl); k_whole)
  intro g1 L1 hp1 FG1 F1 N1 B1 X1 T1 kG
  (try dsimp only); (try k_lift B1); (try k_fold)
  k_steps
  rename News g1 L1 _ _ => N2
  have hrt : ∀ p ∈ [(t, tup vs)], p.1 ≠ e := fun p hp => by rw [List.mem_singleton.mp hp]; exact het.symm
  k_dflt (refine' exi_initCall ?kF ?kN ?hb ?hC hrt ?_; (case kF => exact F1); (case kN => exact N2); (case hC => exact (X1.keeps F1.keep) _ _ (obj52 _)); (case hb => decide))
  intro h3 T3 F3 N3 l3 l3'
  k_steps
  refine Halt.on ?_
  k_dflt (refine' exi_setNone ?kF ?kN ?kX (store52 _) (cls52 _) rfl rfl (exi_refuse _) (taker52 _).1 rfl ?hr ?_; (case kF => exact F3); (case kN => exact N3); (case kX => exact X1.keeps F3.keep))
  case hr =>
    intro p hp
    simp only [List.mem_cons, List.not_mem_nil, or_false] at hp
    rcases hp with rfl | rfl
    · exact Nat.ne_of_gt l3
    · exact het.symm
  intro h4 D4 k4 F4 N4 l4 l4'
  k_steps
  refine Halt.on ?_
  have heD : @Ne Nat e D4 := Nat.ne_of_lt l4
  k_dflt (refine' exi_setSome ?kF ?kN ?kX (store52 _) (cls52 _) rfl rfl (exi_refuse _) (taker52 _).2 rfl ?hr heD ?hz ?hk ?_; (case kF => exact F4); (case kN => exact N4); (case kX => exact X1.keeps F4.keep))
  case hr => exact fun p hp => Nat.ne_of_lt (l4' p hp)
  case hk => (rw [← Array.any_toList, ← Array.any_toList]; rfl)
  case hz => exact Nat.le_of_ble_eq_true rfl
  intro h5 k5 F5 N5
  have N5' : News g1 L1 h5 [(e, exc2 52 T3 D4), (D4, faultDict w.params k4 k5 x tx k tq), (T3, tup [.str x tx]), (t, tup vs)] := N5
  k_steps
  rename News h₀ _ _ _ => N9
  exact ret _ _ _ _ _ _ (by assumption) N9 l3 l4 (kept_of kG F5)
end Mine
end
section
open PySem PySem.W
set_option maxRecDepth 100000
namespace Mine
theorem walk_off_X6 : True := by
  w_top off
  trivial
/-- all but e as it was, frames up to their slots -/
def Slotted (fs : List Addr) (e : Addr) (h h' : Heap) : Prop := ∀ b o, b ≠ e → h.get? b = some o → ∃ sl, h'.get? b = some { o with slots := sl } ∧ (b ∉ fs → h'.get? b = some o)
section
variable {M : Model} {A : Around} {E : Value → Shared → Prop} {s : Shared}
theorem exl_entry {base : Heap} {env : Env} {outer : List Env} {L e : Addr} {oe : Obj} {vs : Array Value} {head : Value} {hadNext : Bool} {Q : Unit → Shared → Prop}
    (hfr : A.frames = some (env :: outer)) (hl : s.heap.FunFrames base (env :: outer)) (hf : env.frame = some L) (he : s.heap.get? e = some oe) (hd : oe.data = .fields vs) (hsz : 1 < vs.size)
    (h : ∀ h' T oT ts, h'.get? e = some (oe.mapFields (·.setIfInBounds 1 (.ref T))) → h'.get? T = some oT → oT.data = .fields ts → ts[3]? = some (rawInt L) → T ≠ e → s.heap.get? T = none → Slotted ((env :: outer).filterMap (·.frame)) e s.heap h' → Q () { s with heap := h' }) :
    wpAny M A (do let a ← frameOf env; let pl ← entryPlaceOf L hadNext; let b ← EntryCells.newEntry head a .none (rawInt L) .none pl; setField (.ref e) 1 b) Q E s := by
  have hene : e ∉ (env :: outer).filterMap (·.frame) := fun hm => by
    obtain ⟨_, o, ho, hnf⟩ := hl.mem hm
    rw [he] at ho; injection ho with ho; subst ho; exact hnf vs hd
  refine wpAny_bind (wpAny_frameOf_fun hfr hl hf fun h₁ hs₁ => ?_)
  refine wpAny_bind (wpAny_entryPlaceOf fun pl hpl => ?_)
  unfold EntryCells.newEntry newFields
  refine wpAny_bind (wpAny_newObj_type ?_ (hpl.sizeOk5 _ _ _ _ _))
  have he₁ : h₁.get? e = some oe := (hs₁.2.1 e hene).trans he
  generalize hTo : ({ cls := Value.type "traceback", dict := none, data := Data.fields ([head, .ref L, .none, rawInt L, .none] ++ (if pl.isEmpty then List.replicate 6 Value.none else pl)).toArray } : Obj) = oT
  have hoT : oT.data = .fields ([head, .ref L, .none, rawInt L, .none] ++ (if pl.isEmpty then List.replicate 6 Value.none else pl)).toArray := by rw [← hTo]
  have hfree : oT.isFreed = false := Obj.isFreed_of_fields hoT
  have he₂ := Heap.get?_push_of_some (h := h₁) oT he₁
  refine wpAny_setField he₂ hd hsz (h _ h₁.objs.size oT _ ?_ ?_ hoT (by simp) ?_ ?_ ?_)
  · exact Heap.get?_update_self _ he₂ (Obj.isFreed_of_fields (Obj.data_mapFields hd _))
  · exact (Heap.get?_update_other _ _ (Nat.ne_of_lt (Heap.lt_size he₁))).trans (Heap.get?_push_size h₁ hfree)
  · exact Nat.ne_of_gt (Heap.lt_size he₁)
  · cases q : s.heap.get? h₁.objs.size with
    | none => rfl
    | some o =>
      obtain ⟨sl, hsl⟩ := hs₁.2.2 _ o q
      exact absurd (Heap.lt_size hsl) (Nat.lt_irrefl _)
  · intro b o hb ho
    obtain ⟨sl, hsl⟩ := hs₁.2.2 b o ho
    refine ⟨sl, ?_, fun hn => ?_⟩
    · rw [Heap.get?_update_other _ _ (Ne.symm hb)]
      exact Heap.get?_push_of_some _ hsl
    · rw [Heap.get?_update_other _ _ (Ne.symm hb)]
      exact Heap.get?_push_of_some _ ((hs₁.2.1 b hn).trans ho)
/-- an exception of class cls with its dict D, on its way; P is what it does not touch -/
def ExcAt (P : Heap) (e D : Addr) (cls fl : Value) (h : Heap) : Prop :=
  P.StaysIn h ∧ P.get? e = none ∧ ∃ oe vs T oT ts, h.get? e = some oe ∧ oe.cls = cls ∧ oe.dict = some D ∧ oe.data = .fields vs ∧ vs[1]? = some (.ref T) ∧ P.get? T = none ∧ T ≠ e ∧ h.get? T = some oT ∧ oT.data = .fields ts ∧ ts[3]? = some fl
theorem dict_mapFields (f : Array Value → Array Value) (o : Obj) : (o.mapFields f).dict = o.dict := by
  obtain ⟨c, d, dt, sl⟩ := o
  cases dt <;> rfl
theorem cls_mapFields (f : Array Value → Array Value) (o : Obj) : (o.mapFields f).cls = o.cls := by
  obtain ⟨c, d, dt, sl⟩ := o
  cases dt <;> rfl
theorem funFrames_slotted {base : Heap} {fs : List Addr} {e : Addr} {h h' : Heap} {l : List Env} {oe : Obj} {vs : Array Value} (hl : h.FunFrames base l) (he : h.get? e = some oe) (hd : oe.data = .fields vs) (x : Slotted fs e h h') : h'.FunFrames base l :=
  hl.of_keeps fun b o hb hnf => by
    obtain ⟨sl, hsl, _⟩ := x b o (fun q => by rw [q, he] at hb; injection hb with hb; exact hnf vs (hb ▸ hd)) hb
    exact ⟨_, hsl, rfl⟩
theorem up_slotted {fs : List Addr} {e : Addr} {h h' : Heap} {oe : Obj} {vs : Array Value} (he : h.get? e = some oe) (hd : oe.data = .fields vs) (x : Slotted fs e h h') : h.UpToSlots h' := fun b o hb hnf => by
  obtain ⟨sl, hsl, _⟩ := x b o (fun q => by rw [q, he] at hb; injection hb with hb; exact hnf vs (hb ▸ hd)) hb
  exact ⟨sl, hsl⟩
theorem exc_setFlight {P : Heap} {e D : Addr} {cls fl : Value} {l : List Env} {Q : Unit → Shared → Prop} (hx : ExcAt P e D cls fl s.heap) (hl : s.heap.FunFrames P l)
    (h : ∀ h', ExcAt P e D cls .none h' → h'.FunFrames P l → s.heap.UpToSlots h' → Q () { s with heap := h' }) : wpAny M A (setFlight (.ref e) none) Q E s := by
  obtain ⟨hP, hPe, oe, vs, T, oT, ts, he, hc, hD, hd, h1, hPT, hTe, hT, hdT, h3⟩ := hx
  have hsz3 : 3 < ts.size := (Array.getElem?_eq_some_iff.mp h3).1
  have other : ∀ b, b ≠ T → (s.heap.update T (Obj.mapFields (·.setIfInBounds 3 Value.none))).get? b = s.heap.get? b := fun b hb => Heap.get?_update_other _ _ (Ne.symm hb)
  have noRec : ∀ b o, s.heap.get? b = some o → (∀ vs, o.data ≠ .fields vs) → b ≠ T := fun b o hb hnf q => by
    rw [q, hT] at hb; injection hb with hb; exact hnf ts (hb ▸ hdT)
  unfold setFlight
  refine wpAny_bind (wpAny_field he hd h1 ?_)
  rw [if_pos (show (Value.ref T != Value.none) = true from by simp)]
  refine wpAny_setField hT hdT hsz3 (h _ ⟨fun b o hb => (other b fun q => by rw [q, hPT] at hb; cases hb).trans (hP b o hb), hPe, oe, vs, T, _, _, (other e (Ne.symm hTe)).trans he, hc, hD, hd, h1, hPT, hTe, Heap.get?_update_self _ hT (Obj.isFreed_of_fields (Obj.data_mapFields hdT _)), Obj.data_mapFields hdT _, by simp [hsz3]⟩
    (hl.of_keeps fun b o hb hnf => ⟨o, (other b (noRec b o hb hnf)).trans hb, rfl⟩) fun b o hb hnf => ⟨o.slots, (other b (noRec b o hb hnf)).trans hb⟩)
theorem exc_entered {P : Heap} {e D L : Addr} {cls : Value} {env : Env} {outer : List Env} {oe : Obj} {vs : Array Value} {h h' : Heap} {T : Addr} {oT : Obj} {ts : Array Value} (hP : P.StaysIn h) (hPe : P.get? e = none) (hl : h.FunFrames P (env :: outer)) (he : h.get? e = some oe) (hc : oe.cls = cls) (hD : oe.dict = some D) (hd : oe.data = .fields vs) (hsz : 1 < vs.size)
    (a1 : h'.get? e = some (oe.mapFields (·.setIfInBounds 1 (.ref T)))) (a2 : h'.get? T = some oT) (a3 : oT.data = .fields ts) (a4 : ts[3]? = some (rawInt L)) (a5 : T ≠ e) (a6 : h.get? T = none) (a7 : Slotted ((env :: outer).filterMap (·.frame)) e h h') : ExcAt P e D cls (rawInt L) h' := by
  have hPT : P.get? T = none := by
    cases q : P.get? T with
    | none => rfl
    | some o => have := hP T o q; rw [a6] at this; cases this
  refine ⟨fun b o hb => ?_, hPe, _, _, T, oT, ts, a1, (cls_mapFields _ _).trans hc, (dict_mapFields _ _).trans hD, Obj.data_mapFields hd _, by simp [hsz], hPT, a5, a2, a3, a4⟩
  obtain ⟨sl, _, hk⟩ := a7 b o (fun q => by rw [q, hPe] at hb; cases hb) (hP b o hb)
  exact hk fun hm => by rw [(hl.mem hm).1] at hb; cases hb
theorem exc_leaving {P : Heap} {e D L : Addr} {cls : Value} {env : Env} {outer : List Env} {oe : Obj} {vs : Array Value} {Q : Unit → Shared → Prop} (hfr : A.frames = some (env :: outer)) (hl : s.heap.FunFrames P (env :: outer)) (hf : env.frame = some L)
    (hP : P.StaysIn s.heap) (hPe : P.get? e = none) (he : s.heap.get? e = some oe) (hc : oe.cls = cls) (hD : oe.dict = some D) (hd : oe.data = .fields vs) (h1 : vs[1]? = some .none)
    (h : ∀ h', ExcAt P e D cls .none h' → h'.FunFrames P (env :: outer) → s.heap.UpToSlots h' → Q () { s with heap := h' }) : wpAny M A (leaving env (.ref e)) Q E s := by
  have hsz : 1 < vs.size := (Array.getElem?_eq_some_iff.mp h1).1
  unfold leaving noteFrame
  simp only [hf]
  refine wpAny_bind (wpAny_bind (wpAny_field he hd h1 ?_))
  rw [if_neg (by decide)]
  refine exl_entry hfr hl hf he hd hsz fun h' T oT ts a1 a2 a3 a4 a5 a6 a7 => ?_
  refine exc_setFlight (exc_entered hP hPe hl he hc hD hd hsz a1 a2 a3 a4 a5 a6 a7) (funFrames_slotted hl he hd a7) fun h'' x1 x2 x3 => ?_
  exact h h'' x1 x2 ((up_slotted he hd a7).trans x3)
theorem exc_noteFrame {P : Heap} {e D L : Addr} {cls : Value} {env : Env} {outer : List Env} {Q : Unit → Shared → Prop} (hfr : A.frames = some (env :: outer)) (hl : s.heap.FunFrames P (env :: outer)) (hf : env.frame = some L)
    (hx : ExcAt P e D cls .none s.heap) (h : ∀ h', ExcAt P e D cls (rawInt L) h' → h'.FunFrames P (env :: outer) → s.heap.UpToSlots h' → Q () { s with heap := h' }) : wpAny M A (noteFrame (.ref e) env) Q E s := by
  obtain ⟨hP, hPe, oe, vs, T, oT, ts, he, hc, hD, hd, h1, hPT, hTe, hT, hdT, h3⟩ := hx
  have hsz : 1 < vs.size := (Array.getElem?_eq_some_iff.mp h1).1
  have hsz3 : 3 < ts.size := (Array.getElem?_eq_some_iff.mp h3).1
  have other : ∀ b, b ≠ T → (s.heap.update T (Obj.mapFields (·.setIfInBounds 3 Value.none))).get? b = s.heap.get? b := fun b hb => Heap.get?_update_other _ _ (Ne.symm hb)
  have noRec : ∀ b o, s.heap.get? b = some o → (∀ vs, o.data ≠ .fields vs) → b ≠ T := fun b o hb hnf q => by
    rw [q, hT] at hb; injection hb with hb; exact hnf ts (hb ▸ hdT)
  unfold noteFrame
  simp only [hf]
  refine wpAny_bind (wpAny_field he hd h1 ?_)
  rw [if_pos (show (Value.ref T != Value.none) = true from by simp)]
  refine wpAny_bind (wpAny_field hT hdT h3 ?_)
  rw [if_neg (show ¬ ((Value.none == rawInt L) = true) from by simp [rawInt])]
  refine wpAny_bind (wpAny_setField hT hdT hsz3 ?_)
  have hl' : (s.heap.update T (Obj.mapFields (·.setIfInBounds 3 Value.none))).FunFrames P (env :: outer) := hl.of_keeps fun b o hb hnf => ⟨o, (other b (noRec b o hb hnf)).trans hb, rfl⟩
  have he' := (other e (Ne.symm hTe)).trans he
  refine exl_entry (s := { s with heap := s.heap.update T (Obj.mapFields (·.setIfInBounds 3 Value.none)) }) hfr hl' hf he' hd hsz fun h' T' oT' ts' a1 a2 a3 a4 a5 a6 a7 => ?_
  refine h h' (exc_entered (fun b o hb => (other b fun q => by rw [q, hPT] at hb; cases hb).trans (hP b o hb)) hPe hl' he' hc hD hd hsz a1 a2 a3 a4 a5 a6 a7) (funFrames_slotted hl' he' hd a7) fun b o hb hnf => ?_
  exact up_slotted he' hd a7 b o ((other b (noRec b o hb hnf)).trans hb) hnf
theorem exc_noteAgain {P : Heap} {e D L : Addr} {cls : Value} {env : Env} {Q : Unit → Shared → Prop} (hf : env.frame = some L) (hx : ExcAt P e D cls (rawInt L) s.heap) (h : Q () s) : wpAny M A (noteFrame (.ref e) env) Q E s := by
  obtain ⟨hP, hPe, oe, vs, T, oT, ts, he, hc, hD, hd, h1, hPT, hTe, hT, hdT, h3⟩ := hx
  unfold noteFrame
  simp only [hf]
  refine wpAny_bind (wpAny_field he hd h1 ?_)
  rw [if_pos (show (Value.ref T != Value.none) = true from by simp)]
  refine wpAny_bind (wpAny_field hT hdT h3 ?_)
  rw [if_pos (show (rawInt L == rawInt L) = true from by simp)]
  exact wpAny_pure h
end
end Mine
end
section
open PySem PySem.W PyProof.Rows PySem.Calls PySem.Spec PyProof.V
namespace Mine
theorem walk_off_X7 : True := by
  w_top off
  trivial
local macro_rules | `(tactic| walk_at "no key 0") => `(tactic| fail "none")
abbrev cls52Obj : Obj := excClassObj "FilterFault" "FilterFault" 52 51 [.ref 39] [.ref 39, .type "Exception", .type "BaseException", .type "object"] true [] [] false none none (some (.ref 43)) none (some (.str "FilterFault" 229)) (some (.str "FilterFault" 237)) (some (.bool true)) "Exception.__new__"
section
variable {M : Model} {A : Around} {E : Value → Shared → Prop} {s : Shared} {env : Env} {Q : Flow → Shared → Prop}
theorem exi_Raise {nm q : Str} {C N : Addr} {bs bm : List Value} {hdct : Bool} {sn : List Str} {sub : List Value} {ab : Bool} {col : Option Bool} {dd : Option Addr} {k0 k1 k2 k3 k5 : Option Value} {newId : String} {e : Expr} {pos : Pos}
    (hbase : bm.contains (.type "BaseException") = true) (hh : A.handled = none)
    (h : wpAny M A (eval e env) (fun v s₁ => ∃ (x T D : Nat), v = .ref x ∧ s₁.heap.get? C = some (excClassObj nm q C N bs bm hdct sn sub ab col dd k0 k1 k2 k3 k5 newId) ∧ s₁.heap.get? x = some (exc2 C T D) ∧ E (.ref x) s₁) E s) :
    wpAny M A (exec (.Raise (some e) none pos) env) Q E s := by
  have hcB : (Value.ref C :: bm).contains (.type "BaseException") = true := by rw [List.contains_cons, hbase, Bool.or_true]
  show wpAny M A (do standAt pos; raiseStmt env (some (do let v ← eval e env; standAt pos; pure v)) none) Q E s
  refine wpAny_bind (wpAny_standAt ?_)
  unfold raiseStmt
  dsimp only
  refine wpAny_bind (wpAny_bind (wpAny_mono h (fun v s₁ h₁ => wpAny_bind (wpAny_standAt (wpAny_pure ?_))) fun _ _ x => x))
  obtain ⟨x, T, D, rfl, hC, he, hE⟩ := h₁
  obtain ⟨hp, g, d, tk, os⟩ := s₁
  repeat (first | with_reducible refine wpAny_loadPart_at he ?_ | with_reducible refine wpAny_loadPart_at hC ?_ | (with_reducible refine wpAny_isSubtype_exc hC ?_; rw [hcB]) | wp_step)
  exact wpAny_raiseNew_none hh hE
theorem exc_leave {base g : Heap} {outer : List Env} {L1 a e : Addr} {T D : Nat} {m : Str → Option Value} {name : Str} {scope : Scope} {cd : Value} {C : Nat} {Q : Unit → Shared → Prop} (K : Below A base outer g) (F : Fr g L1 s.heap m) (he : s.heap.get? e = some (exc2 C T D)) (hen : g.get? e = none)
    (h : ∀ h' P, base.StaysIn P → (∀ b o, s.heap.get? b = some o → b ≠ e → b ≠ L1 → b ∉ outer.filterMap (·.frame) → P.get? b = some o) → ExcAt P e D (.ref C) .none h' → h'.FunFrames P outer → s.heap.UpToSlots h' → Q () { s with heap := h' }) (hk : scope.kind = .function := by rfl) :
    wpAny M (A.deeper (envOf name scope L1 a cd)) (leaving (envOf name scope L1 a cd) (.ref e)) Q E s := by
  have K' := K.push (name := name) (a := a) (cd := cd) F hk
  have hin : ∀ env ∈ (envOf name scope L1 a cd :: outer), ∀ b, env.frame = some b → b ∈ e :: (envOf name scope L1 a cd :: outer).filterMap (·.frame) := fun env he b hb => List.Mem.tail _ (List.mem_filterMap.mpr ⟨env, he, hb⟩)
  have hbe : ∀ b o, base.get? b = some o → b ≠ e := fun b o hb q => by
    have := K.stays b o hb
    rw [q, hen] at this; cases this
  have st : base.StaysIn (hideAll s.heap (e :: (envOf name scope L1 a cd :: outer).filterMap (·.frame))) := fun b o q => hideAll_get _ (K'.stays b o q) fun hm => by
    rcases List.mem_cons.mp hm with rfl | hm
    · exact hbe _ o q rfl
    · rw [(K'.frames.mem hm).1] at q; cases q
  refine exc_leaving (P := hideAll s.heap (e :: (envOf name scope L1 a cd :: outer).filterMap (·.frame))) K'.stack (funFrames_hide K'.frames hin) rfl (fun b o q => of_hideAll _ q) (hideAll_none _ (List.Mem.head _)) he rfl rfl rfl rfl fun h' x1 x2 x3 => ?_
  obtain ⟨_, _, x2'⟩ := x2
  refine h h' _ st (fun b o hb n1 n2 n3 => hideAll_get _ hb fun hm => ?_) x1 x2' x3
  rcases List.mem_cons.mp hm with q | hm
  · exact n1 q
  · obtain ⟨env, hen', hf⟩ := List.mem_filterMap.mp hm
    rcases List.mem_cons.mp hen' with rfl | hen'
    · exact n2 (Option.some.inj hf).symm
    · exact n3 (List.mem_filterMap.mpr ⟨env, hen', hf⟩)
theorem exi_Raise52 {e : Expr} {pos : Pos} (hh : A.handled = none)
    (h : wpAny M A (eval e env) (fun v s₁ => ∃ (x T D : Nat), v = .ref x ∧ s₁.heap.get? 52 = some cls52Obj ∧ s₁.heap.get? x = some (exc2 52 T D) ∧ E (.ref x) s₁) E s) :
    wpAny M A (exec (.Raise (some e) none pos) env) Q E s := exi_Raise (by decide) hh h
end
local macro_rules | `(tactic| walk_at "getMethod ref") => `(tactic| (k_here; (rename News _ _ _ ((_, baOf _) :: _) => lN'); k_dflt (refine' ba_method (lN' _ (List.Mem.head _)).1 ?_)))
local macro_rules | `(tactic| walk_at "subscriptTail") => `(tactic| (k_here; (with_reducible show wpAny _ _ (subscriptTail _ _ (Value.ref _) (Value.int _ _)) _ _ _); (rename News _ _ _ ((_, baOf _) :: _) => lN'); k_dflt (with_unfolding_all refine' ba_itemK (lN' _ (List.Mem.head _)).1 (by assumption) (by omega) (by omega) (by omega) ?_ ?f; (case f => with_unfolding_all rfl); k_whole); intro t' k' lo' hi'))
local macro_rules | `(tactic| walk_at "call builtin:len") => `(tactic| (k_here; (with_reducible show wpAny _ _ (call (Value.builtin _) [Value.ref _]) _ _ _); (rename News _ _ _ ((_, baOf _) :: _) => lN'); k_dflt (refine' ba_len (lN' _ (List.Mem.head _)).1 (by omega) ?_)))
local macro_rules | `(tactic| walk_at "exec Raise some none") => `(tactic| (refine halt ?_))
local macro_rules | `(tactic| walk_at "call ref") => `(tactic| (refine halt ?_))
set_option maxRecDepth 100000 in
set_option maxHeartbeats 8000000 in
theorem lay_fault (w : World) {mean : ExcName → Option Value} {mg mb : Str → Option Value} {dp un : Nat} {gd : Option (List Code)} {cn : Str} {cs : Scope} {a : Addr} {ccd : Value} {cl : List (Str × Addr)} {outer : List Env} {A₀ : Around} {h₀ : Heap} {L : Addr} {m : Str → Option Value} {s : Shared} {Q E : Value → Shared → Prop}
    {b : Array UInt8} {ks : List Int} {S r : Nat} {l d : Int} {t1 t2 ta : Tok} {at0 : Int}
    (B : Below A₀ h₀ outer h₀) (F : Fr h₀ L s.heap m) (X : (hd.heap_39 w.params).In h₀) (T : Top hd.view_39 LZ mean mg mb h₀) (hk : cs.kind = .function)
    (N : News h₀ L s.heap [(S, baOf b), (r, tup [.int l t1, .int d t2])]) (hSr : @Ne Nat S r) (hkb : KBw.bInts b = ks) (hl0 : 0 ≤ l) (hd0 : 1 ≤ d) (hd1 : (ks.length : Int) < d) (hl1 : ks.length ≤ 1000) (hdp : dp + 4 < recursionLimit) (hun : un + 32 < cLine)
    (err : ∀ h' tk (e D : Nat) (P : Heap) k4 k5 x tx, h₀.get? D = none → h₀.StaysIn P → (∀ b o, s.heap.get? b = some o → b ∉ (envX cn cs L a ccd cl :: outer).filterMap (·.frame) → P.get? b = some o) → P.get? D = some (faultDict w.params k4 k5 x tx at0 ta) →
      ExcAt P e D (.ref 52) .none h' → h'.FunFrames P (envX cn cs L a ccd cl :: outer) → Fr h₀ L h' m → E (.ref e) { s with heap := h', toks := tk }) :
    wpAny (model PySem.Challenge.rw_og0134_01.row.prog w) (ktrTop dp un gd cn cs L a ccd cl outer) (call (.ref 61) [.ref S, .ref r, .int at0 ta]) Q E s := by
  revert X; k_fill; intro X
  refine wpAny_call ?_
  k_dflt (refine' code_defG ?k1 ?k2 ?k3 ?k4 ?k5 ?kA ?kF ?kK ?k6 ?k7 ?k8 ?k9 ?kB ?_ ?c2 ?c3 ?c4 ?c5; (case kA => exact rfl); (case kF => exact rfl); (case kK => assumption); (case k1 => k_asm); (case k2 => k_asm); (case k3 => k_asm); (case k4 => k_asm); (case k5 => k_asm); (case k6 => k_is); (case k7 => k_is); (case k8 => ktr_room); (case k9 => first | exact BindsTo.of_eq rfl | exact binds_K (by k_in) rfl (by k_is) rfl rfl rfl); (case c5 => decide); (case kB => exact locs rfl); (case c2 => exact rfl); (case c3 => exact rfl); (case c4 => exact rfl); k_whole)
  intro g1 L1 hp1 FG1 F1 N1 B1 X1 T1 kG
  (try dsimp only); (try k_lift B1); (try k_fold)
  have hbs : b.size = ks.length := by rw [← KBw.ints_length, hkb]
  k_steps
  refine Halt.on ?_
  refine exi_Raise52 rfl ?_
  k_steps
  refine Halt.on ?_
  rename Fr g1 L1 _ _ => F2
  rename News g1 L1 _ _ => N2
  refine exi_call PySem.F.excBase_Exception (X1.keeps F2.keep) (by decide) (by decide) (by decide) ((X1.keeps F2.keep) _ _ (obj52 _)) (init52 _) (type29 _) ?_
  rename_i hq
  have Ft := F2.push { cls := .type "tuple", data := .seq (List.toArray [Value.str (Str.ofString "a distance beyond the first octet") tk, Value.int at0 ta]) }
  have Nt := News.push F2 N2 { cls := .type "tuple", data := .seq (List.toArray [Value.str (Str.ofString "a distance beyond the first octet") tk, Value.int at0 ta]) }
  have Fe := Ft.push (excObj 52 hq.objs.size)
  have Ne := News.push Ft Nt (excObj 52 hq.objs.size)
  rw [Heap.size_push] at Ne
  have Ne2 : News g1 L1 ((hq.push { cls := .type "tuple", data := .seq (List.toArray [Value.str (Str.ofString "a distance beyond the first octet") tk, Value.int at0 ta]) }).push (excObj 52 hq.objs.size)) [(hq.objs.size + 1, excObj 52 hq.objs.size), (hq.objs.size, tup [Value.str (Str.ofString "a distance beyond the first octet") tk, Value.int at0 ta])] := fun p hp => Ne p (by
    simp only [List.mem_cons, List.not_mem_nil, or_false] at hp ⊢
    rcases hp with h | h <;> simp [h])
  k_dflt (refine' init_spec w ?kB Fe X1 T1 rfl rfl rfl Ne2 (Nat.succ_ne_self _) ?kd ?_; (case kB => exact B1); (case kd => first | ktr_room | omega))
  intro h6 tk6 T6 D6 k4 k5 F6 N6' l6 l6' K6
  have hSq : S < hq.objs.size := Heap.lt_size (N2 _ (List.Mem.head _)).1
  have hrq : r < hq.objs.size := Heap.lt_size (N2 _ (List.Mem.tail _ (List.Mem.head _))).1
  have N6 : News g1 L1 h6 ([(S, baOf b), (r, tup [.int l t1, .int d t2])] ++ [(hq.objs.size + 1, exc2 52 T6 D6), (D6, faultDict w.params k4 k5 (Str.ofString "a distance beyond the first octet") tk at0 ta), (T6, tup [.str (Str.ofString "a distance beyond the first octet") tk]), (hq.objs.size, tup [Value.str (Str.ofString "a distance beyond the first octet") tk, Value.int at0 ta])]) := by
    refine news_join (ch := [(hq.objs.size + 1, excObj 52 hq.objs.size), (hq.objs.size, tup [Value.str (Str.ofString "a distance beyond the first octet") tk, Value.int at0 ta])]) (fun p hp => Ne p ?_) K6 (fun p hp => ?_) N6'
    · simp only [List.cons_append, List.nil_append, List.mem_cons, List.not_mem_nil, or_false] at hp ⊢
      rcases hp with h | h | h | h <;> simp [h]
    · simp only [List.mem_cons, List.not_mem_nil, or_false] at hp ⊢
      rcases hp with rfl | rfl
      · exact fun h => h.elim (Nat.ne_of_lt (Nat.lt_succ_of_lt hSq)) (Nat.ne_of_lt hSq)
      · exact fun h => h.elim (Nat.ne_of_lt (Nat.lt_succ_of_lt hrq)) (Nat.ne_of_lt hrq)
  refine ⟨rfl, _, T6, D6, rfl, (X1.keeps F6.keep) _ _ (obj52 _), (N6' _ (List.Mem.head _)).1, ?_⟩
  show wpAny _ _ (leaving _ _) _ _ _
  have he6 := N6' _ (List.Mem.head _)
  have hd6 := N6' _ (List.Mem.tail _ (List.Mem.head _))
  have hgL : g1.get? L1 = none := by
    cases q : g1.get? L1 with
    | none => rfl
    | some o => exact absurd (Nat.lt_of_lt_of_le (Heap.lt_size q) F6.above) (Nat.lt_irrefl _)
  refine exc_leave B1 F6 he6.1 he6.2.2 fun h' P st hP hx hfr hup => ?_
  have hno : ∀ b, g1.get? b = none → b ∉ (envX cn cs L a ccd cl :: outer).filterMap (·.frame) := fun b hb hm => by
    obtain ⟨_, o, ho, _⟩ := B1.frames.mem hm
    rw [hb] at ho; cases ho
  refine err h' _ _ D6 P k4 k5 _ _ (fresh_of_stays FG1.keep hd6.2.2) st (fun c o hb hn => ?_) (hP _ _ hd6.1 (Nat.ne_of_gt l6') hd6.2.1 (hno _ hd6.2.2)) hx hfr (FG1.of_stays (fun b o hb => hx.1 b o (st b o hb)) ((Heap.UpToSlots.of_keeps F6.keep).trans hup))
  by_cases hbm : c ∈ ([S, r] : List Nat)
  · simp only [List.mem_cons, List.not_mem_nil, or_false] at hbm
    rcases hbm with rfl | rfl
    · have h1 := (N _ (List.Mem.head _)).1
      have h2 := N6 _ (List.mem_append.mpr (.inl (List.Mem.head _)))
      rw [hb] at h1
      rw [Option.some.inj h1]
      exact hP _ _ h2.1 (Nat.ne_of_lt (Nat.lt_succ_of_lt hSq)) h2.2.1 hn
    · have h1 := (N _ (List.Mem.tail _ (List.Mem.head _))).1
      have h2 := N6 _ (List.mem_append.mpr (.inl (List.Mem.tail _ (List.Mem.head _))))
      rw [hb] at h1
      rw [Option.some.inj h1]
      exact hP _ _ h2.1 (Nat.ne_of_lt (Nat.lt_succ_of_lt hrq)) h2.2.1 hn
  · have hg := kG c o hb hbm
    refine hP c o (F6.keep c o hg) (fun q => ?_) (fun q => ?_) hn
    · rw [q, he6.2.2] at hg; cases hg
    · rw [q, hgL] at hg; cases hg
end Mine
end
section
open PySem PySem.W PyProof.Rows PySem.Calls PySem.Spec PyProof.V
namespace Mine
theorem walk_off_D7 : True := by
  w_top off
  trivial
theorem PartsAre.get {tl : List (Addr × Obj)} {vs : List Value} {ps : List Part} (q : PartsAre tl vs ps) : ∀ {i : Nat} {v : Value}, vs[i]? = some v → (∃ (k : Int) (t : Tok), v = Value.int k t ∧ ps[i]? = some (.inl k)) ∨ (∃ (r : Addr) (l d : Int) (t1 t2 : Tok), v = Value.ref r ∧ ps[i]? = some (.inr (l, d)) ∧ (r, Mine.tup [.int l t1, .int d t2]) ∈ tl) := by
  induction q with
  | nil => intro i v e; simp at e
  | int k t _ ih =>
    intro i v e
    cases i with
    | zero => simp only [List.getElem?_cons_zero, Option.some.injEq] at e; exact .inl ⟨k, t, e.symm, rfl⟩
    | succ i => simp only [List.getElem?_cons_succ] at e ⊢; exact ih e
  | tup r l d t1 t2 hm _ ih =>
    intro i v e
    cases i with
    | zero => simp only [List.getElem?_cons_zero, Option.some.injEq] at e; exact .inr ⟨r, l, d, t1, t2, e.symm, rfl, hm⟩
    | succ i => simp only [List.getElem?_cons_succ] at e ⊢; exact ih e
theorem bytearray_R {prog : Program} {w : World} {A : Around} {E : Value → Shared → Prop} {s : Shared} {h₀ : Heap} {L : Addr} {m : Str → Option Value} {news : List (Addr × Obj)} {b : Array UInt8} {t : Tok} {Q : Value → Shared → Prop} (F : Fr h₀ L s.heap m) (N : News h₀ L s.heap news) (hz : b.size ≤ 1000)
    (h : ∀ h' (S : Nat), Fr h₀ L h' m → News h₀ L h' ((S, baOf b) :: news) → (∀ p ∈ news, p.1 < S) → s.heap.get? S = none → Q (.ref S) { s with heap := h' }) :
    wpR (model prog w) A (call (.type "bytearray") [.bytes b t]) Q E s := by
  refine callR_bytearray (by rw [sizeLine_eq]; omega) fun h' hk hS => h h' _ ⟨F.ns.at' fun o e => hk _ o e, fun b o e => hk b o (F.keep b o e), F.above⟩ (fun p hp => ?_) (fun p hp => Heap.lt_size (N p hp).1) (Heap.get?_none_of_le (Nat.le_refl _))
  rcases List.mem_cons.mp hp with rfl | hp
  · exact ⟨hS, Nat.ne_of_gt F.ns.lt, next_is_new F⟩
  · exact ⟨hk _ _ (N p hp).1, (N p hp).2⟩
theorem news_one {h₀ h h' : Heap} {L : Addr} {S : Addr} {o o' : Obj} {rest : List (Addr × Obj)} (N : News h₀ L h ((S, o) :: rest)) (K : KeptBut [S] h h') (hr : ∀ p ∈ rest, p.1 ≠ S) (N' : News h₀ L h' [(S, o')]) : News h₀ L h' ((S, o') :: rest) := by
  intro p hp
  rcases List.mem_cons.mp hp with rfl | hp
  · exact N' _ (List.Mem.head _)
  · exact ⟨K _ _ (N p (List.Mem.tail _ hp)).1 (fun h => hr p hp (List.mem_singleton.mp h)), (N p (List.Mem.tail _ hp)).2⟩
theorem news_two {h₀ h h' : Heap} {L : Addr} {S r : Addr} {o o' t : Obj} {rest : List (Addr × Obj)} (N : News h₀ L h ((S, o) :: rest)) (K : KeptBut [S, r] h h') (hr : ∀ p ∈ rest, p.1 ≠ S) (hm : (r, t) ∈ rest) (N' : News h₀ L h' [(S, o'), (r, t)]) : News h₀ L h' ((S, o') :: rest) := by
  intro p hp
  rcases List.mem_cons.mp hp with rfl | hp
  · exact N' _ (List.Mem.head _)
  · have h1 := N p (List.Mem.tail _ hp)
    by_cases hpr : p.1 = r
    · have h2 := (N (r, t) (List.Mem.tail _ hm)).1
      have h3 := N' (r, t) (List.Mem.tail _ (List.Mem.head _))
      rw [hpr] at h1
      rw [h1.1] at h2
      have e : p = (r, t) := Prod.ext hpr (Option.some.inj h2)
      rw [e]
      exact h3
    · refine ⟨K _ _ h1.1 fun h => ?_, h1.2⟩
      rcases List.mem_cons.mp h with h | h
      · exact hr p hp h
      · exact hpr (List.mem_singleton.mp h)
theorem kept_all {h₀ h h' : Heap} {L : Addr} {news : List (Addr × Obj)} (K : KeptBut (news.map (·.1)) h h') (N : News h₀ L h news) (N' : News h₀ L h' news) : KeptBut [] h h' := by
  intro b o hb _
  by_cases hm : b ∈ news.map (·.1)
  · obtain ⟨p, hp, rfl⟩ := List.mem_map.mp hm
    have h1 := (N p hp).1
    rw [hb] at h1
    rw [Option.some.inj h1]
    exact (N' p hp).1
  · exact K b o hb hm
local macro_rules | `(tactic| walk_at "pyIter ref") => `(tactic| (refine halt ?_))
local macro_rules | `(tactic| walk_at "call type:bytes") => `(tactic| (k_here; (with_reducible show wpAny _ _ (call (Value.type _) [Value.ref _]) _ _ _); (rename News _ _ _ ((_, baOf _) :: _) => lN'); k_dflt (refine' callBytes_ba (lN' _ (List.Mem.head _)).1 (by first | assumption | omega) ?_); intro t' k'))
set_option maxRecDepth 100000 in
set_option maxHeartbeats 8000000 in
theorem laid_spec (w : World) {mean : ExcName → Option Value} {mg mb : Str → Option Value} {dp un : Nat} {gd : Option (List Code)} {cn : Str} {cs : Scope} {a : Addr} {ccd : Value} {cl : List (Str × Addr)} {outer : List Env} {A₀ : Around} {base h₀ : Heap} {L : Addr} {m : Str → Option Value} {s : Shared} {Q E : Value → Shared → Prop}
    {b : Array UInt8} {ks : List Int} {P : Nat} {vs : List Value} {j : Nat} {ps : List Part} {tl : List (Addr × Obj)} {tb : Tok}
    (B : Below A₀ base outer h₀) (F : Fr h₀ L s.heap m) (X : (hd.heap_39 w.params).In h₀) (T : Top hd.view_39 LZ mean mg mb h₀) (hk : cs.kind = .function)
    (N : News h₀ L s.heap ((P, listOf vs.toArray j) :: tl)) (hP : PartsAre tl vs ps) (hkb : KBw.bInts b = ks) (hl : ks.length ≤ 1000) (hok : LaidOk ks ps) (hle : (ps.foldl lay1 ks).length ≤ 1000) (hdp : dp + 4 < recursionLimit) (hun : un + 32 < cLine)
    (ret : ∀ h' tk t b', KBw.bInts b' = ps.foldl lay1 ks → Fr h₀ L h' m → KeptBut [] s.heap h' → Q (.bytes b' t) { s with heap := h', toks := tk }) :
    wpR (model PySem.Challenge.rw_og0134_01.row.prog w) (ktrTop dp un gd cn cs L a ccd cl outer) (call (.ref 147) [.bytes b tb, .ref P]) Q E s := by
  revert X; k_fill; intro X
  refine wpR_call ?_
  k_dflt (refine' codeR_defG ?k1 ?k2 ?k3 ?k4 ?k5 ?kA ?kF ?kK ?k6 ?k7 ?k8 ?k9 ?kB ?_ ?c2 ?c3 ?c4 ?c5; (case kA => exact rfl); (case kF => exact rfl); (case kK => assumption); (case k1 => k_asm); (case k2 => k_asm); (case k3 => k_asm); (case k4 => k_asm); (case k5 => k_asm); (case k6 => k_is); (case k7 => k_is); (case k8 => ktr_room); (case k9 => first | exact BindsTo.of_eq rfl | exact binds_K (by k_in) rfl (by k_is) rfl rfl rfl); (case c5 => decide); (case kB => exact locs rfl); (case c2 => exact rfl); (case c3 => exact rfl); (case c4 => exact rfl); k_whole)
  intro g1 L1 hp1 FG1 F1 N1 B1 X1 T1 kG
  (try dsimp only); (try k_lift B1); (try k_fold)
  have hbs : b.size = ks.length := by rw [← KBw.ints_length, hkb]
  refine wpR_execs_cons (wpR_Assign_Name (wpR_evalCall ?_))
  k_steps
  · exact Keeps.type
  rename Fr g1 L1 _ _ => F1
  rename News g1 L1 _ _ => N1
  k_dflt (refine' bytearray_R ?kF ?kN ?kz ?_; (case kF => exact F1); (case kN => exact N1); (case kz => omega))
  intro h2 S F2 N2 lS hS0
  k_steps
  rename Fr g1 L1 _ _ => F3
  rename News g1 L1 _ _ => N3
  dsimp only
  refine wpR_execs_cons (wpR_For ?_)
  k_steps
  refine Halt.on ?_
  have hlP : P < S := lS (P, listOf vs.toArray j) (List.Mem.head _)
  have hlt : ∀ p ∈ tl, p.1 < S := fun p hp => lS p (List.Mem.tail _ hp)
  refine forR_list (fun i m₁ nx => ∃ b' u, nx = (S, baOf b') :: (P, listOf vs.toArray j) :: tl ∧ KBw.bInts b' = (ps.take i).foldl lay1 ks ∧ m₁ = over [Str.ofString "part"] (mapOf F3) u) rfl (List.Mem.tail _ (List.Mem.head _)) rfl rfl F3 N3
    ⟨b, mapOf F3, rfl, hkb, over_self _ _⟩ (by rintro i m₁ nx ⟨b', u, rfl, _⟩; exact List.Mem.tail _ (List.Mem.head _)) ?_ ?_
  · rintro i v m₁ nx h tk I oI hv ⟨b', u, rfl, hb', rfl⟩ hnI F4 N4
    dsimp only [mapOf] at F4 ⊢
    have hSI : @Ne Nat S I := hnI (S, baOf b') (List.Mem.head _)
    simp only [List.cons_append] at N4
    clear F3 N3
    rcases hP.get hv with ⟨k, t, rfl, hp⟩ | ⟨r, l, d, t1, t2, rfl, hp, hm⟩
    · have hok' := hok.at hp
      refine wpR_execs_cons (wpR_Expr (wpR_evalCall ?_))
      k_steps
      · exact Keeps.K (by k_is) (X1.keeps F4.keep)
      have N5 : News g1 L1 h [(S, baOf b')] := fun p hp => N4 p (by rw [List.mem_singleton.mp hp]; exact List.Mem.head _)
      k_dflt (refine' lay_int w ?kB F4 ?kX ?kT ?kk N5 hb' (Nat.le_of_lt hok'.2.2) hok'.1 hok'.2.1 ?kdp ?kun ?_; (case kB => k_asm); (case kX => k_asm); (case kT => k_asm); (case kk => exact rfl); (case kdp => ktr_room); (case kun => ktr_units))
      intro h6 tk6 b6 hb6 F6 N6 K6
      refine wpR_execs_nil ?_
      have hrest : ∀ p ∈ (P, listOf vs.toArray j) :: (tl ++ [(I, oI)]), p.1 ≠ S := by
        intro p hp
        rcases List.mem_cons.mp hp with rfl | hp
        · exact Nat.ne_of_lt hlP
        · rcases List.mem_append.mp hp with hp | hp
          · exact Nat.ne_of_lt (hlt p hp)
          · rw [List.mem_singleton.mp hp]; exact fun e => hSI e.symm
      refine ⟨h6, _, _, (S, baOf b6) :: (P, listOf vs.toArray j) :: tl, rfl, F6, news_one N4 K6 hrest N6, ?n1, b6, mapOf F6, rfl, by rw [hb6, foldl_take_succ hp]; rfl, over_of ?n2⟩
      case n1 =>
        intro p hp
        rcases List.mem_cons.mp hp with rfl | hp
        · exact hSI
        · exact hnI p (List.Mem.tail _ hp)
      case n2 =>
        intro z hz
        simp only [List.contains_cons, List.contains_nil, Bool.or_false, beq_eq_false_iff_ne, ne_eq] at hz
        simp [over, hz]
    · have hok' := hok.at hp
      refine wpR_execs_cons (wpR_Expr (wpR_evalCall ?_))
      k_steps
      · exact Keeps.K (by k_is) (X1.keeps F4.keep)
      have N5 : News g1 L1 h [(S, baOf b'), (r, tup [.int l t1, .int d t2])] := fun p hp => N4 p (by
        rcases List.mem_cons.mp hp with rfl | hp
        · exact List.Mem.head _
        · rw [List.mem_singleton.mp hp]; exact List.Mem.tail _ (List.Mem.tail _ (List.mem_append.mpr (.inl hm))))
      k_dflt (refine' lay_tup w ?kB F4 ?kX ?kT ?kk N5 (Nat.ne_of_gt (hlt _ hm)) hb' hok'.1 hok'.2.1 hok'.2.2.1 hok'.2.2.2 ?kdp ?kun ?_; (case kB => k_asm); (case kX => k_asm); (case kT => k_asm); (case kk => exact rfl); (case kdp => ktr_room); (case kun => ktr_units))
      intro h6 tk6 b6 hb6 F6 N6 K6
      refine wpR_execs_nil ?_
      have hrest : ∀ p ∈ (P, listOf vs.toArray j) :: (tl ++ [(I, oI)]), p.1 ≠ S := by
        intro p hp
        rcases List.mem_cons.mp hp with rfl | hp
        · exact Nat.ne_of_lt hlP
        · rcases List.mem_append.mp hp with hp | hp
          · exact Nat.ne_of_lt (hlt p hp)
          · rw [List.mem_singleton.mp hp]; exact fun e => hSI e.symm
      refine ⟨h6, _, _, (S, baOf b6) :: (P, listOf vs.toArray j) :: tl, rfl, F6, news_two N4 K6 hrest (List.Mem.tail _ (List.mem_append.mpr (.inl hm))) N6, ?n1, b6, mapOf F6, rfl, by rw [hb6, foldl_take_succ hp]; rfl, over_of ?n2⟩
      case n1 =>
        intro p hp
        rcases List.mem_cons.mp hp with rfl | hp
        · exact hSI
        · exact hnI p (List.Mem.tail _ hp)
      case n2 =>
        intro z hz
        simp only [List.contains_cons, List.contains_nil, Bool.or_false, beq_eq_false_iff_ne, ne_eq] at hz
        simp [over, hz]
  · rintro m₁ nx h tk ⟨b', u, rfl, hb', rfl⟩ F4 N4
    dsimp only [mapOf] at F4 ⊢
    clear F3 N3
    have hz : b'.size ≤ 1000 := by
      rw [← KBw.ints_length, hb', hP.length, List.take_length]
      exact hle
    refine wpR_of ?_
    k_steps
    rename News h₀ _ _ _ => N9
    exact ret _ _ _ _ (by rw [hb', hP.length, List.take_length]) (by assumption) (kept_all (kept_of kG F4) N (news_drop1 N9))
end Mine
end
section
open PySem PySem.W PyProof.Rows PySem.Calls PySem.Spec PyProof.V
set_option maxRecDepth 100000
namespace Mine
theorem walk_off_L1 : True := by
  w_top off
  trivial
section
variable {prog : Program} {w : World} {A : Around} {s : Shared} {K : Frag} {p : Program} {loose : List Str} {mean : ExcName → Option Value} {mg mb : Str → Option Value}
theorem codeR_law {R : Result → Shared → Prop} {name qual : Str} {params : Arguments} {body : List Stmt} {scope : Scope} {dV kV doc pm cdv ct oc : Value} {an od : Option Addr} {osl : Array (Option Value)} {f : Addr} {args : Args} {binds : List (Str × Value)}
    (X : K.In s.heap) (T : Top p loose mean mg mb s.heap) (ho : K.lookup f = some ⟨oc, od, .func (fnOf name qual params body scope dV kV doc pm an cdv ct), osl⟩) (hcd : codeIn K cdv qual = true) (hroom : A.depth < recursionLimit)
    (hbind : BindsTo s (fnOf name qual params body scope dV kV doc pm an cdv ct) args binds) (hkind : (binds.all fun y => scope.names.lookup y.1 == some .local || scope.names.lookup y.1 == some .cell) = true)
    (hnd : ((cellsFrom 0 scope.names []).map (·.1)).Nodup)
    (h : ∀ L h₁ tk cells, Fr s.heap L h₁ (bindL (envOfC qual scope L f cdv).kindOf binds fun _ => none) → News s.heap L h₁ cells → CellsAre (bindC (envOfC qual scope L f cdv).kindOf binds fun _ => none) (cellsFrom (L + 1) scope.names []) cells →
      wpR (model prog w) (A.deeper (envOfC qual scope L f cdv)) (execs body (envOfC qual scope L f cdv)) (fun fl s' => R (.ok (.ret (match fl with | .ret v => v | _ => .none))) s')
        (fun e s' => wpAny (model prog w) (A.deeper (envOfC qual scope L f cdv)) (leaving (envOfC qual scope L f cdv) e) (fun _ s'' => R (.error e) s'') (fun e' s'' => R (.error e') s'') s')
        { s with heap := h₁, toks := tk })
    (hco : scope.isCoroutine = false) (hgen : scope.isGenerator = false) (hk : scope.kind = .function) : codeR (model prog w) A (.call (.ref f) args) R s := by
  refine codeR_call_function hroom (X _ _ ho) rfl hco hgen rfl (codeRec_of X hcd) (hbind _ _ _ _ ?_)
  refine wpAny_newFunctionEnv_cells hk (kindsX hkind _) fun env' he s' x => ?_
  subst he
  refine ⟨T.nolimit.keeps x.toInCall.keep, codeR_func ?_⟩
  obtain ⟨h₁, tk, rfl, _⟩ := x.done
  have hk₁ := x.toInCall.keep
  obtain ⟨cells, NC, Y⟩ := Cl.news (h₀ := s.heap) (Nat.le_refl _) fun n c hm => ⟨x.cell n c (lookup_of_mem_nodup (cellsFrom_names scope.names 0 (s.heap.objs.size + 1) [] [] rfl ▸ hnd) hm), x.above n c hm⟩
  exact h s.heap.objs.size h₁ tk cells ⟨x.toInCall.ns, hk₁, Nat.le_refl _⟩ (fun p hp => ⟨(NC p hp).1, (NC p hp).2.1, (NC p hp).2.2⟩) Y
end
end Mine
end
section
open PySem PySem.W PyProof.Rows PySem.Calls PySem.Spec PyProof.V
set_option maxRecDepth 100000
namespace Mine
theorem walk_off_L3 : True := by
  w_top off
  trivial
/-- the script's queue: its list and how many were drawn -/
structure QOk (us : List Value) (ns : List Int) (n : Int) : Prop where
  i : IntsAre us ns
  u : us.length ≤ 63
  s : ns.length ≤ 63
  n0 : 0 ≤ n
  n1 : n ≤ 1000
abbrev qObj (l : Addr) (n : Int) (tn : Tok) (k : Nat) : Obj := listOf [Value.ref l, .int n tn].toArray k
theorem news_front {h₀ h h' : Heap} {L : Addr} {as : List Addr} {ch ch' rest : List (Addr × Obj)} (N : News h₀ L h (ch ++ rest)) (K : KeptBut as h h') (hr : ∀ p ∈ rest, p.1 ∉ as) (N' : News h₀ L h' ch') : News h₀ L h' (ch' ++ rest) := by
  intro p hp
  rcases List.mem_append.mp hp with hp | hp
  · exact N' p hp
  · exact ⟨K _ _ (N p (List.mem_append.mpr (.inr hp))).1 (hr p hp), (N p (List.mem_append.mpr (.inr hp))).2⟩
section
variable {prog : Program} {w : World} {A : Around} {s : Shared} {h₀ : Heap} {L : Addr} {m : Str → Option Value} {env : Env}
theorem comp_pulls {elt : Expr} {x : Str} {scope : Scope} {cl : List (Str × Addr)} {Pv : Nat → Value → Prop} {Fin : List Value → List (Addr × Obj) → Prop} {q l : Addr} {kq : Nat} {rest : List (Addr × Obj)} {lo hi : Int}
    (helt : ∀ I oI C oC D oD m₂ h tk (Qy E' : Value → Shared → Prop) us ns n tn j, LCg.NsObj oC m₂ → Fr h₀ L h m → News h₀ L h ((I, oI) :: (C, oC) :: (D, oD) :: (q, qObj l n tn kq) :: (l, listOf us.toArray j) :: rest) →
      LCg.Off3 I C D ((q, qObj l n tn kq) :: (l, listOf us.toArray j) :: rest) → QOk us ns n → n < 1000 →
      (∀ z t h' tk' us' ns' j' tn', lo ≤ z → z < hi → QOk us' ns' (n + 1) → Fr h₀ L h' m → News h₀ L h' ((I, oI) :: (C, oC) :: (D, oD) :: (q, qObj l (n + 1) tn' kq) :: (l, listOf us'.toArray j') :: rest) → Qy (.int z t) { s with heap := h', toks := tk' }) →
      wpAny (model prog w) A (eval elt (compEnvC scope cl C env)) Qy E' { s with heap := h, toks := tk }) :
    ∀ (k i : Nat) (ys : List Value) (zs : List Int) us ns n tn j, IntsAre ys zs → (∀ z ∈ zs, lo ≤ z ∧ z < hi) → QOk us ns n → n + k ≤ 1000 →
      (∀ ys' zs' us' ns' tn' j', IntsAre ys' zs' → zs'.length = zs.length + k → (∀ z ∈ zs', lo ≤ z ∧ z < hi) → QOk us' ns' (n + k) → Fin ys' ((q, qObj l (n + k) tn' kq) :: (l, listOf us'.toArray j') :: rest)) →
      LCg.CompRest prog w A h₀ L m env elt x scope cl s (fun _ => True) Pv Fin k i ys ((q, qObj l n tn kq) :: (l, listOf us.toArray j) :: rest)
  | 0, i, ys, zs, us, ns, n, tn, j, hys, hzs, hq, hn, fin => by
    have := fin ys zs us ns tn j hys rfl hzs (by rw [Int.natCast_zero, Int.add_zero]; exact hq)
    rw [Int.natCast_zero, Int.add_zero] at this
    exact this
  | k + 1, i, ys, zs, us, ns, n, tn, j, hys, hzs, hq, hn, fin => by
    refine LCg.CompRest.succ fun v I oI C oC D m₂ h tk E' hP hoC hv F N off hne => ?_
    refine helt I oI C oC D _ m₂ h tk _ E' us ns n tn j hoC F N off hq (by omega) fun z t h' tk' us' ns' j' tn' z0 z1 hq' F' N' => ?_
    refine LCg.CompEnd.intro F' N' ((q, qObj l (n + 1) tn' kq) :: (l, listOf us'.toArray j') :: rest) (fun p hp => hp) off trivial ?_
    refine comp_pulls helt k (i + 1) (ys ++ [.int z t]) (zs ++ [z]) us' ns' (n + 1) tn' j' (hys.append (.cons z t .nil)) (fun y hy => ?_) hq' (by omega) fun ys' zs' us'' ns'' tn'' j'' a b c d => ?_
    · rcases List.mem_append.mp hy with hy | hy
      · exact hzs y hy
      · rw [List.mem_singleton.mp hy]; exact ⟨z0, z1⟩
    · have e : n + 1 + (k : Int) = n + ((k + 1 : Nat) : Int) := by push_cast; omega
      rw [e] at d ⊢
      exact fin ys' zs' us'' ns'' tn'' j'' a (by rw [b, List.length_append, List.length_singleton]; omega) c d
end
theorem news_in {h₀ h h' : Heap} {L : Addr} {as : List Addr} {pre ch post ch' : List (Addr × Obj)} (N : News h₀ L h (pre ++ (ch ++ post))) (K : KeptBut as h h') (h1 : ∀ p ∈ pre, p.1 ∉ as) (h2 : ∀ p ∈ post, p.1 ∉ as) (N' : News h₀ L h' ch') : News h₀ L h' (pre ++ (ch' ++ post)) := by
  intro p hp
  rcases List.mem_append.mp hp with hp | hp
  · exact ⟨K _ _ (N p (List.mem_append.mpr (.inl hp))).1 (h1 p hp), (N p (List.mem_append.mpr (.inl hp))).2⟩
  · rcases List.mem_append.mp hp with hp | hp
    · exact N' p hp
    · exact ⟨K _ _ (N p (List.mem_append.mpr (.inr (List.mem_append.mpr (.inr hp))))).1 (h2 p hp), (N p (List.mem_append.mpr (.inr (List.mem_append.mpr (.inr hp))))).2⟩
theorem pull_at (w : World) {mean : ExcName → Option Value} {mg mb : Str → Option Value} {dp un : Nat} {gd : Option (List Code)} {cn : Str} {cs : Scope} {a : Addr} {ccd : Value} {cl : List (Str × Addr)} {outer : List Env} {A₀ : Around} {base h₀ : Heap} {L : Addr} {m : Str → Option Value} {s : Shared} {Q E : Value → Shared → Prop}
    {q l : Addr} {us : List Value} {ns : List Int} {j k : Nat} {n many : Int} {tn tm : Tok} (pre : List (Addr × Obj)) {rest : List (Addr × Obj)}
    (B : Below A₀ base outer h₀) (F : Fr h₀ L s.heap m) (X : (hd.heap_39 w.params).In h₀) (N : News h₀ L s.heap (pre ++ ((q, qObj l n tn k) :: (l, listOf us.toArray j) :: rest))) (T : Top hd.view_39 LZ mean mg mb h₀) (hk : cs.kind = .function)
    (hq : QOk us ns n) (hn : n < 1000) (hm0 : 0 < many) (hm1 : many ≤ 256) (hql : @Ne Nat q l) (h1 : ∀ p ∈ pre, p.1 ∉ [q, l]) (h2 : ∀ p ∈ rest, p.1 ∉ [q, l]) (hdp : dp + 1 < recursionLimit) (hun : un + 8 < cLine)
    (ret : ∀ r t h' tk us' ns' j' tn', 0 ≤ r → r < many → QOk us' ns' (n + 1) → Fr h₀ L h' m → News h₀ L h' (pre ++ ((q, qObj l (n + 1) tn' k) :: (l, listOf us'.toArray j') :: rest)) → Q (.int r t) { s with heap := h', toks := tk }) :
    wpAny (model PySem.Challenge.rw_og0134_01.row.prog w) (ktrTop dp un gd cn cs L a ccd cl outer) (call (.ref 140) [.ref q, .int many tm]) Q E s := by
  have N2 : News h₀ L s.heap [(q, qObj l n tn k), (l, listOf us.toArray j)] := fun p hp => N p (List.mem_append.mpr (.inr (by
    simp only [List.mem_cons, List.not_mem_nil, or_false] at hp ⊢
    rcases hp with h | h <;> simp [h])))
  refine pull_spec w B F X N2 T hk hq.i hq.u hq.s hq.n0 (by have := hq.n1; omega) hm0 hm1 hql hdp hun fun r t h' tk us' ns' j' tn' r0 r1 hi hu hs F' N' K' => ?_
  refine ret r t h' tk us' ns' j' tn' r0 r1 ⟨hi, Nat.le_trans hu hq.u, Nat.le_trans hs hq.s, by have := hq.n0; omega, by omega⟩ F' ?_
  exact news_in (ch := [_, _]) (ch' := [_, _]) N K' h1 h2 N'
end Mine
end
section
open PySem PySem.W PyProof.Rows PySem.Calls PySem.Spec PyProof.V
namespace Mine
theorem walk_off_L4 : True := by
  w_top off
  trivial
noncomputable def fnAt (K : Frag) (f : Addr) : Option FuncData := match K.lookup f with
  | some ⟨_, _, .func fd, _⟩ => some fd
  | _ => none
noncomputable def bodyAt (K : Frag) (f : Addr) : List Stmt := match fnAt K f with
  | some fd => (match fd.body with | .stmts b => b | _ => [])
  | none => []
noncomputable def scopeAt (K : Frag) (f : Addr) : Scope := match fnAt K f with
  | some fd => fd.scope
  | none => default
noncomputable abbrev lawB (p : Params) : List Stmt := bodyAt (hd.heap_39 p) 152
noncomputable abbrev lawEnv (p : Params) (L : Addr) : Env := envOfC (Str.ofString "law") (scopeAt (hd.heap_39 p) 152) L 152 (.ref 151)
theorem name_any {M : Model} {A : Around} {E : Value → Shared → Prop} {s : Shared} {K : Frag} {h₀ : Heap} {L : Addr} {m mg mb : Str → Option Value} {p : Program} {loose : List Str} {x : Str} {pos : Pos} {v : Value} {env : Env} {Q : Value → Shared → Prop} (F : Fr h₀ L s.heap m) (X : K.In h₀) (T : TopRead p loose mg mb h₀)
    (e : nsIn K mainGlobals x = some none) (hv : bootBuiltins x = some v) (hn : x ≠ "__name__") (h : Q v s) (hg : env.globals = mainGlobals) (hb : env.builtins = builtinsNs) (hk : env.scope.kind = .function) (hx : env.kindOf x = some .globalImplicit) (hd : (x == ("__debug__" : Str)) = false) :
    wpAny M A (eval (.Name x pos) env) Q E s :=
  Name_function_global hk hx (loadGlobal_builtin (show s.heap.Ns env.globals mg from hg ▸ T.g.keeps F.keep) (mg_none_of X T.g e) (show s.heap.Ns env.builtins mb from hb ▸ T.b.keeps F.keep) ((T.builtins x hn).trans hv) h) hd
theorem off_nil {q l : Nat} : ∀ p ∈ ([] : List (Addr × Obj)), p.1 ∉ ([q, l] : List Nat) := fun _ h => nomatch h
theorem off_cons {q l a : Nat} {o : Obj} {rest : List (Addr × Obj)} (h1 : @Ne Nat a q) (h2 : @Ne Nat a l) (h : ∀ p ∈ rest, p.1 ∉ ([q, l] : List Nat)) : ∀ p ∈ (a, o) :: rest, p.1 ∉ ([q, l] : List Nat) := by
  intro p hp hm
  rcases List.mem_cons.mp hp with rfl | hp
  · rcases List.mem_cons.mp hm with e | hm
    · exact h1 e
    · exact h2 (List.mem_singleton.mp hm)
  · exact h p hp hm
theorem fr_name {h₀ h : Heap} {L : Addr} {m : Str → Option Value} {x : Str} {v : Value} (F : Fr h₀ L h m) (e : m x = some v) : Fr h₀ L h (fun y => if y = x then some v else m y) := by
  have : (fun y => if y = x then some v else m y) = m := by
    funext y
    by_cases h : y = x
    · rw [if_pos h, h, e]
    · rw [if_neg h]
  rw [this]; exact F
end Mine
end
section
open PySem PySem.W PyProof.Rows PySem.Calls PySem.Spec PyProof.V
namespace Mine
theorem walk_off_LI : True := by
  w_top off
  trivial
theorem bInts_inj {a b : Array UInt8} (h : KBw.bInts a = KBw.bInts b) : a = b := by
  have inj : Function.Injective (fun c : UInt8 => (c.toNat : Int)) := fun x y h => by
    have h1 : x.toNat = y.toNat := Int.ofNat.inj (show ((x.toNat : Int)) = (y.toNat : Int) from h)
    exact UInt8.toNat_inj.mp h1
  have : a.toList = b.toList := (List.map_inj_right (fun x y h => inj h)).mp h
  exact Array.toList_inj.mp this
theorem toList_eq {a b : Array UInt8} (h : KBw.bInts a = KBw.bInts b) : (a.toList == b.toList) = true := by
  rw [bInts_inj h]; exact beq_self_eq_true _
theorem toList_ne {a b : Array UInt8} (h : KBw.bInts a = KBw.bInts b) : (a.toList != b.toList) = false := by
  rw [bInts_inj h]; exact bne_self_eq_false _
theorem news_kept {h₀ h h' : Heap} {L : Addr} {news : List (Addr × Obj)} (N : News h₀ L h news) (K : KeptBut [] h h') : News h₀ L h' news := fun p hp => ⟨K _ _ (N p hp).1 (fun h => nomatch h), (N p hp).2⟩
theorem lay_octet (ks : List Int) (r : Int) : List.foldl lay1 ks [.inl r, .inr (1, 1)] = ks ++ [r, r] := by
  simp [lay1, copyN]
theorem lay_times (ks : List Int) {r dv : Int} (r0 : 0 ≤ r) (d0 : 1 ≤ dv) (hd : dv ≤ (ks.length : Int)) : List.foldl lay1 ks [.inr ((1 + r) * dv, dv)] = ks ++ (List.replicate (1 + r).toNat (ks.drop (ks.length - dv.toNat))).flatten := by
  simp only [List.foldl_cons, List.foldl_nil, lay1]
  rw [Int.toNat_mul (by omega) (by omega), copyN_times _ _ (by omega)]
theorem lay_cut (ks : List Int) {r lv dv : Int} (r0 : 0 ≤ r) (r1 : r ≤ lv) : List.foldl lay1 ks [.inr (r, dv), .inr (lv - r, dv)] = copyN ks lv.toNat dv.toNat := by
  simp only [List.foldl_cons, List.foldl_nil, lay1]
  rw [← copyN_add, show r.toNat + (lv - r).toNat = lv.toNat by omega]
theorem lay_cut0 (ks : List Int) {r lv dv : Int} (r0 : r = 0) : List.foldl lay1 ks [.inr (lv - r, dv)] = copyN ks lv.toNat dv.toNat := by
  simp only [List.foldl_cons, List.foldl_nil, lay1]
  rw [r0, Int.sub_zero]
theorem small_mul {r dv : Int} (r0 : 0 ≤ r) (r1 : r < 4) (d0 : 1 ≤ dv) (d1 : dv ≤ 10) : 0 ≤ (1 + r) * dv ∧ (1 + r) * dv ≤ 40 := by
  refine ⟨Int.mul_nonneg (by omega) (by omega), ?_⟩
  have := Int.mul_le_mul (show 1 + r ≤ 4 by omega) d1 (by omega) (by decide)
  omega
section
variable {prog : Program} {w : World} {A : Around} {E : Value → Shared → Prop} {s : Shared}
theorem mul_K {c : Array UInt8} {cs : List Int} {n : Int} {t u : Tok} {Q : Value → Shared → Prop} (hc : KBw.bInts c = cs) (h0 : 0 < cs.length) (h1 : cs.length ≤ 16) (n0 : 0 ≤ n) (n1 : n ≤ 100)
    (h : ∀ t' k d, KBw.bInts d = (List.replicate n.toNat cs).flatten → Q (.bytes d t') { s with toks := k }) : wpAny (model prog w) A (binaryOp .Mult (.bytes c t) (.int n u)) Q E s := by
  have hl : c.toList.length = cs.length := by rw [← hc]; simp [KBw.bInts]
  have e : c = c.toList.toArray := by simp
  rw [e]
  refine bytes_mul_any (fun q => ?_) (by omega) (by omega) (by omega) fun t' k => h t' k _ ?_
  · rw [q] at hl; simp at hl; omega
  · rw [KBw.ints_list, List.map_flatten, List.map_replicate]
    exact congrArg (fun z => (List.replicate n.toNat z).flatten) hc
theorem clip_back1 {n : Nat} {dv : Int} (d0 : 1 ≤ dv) (hd : dv ≤ (n : Int)) : clipAt n (↑n - dv) = n - dv.toNat := by
  obtain ⟨c, rfl⟩ := Int.eq_ofNat_of_zero_le (Int.le_trans (by decide) d0)
  have h2 : c ≤ n := Int.ofNat_le.mp hd
  have e : (n : Int) - (c : Int) = ((n - c : Nat) : Int) := (Int.ofNat_sub h2).symm
  unfold clipAt
  rw [e, if_neg (Int.not_lt.mpr (Int.natCast_nonneg _)), Int.min_eq_left (Int.ofNat_le.mpr (Nat.sub_le n c)), Int.max_eq_right (Int.natCast_nonneg _)]
  rfl
theorem back_toNat {n i : Nat} {dv : Int} (d0 : 1 ≤ dv) : ((n : Int) + (i : Int) - dv).toNat = n + i - dv.toNat := by
  obtain ⟨c, rfl⟩ := Int.eq_ofNat_of_zero_le (Int.le_trans (by decide) d0)
  exact Int.toNat_sub (n + i) c
theorem clip_back {ks : List Int} {dv : Int} (d0 : 1 ≤ dv) (hd : dv ≤ (ks.length : Int)) : List.take (ks.length - clipAt ks.length (↑ks.length - dv)) (List.drop (clipAt ks.length (↑ks.length - dv)) ks) = ks.drop (ks.length - dv.toNat) := by
  have : clipAt ks.length (↑ks.length - dv) = ks.length - dv.toNat := clip_back1 d0 hd
  rw [this, List.take_of_length_le (by simp)]
end
end Mine
end
section
open PySem PySem.W PyProof.Rows PySem.Calls PySem.Spec PyProof.V
namespace Mine
theorem walk_off_LH : True := by
  w_top off
  trivial
local macro_rules | `(tactic| walk_at "call ref") => `(tactic| (refine halt ?_))
local macro_rules | `(tactic| walk_at "getAttr ref") => `(tactic| (refine halt ?_))
local macro_rules | `(tactic| walk_at "call ref") => `(tactic| (k_here; (with_reducible show wpAny _ _ (call (Value.ref 140) _) _ _ _); (rename QOk _ _ _ => lQ'); k_dflt (refine' pull_at _ [] (by k_asm) (by k_asm) (by k_asm) (by k_asm) (by k_asm) rfl lQ' (by omega) (by omega) (by omega) (by omega) off_nil (by ((repeat (refine off_cons (by omega) (by omega) ?_)); exact off_nil)) (by decide) (by decide) ?_); intro r' t' h' tk' us' ns' j' tn' r0' r1' hQ' F' N'; (try simp only [List.nil_append] at N')))
local macro_rules | `(tactic| walk_at "call type:bytes") => `(tactic| (refine halt ?_))
set_option maxRecDepth 100000 in
set_option maxHeartbeats 8000000 in
theorem stageH (w : World) {mean : ExcName → Option Value} {mg mb : Str → Option Value} {h₀ : Heap} {s : Shared} {Q : Flow → Shared → Prop} {E : Value → Shared → Prop} {L0 : Nat} {m : Str → Option Value}
    {q l kq j : Nat} {us : List Value} {ns : List Int} {n : Int} {tn : Tok} {oW oD oQ : Obj} {b : Array UInt8} {ks : List Int} {tb td : Tok} {dv : Int} {lv : Int} {tl : Tok}
    (X : (hd.heap_39 w.params).In h₀) (T : Top hd.view_39 LZ mean mg mb h₀) (F : Fr h₀ L0 s.heap (fun y => if y = Str.ofString "ahead" then some (.bytes b tb) else if y = Str.ofString "length" then some (.int lv tl) else m y))
    (N : News h₀ L0 s.heap [(q, qObj l n tn kq), (l, listOf us.toArray j), (L0 + 1 + 1 + 1, oW), (L0 + 1 + 1, oD), (L0 + 1, oQ)])
    (hq : QOk us ns n) (hn : n ≤ 960) (lt1 : L0 + 1 + 1 + 1 < l) (lt2 : l < q) (dD : oD.data = .cell (some (.int dv td))) (dQ : oQ.data = .cell (some (.ref q)))
    (hkb : KBw.bInts b = ks) (hkl : ks.length ≤ 8) (hkr : ∀ k ∈ ks, 0 ≤ k ∧ k < 256) (hdv0 : 1 ≤ dv) (hdv1 : dv ≤ 10) (hd : dv ≤ (ks.length : Int)) (hlv0 : 1 ≤ lv) (hlv1 : lv ≤ 30)
    {b6 : Array UInt8} {tw : Tok} (dW : oW.data = .cell (some (.bytes b6 tw))) (hb6 : KBw.bInts b6 = copyN ks lv.toNat dv.toNat)
    (ret : ∀ h' tk, (∀ b o, h₀.get? b = some o → h'.get? b = some o) → Q (.ret (.bool true)) { s with heap := h', toks := tk }) : wpR (model PySem.Challenge.rw_og0134_01.row.prog w) (callerA.deeper (lawEnv w.params L0)) (execs ((lawB w.params).drop 16) (lawEnv w.params L0)) Q E s := by
  revert X; k_fill; intro X
  show wpR _ (callerA.deeper (envOfC _ ⟨_, [_, _, _, _, _, _, _, _, _, _, _, _, _, _, _, _, _, _, _, _, _, _, _, _, _], _, _, _⟩ _ _ _)) (execs [_, _] (envOfC _ ⟨_, [_, _, _, _, _, _, _, _, _, _, _, _, _, _, _, _, _, _, _, _, _, _, _, _, _], _, _, _⟩ _ _ _)) _ _ _
  obtain ⟨hp0, gs0, dr0, tk0, os0⟩ := s
  dsimp only at F N ret
  have B1 : Below callerA h₀ [] h₀ := below_caller h₀
  have hbs : b.size = ks.length := by rw [← KBw.ints_length, hkb]
  refine wpR_execs_cons (wpR_of ?_)
  k_steps
  refine wpR_execs_cons (wpR_Return_some (wpR_Compare1 (wpR_evalCall ?_)))
  k_steps
  · rename Fr h₀ L0 _ _ => F3
    exact Keeps.K (by k_is) (X.keeps F3.keep)
  rename_i r t h1 tk1 us1 ns1 j1 tn1 r0 r1 hQ1 h2 D h3 lD P h4 F4 N4 lP
  k_dflt (refine' laid_spec (vs := [Value.int r t, Value.ref D]) (ps := [.inl r, .inr (1, 1)]) w ?kB F4 X T rfl N4 ?kP hkb (by omega) ?kok ?kle ?kdp ?kun ?_; (case kB => exact B1); (case kdp => decide); (case kun => decide))
  case kP => exact .int r t (.tup D 1 1 _ _ (List.Mem.head _) .nil)
  case kok => exact ⟨⟨r0, r1, by omega⟩, ⟨by decide, by decide, by simp [lay1]; omega, by simp [lay1]; omega⟩, trivial⟩
  case kle => (simp only [List.foldl_cons, List.foldl_nil, lay1, copyN_length, List.length_append, List.length_singleton]; omega)
  intro h5 tk5 t5 b5 hb5 F5 K5
  have N5 := news_kept N4 K5
  k_steps
  refine Halt.on ?_
  rename Fr h₀ L0 _ _ => F6
  rename News h₀ L0 _ _ => N6
  k_dflt (refine' call_bytes_ints (ns := [r, r]) ?kl (.cons r t (.cons r t .nil)) ?kr ?kz rfl ?_; (case kl => exact ⟨_, (N6 _ (List.Mem.head _)).1, rfl, _, rfl⟩); (case kz => exact Nat.le_of_ble_eq_true rfl); (case kr => exact fun z hz => by simp only [List.mem_cons, List.not_mem_nil, or_false, or_self] at hz; subst hz; exact ⟨r0, r1⟩))
  intro h7 t7 k7 hk7
  have F7 := F6.keeps hk7
  have hb7 : KBw.bInts (byteArr [r, r]) = [r, r] := KBa.ints_make (fun z hz => by simp only [List.mem_cons, List.not_mem_nil, or_false, or_self] at hz; subst hz; exact ⟨r0, r1⟩)
  k_steps
  rw [toList_eq (by rw [hb5, lay_octet]; exact (by assumption : KBw.bInts (b ++ byteArr [r, r]) = ks ++ [r, r]).symm)]
  exact ret _ _ F7.keep
end Mine
end
section
open PySem PySem.W PyProof.Rows PySem.Calls PySem.Spec PyProof.V
set_option maxRecDepth 100000
namespace Mine
theorem walk_off_LT : True := by
  w_top off
  trivial
section
variable {prog : Program} {w : World} {A : Around} {E : Value → Shared → Prop} {s : Shared} {h₀ : Heap} {env : Env}
theorem forR_tuple {R : Result → Shared → Prop} {x : Str} {px : Pos} {body : List Stmt} {l : Addr} {vs : List Value} {m : Str → Option Value} {news : List (Addr × Obj)}
    (J : Nat → (Str → Option Value) → List (Addr × Obj) → Prop) (hh : A.handled = none) (hl : (l, tup vs) ∈ news)
    (hx : env.kindOf x = some .local) (hp : (env.scope.kind == .class || (env.scope.kind == .module && env.locals != env.globals)) = false)
    (F : Fr h₀ env.locals s.heap m) (N : News h₀ env.locals s.heap news) (h0 : J 0 m news) (hJl : ∀ i m nx, J i m nx → (l, tup vs) ∈ nx)
    (turn : ∀ (i : Nat) v m₁ nx h tk I oI, vs[i]? = some v → J i m₁ nx → (∀ p ∈ nx, p.1 ≠ I) → Fr h₀ env.locals h (fun y => if y = x then some v else m₁ y) → News h₀ env.locals h (nx ++ [(I, oI)]) →
      wpR (model prog w) A (execs body env) (TurnI h₀ env.locals s I oI (J (i + 1)) R) (notedBy (model prog w) A env fun e s' => R (.error e) s') { s with heap := h, toks := tk })
    (done : ∀ m₁ nx h tk, J vs.length m₁ nx → Fr h₀ env.locals h m₁ → News h₀ env.locals h nx → R (.ok .next) { s with heap := h, toks := tk }) :
    wpAny (model prog w) A (pyIter (.ref l)) (fun it s₂ => codeR (model prog w) A (.forLoop (.Name x px) it body [] env) R s₂) E s := by
  have hol : s.heap.get? l = some (tup vs) := (N _ hl).1
  have hls : s.heap.IsTuple l vs.toArray := ⟨_, hol, rfl, _, rfl⟩
  have hne : l ≠ s.heap.objs.size := Nat.ne_of_lt (Heap.lt_size hol)
  refine wpAny_pyIter_tuple hls ?_
  have hI0 : h₀.get? s.heap.objs.size = none := next_is_new F
  have hLI : env.locals ≠ s.heap.objs.size := Nat.ne_of_lt F.ns.lt
  have hLl : env.locals ≠ l := fun e => (N _ hl).2.1 e.symm
  have W := Walks.tuple (prog := prog) (w := w) hh s.heap.objs.size l hne vs.toArray
  have hlen : vs.toArray.size = vs.length := by simp
  rw [hlen] at W
  refine forR_walk J W hx hp (fun h => ?_) (fun b hb => by rw [List.mem_singleton.mp hb]; exact hI0) ⟨⟨_, Heap.get?_push_size _ rfl, rfl, rfl⟩, hls.at fun o e => Heap.get?_push_of_some _ e⟩ (F.push _)
    (fun p hp => ⟨Heap.get?_push_of_some _ (N p hp).1, (N p hp).2⟩) (fun p hp h => absurd (Heap.lt_size (N p hp).1) ((List.mem_singleton.mp h) ▸ Nat.lt_irrefl _)) h0 ?_ ?_
  · rcases List.mem_cons.mp h with e | h
    · exact hLI e
    · exact hLl (List.mem_singleton.mp h)
  · rintro i v m₁ nx h tk hi hP hJ hnx hst F₁ N₁
    have hv : vs[i]? = some v := by simpa using hP
    obtain ⟨oI, hoI, hrest⟩ := id hst.1
    refine wpR_mono (turn i v m₁ nx h tk s.heap.objs.size oI hv hJ (fun p hp e => hnx p hp (List.mem_singleton.mpr e)) F₁ (fun p hp => ?_)) (fun f s₃ h₃ => ?_) fun _ _ e => e
    · rcases List.mem_append.mp hp with hp | hp
      · exact N₁ p hp
      · rw [List.mem_singleton.mp hp]
        exact ⟨hoI, hLI.symm, hI0⟩
    · cases f with
      | ret v => exact h₃
      | brk => exact h₃
      | next =>
        obtain ⟨h4, tk4, m4, nx4, rfl, F4, N4, d4, J4⟩ := h₃
        exact ⟨h4, tk4, m4, nx4, rfl, ⟨⟨oI, (N4 _ (List.mem_append.mpr (.inr (List.mem_singleton.mpr rfl)))).1, hrest⟩, ⟨_, (N4 _ (List.mem_append.mpr (.inl (hJl _ _ _ J4)))).1, rfl, _, rfl⟩⟩, F4, fun p hp => N4 p (List.mem_append.mpr (.inl hp)), fun p hp h => d4 p hp (List.mem_singleton.mp h), J4⟩
      | cont =>
        obtain ⟨h4, tk4, m4, nx4, rfl, F4, N4, d4, J4⟩ := h₃
        exact ⟨h4, tk4, m4, nx4, rfl, ⟨⟨oI, (N4 _ (List.mem_append.mpr (.inr (List.mem_singleton.mpr rfl)))).1, hrest⟩, ⟨_, (N4 _ (List.mem_append.mpr (.inl (hJl _ _ _ J4)))).1, rfl, _, rfl⟩⟩, F4, fun p hp => N4 p (List.mem_append.mpr (.inl hp)), fun p hp h => d4 p hp (List.mem_singleton.mp h), J4⟩
  · exact fun m₁ nx h tk hJ F₁ N₁ => done m₁ nx h tk hJ F₁ N₁
end
end Mine
end
section
open PySem PySem.W PyProof.Rows PySem.Calls PySem.Spec PyProof.V
namespace Mine
theorem walk_off_LG : True := by
  w_top off
  trivial
local macro_rules | `(tactic| walk_at "call ref") => `(tactic| (refine halt ?_))
local macro_rules | `(tactic| walk_at "getAttr ref") => `(tactic| (refine halt ?_))
local macro_rules | `(tactic| walk_at "call ref") => `(tactic| (k_here; (with_reducible show wpAny _ _ (call (Value.ref 140) _) _ _ _); (rename QOk _ _ _ => lQ'); k_dflt (refine' pull_at _ [] (by k_asm) (by k_asm) (by k_asm) (by k_asm) (by k_asm) rfl lQ' (by omega) (by omega) (by omega) (by omega) off_nil (by ((repeat (refine off_cons (by omega) (by omega) ?_)); exact off_nil)) (by decide) (by decide) ?_); intro r' t' h' tk' us' ns' j' tn' r0' r1' hQ' F' N'; (try simp only [List.nil_append] at N')))
set_option maxRecDepth 100000 in
set_option maxHeartbeats 8000000 in
theorem stageG (w : World) {mean : ExcName → Option Value} {mg mb : Str → Option Value} {h₀ : Heap} {s : Shared} {Q : Flow → Shared → Prop} {E : Value → Shared → Prop} {L0 : Nat} {m : Str → Option Value}
    {q l kq j : Nat} {us : List Value} {ns : List Int} {n : Int} {tn : Tok} {oW oD oQ : Obj} {b : Array UInt8} {ks : List Int} {tb td : Tok} {dv : Int} {lv : Int} {tl : Tok} {bt : Array UInt8} {tt : Tok}
    (X : (hd.heap_39 w.params).In h₀) (T : Top hd.view_39 LZ mean mg mb h₀) (F : Fr h₀ L0 s.heap (fun y => if y = Str.ofString "ahead" then some (.bytes b tb) else if y = Str.ofString "length" then some (.int lv tl) else if y = Str.ofString "text" then some (.bytes bt tt) else m y))
    (N : News h₀ L0 s.heap [(q, qObj l n tn kq), (l, listOf us.toArray j), (L0 + 1 + 1 + 1, oW), (L0 + 1 + 1, oD), (L0 + 1, oQ)])
    (hq : QOk us ns n) (hn : n ≤ 955) (lt1 : L0 + 1 + 1 + 1 < l) (lt2 : l < q) (dD : oD.data = .cell (some (.int dv td))) (dQ : oQ.data = .cell (some (.ref q)))
    (hkb : KBw.bInts b = ks) (hkl : ks.length ≤ 8) (hkr : ∀ k ∈ ks, 0 ≤ k ∧ k < 256) (hdv0 : 1 ≤ dv) (hdv1 : dv ≤ 10) (hd : dv ≤ (ks.length : Int)) (hlv0 : 1 ≤ lv) (hlv1 : lv ≤ 30)
    {b6 : Array UInt8} {tw : Tok} (dW : oW.data = .cell (some (.bytes b6 tw))) (hb6 : KBw.bInts b6 = copyN ks lv.toNat dv.toNat)(hbt : bt.size ≤ 100)
    (ret : ∀ h' tk, (∀ b o, h₀.get? b = some o → h'.get? b = some o) → Q (.ret (.bool true)) { s with heap := h', toks := tk }) : wpR (model PySem.Challenge.rw_og0134_01.row.prog w) (callerA.deeper (lawEnv w.params L0)) (execs ((lawB w.params).drop 15) (lawEnv w.params L0)) Q E s := by
  revert X; k_fill; intro X
  show wpR _ (callerA.deeper (envOfC _ ⟨_, [_, _, _, _, _, _, _, _, _, _, _, _, _, _, _, _, _, _, _, _, _, _, _, _, _], _, _, _⟩ _ _ _)) (execs [_, _, _] (envOfC _ ⟨_, [_, _, _, _, _, _, _, _, _, _, _, _, _, _, _, _, _, _, _, _, _, _, _, _, _], _, _, _⟩ _ _ _)) _ _ _
  obtain ⟨hp0, gs0, dr0, tk0, os0⟩ := s
  dsimp only at F N ret
  have B1 : Below callerA h₀ [] h₀ := below_caller h₀
  have hbs : b.size = ks.length := by rw [← KBw.ints_length, hkb]
  refine wpR_execs_cons (wpR_For ?_)
  k_steps
  refine Halt.on ?_
  k_dflt (refine' find_spec w ?kB F X T rfl rfl (by rw [KBw.ints_length]; exact hbt) (fun _ h => KBw.ints_in h) ?kdp ?kun ?_; (case kB => exact B1); (case kdp => decide); (case kun => decide))
  intro h1 tk1 P1 vs1 j1 ps1 tl1 pa1 ok1 e1 l1 F1 N1 K1
  have NB1 := news_kept N K1
  k_steps
  refine Halt.on ?_
  k_dflt (refine' lazy_spec w ?kB F1 X T rfl rfl (by rw [KBw.ints_length]; exact hbt) (fun _ h => KBw.ints_in h) ?kdp ?kun ?_; (case kB => exact B1); (case kdp => decide); (case kun => decide))
  intro h2 tk2 P2 vs2 j2 ps2 tl2 pa2 ok2 e2 l2 F2 N2 K2
  have NB2 := news_kept NB1 K2
  have N12 := news_kept N1 K2
  have NA : News h₀ L0 h2 (((P1, listOf vs1.toArray j1) :: tl1) ++ (((P2, listOf vs2.toArray j2) :: tl2) ++ [(q, qObj l n tn kq), (l, listOf us.toArray j), (L0 + 1 + 1 + 1, oW), (L0 + 1 + 1, oD), (L0 + 1, oQ)])) := fun p hp => by
    rcases List.mem_append.mp hp with hp | hp
    · exact N12 p hp
    · rcases List.mem_append.mp hp with hp | hp
      · exact N2 p hp
      · exact NB2 p hp
  clear N12 NB1 NB2 N1 N2 F1
  k_steps
  rename_i D hD FD ND lD
  obtain ⟨LL, NL, hLD, hL1, hL2, hLB⟩ : ∃ LL, News h₀ L0 hD LL ∧ (D, tup [.ref P1, .ref P2]) ∈ LL ∧ (∀ p ∈ (P1, listOf vs1.toArray j1) :: tl1, p ∈ LL) ∧ (∀ p ∈ (P2, listOf vs2.toArray j2) :: tl2, p ∈ LL) ∧ (∀ p ∈ [(q, qObj l n tn kq), (l, listOf us.toArray j), (L0 + 1 + 1 + 1, oW), (L0 + 1 + 1, oD), (L0 + 1, oQ)], p ∈ LL) :=
    ⟨_, ND, List.Mem.head _, fun p hp => List.mem_cons_of_mem _ (List.mem_append_left _ hp), fun p hp => List.mem_cons_of_mem _ (List.mem_append_right _ (List.mem_append_left _ hp)), fun p hp => List.mem_cons_of_mem _ (List.mem_append_right _ (List.mem_append_right _ hp))⟩
  clear ND lD
  refine forR_tuple (vs := [.ref P1, .ref P2]) (fun _ m' nx => nx = LL ∧ m' (Str.ofString "ahead") = some (.bytes b tb) ∧ m' (Str.ofString "length") = some (.int lv tl) ∧ m' (Str.ofString "text") = some (.bytes bt tt)) rfl hLD rfl rfl FD NL ⟨rfl, rfl, rfl, rfl⟩ (fun _ _ _ h => by rw [h.1]; exact hLD) ?turn ?done
  case done =>
    intro m₁ nx h tk hJ F₁ N₁
    obtain ⟨rfl, ma, ml, mt⟩ := hJ
    dsimp only
    exact stageH w X T (fr_name (fr_name F₁ ml) ma) (fun p hp => N₁ p (hLB p hp)) hq (by omega) lt1 lt2 dD dQ hkb hkl hkr hdv0 hdv1 hd hlv0 hlv1 dW hb6 ret
  case turn =>
    intro i v m₁ nx h tk I oI hv hJ hI F₁ N₁
    obtain ⟨rfl, ma, ml, mt⟩ := hJ
    obtain ⟨P, vs, jj, ps, tl', rfl, pa, ok, e, hL⟩ : ∃ P vs jj ps tl', v = Value.ref P ∧ PartsAre tl' vs ps ∧ LaidOk [] ps ∧ ps.foldl lay1 [] = KBw.bInts bt ∧ ∀ p ∈ (P, listOf vs.toArray jj) :: tl', p ∈ nx := by
      match i, hv with
      | 0, hv => exact ⟨P1, vs1, j1, ps1, tl1, (Option.some.inj hv).symm, pa1, ok1, e1, hL1⟩
      | 1, hv => exact ⟨P2, vs2, j2, ps2, tl2, (Option.some.inj hv).symm, pa2, ok2, e2, hL2⟩
      | i + 2, hv => exact nomatch hv
    have Fx : Fr h₀ L0 h (fun y => if y = Str.ofString "text" then some (.bytes bt tt) else if y = Str.ofString "parts" then some (.ref P) else m₁ y) := fr_name F₁ ((if_neg (by decide)).trans mt)
    refine wpR_execs_cons (wpR_If (wpR_isTrue_Compare1 (wpR_evalCall ?_)))
    k_steps
    · exact Keeps.K (by k_is) (X.keeps Fx.keep)
    have NP : News h₀ L0 _ ((P, listOf vs.toArray jj) :: tl') := fun p hp => N₁ p (List.mem_append_left _ (hL p hp))
    k_dflt (refine' laid_spec (ks := []) w ?kB Fx X T rfl NP pa rfl (by decide) ok ?kle ?kdp ?kun ?_; (case kB => exact B1); (case kdp => decide); (case kun => decide))
    case kle => (rw [e, KBw.ints_length]; omega)
    intro h5 tk5 t5 b5 hb5 F5 K5
    have N5 := news_kept N₁ K5
    have e5 : (b5.toList != bt.toList) = false := toList_ne (hb5.trans e)
    k_steps
    refine wpR_execs_nil ?_
    dsimp only
    refine wpR_execs_nil ?_
    exact ⟨_, _, _, nx, rfl, F5, N5, hI, rfl, (if_neg (by decide)).trans ((if_neg (by decide)).trans ma), (if_neg (by decide)).trans ((if_neg (by decide)).trans ml), if_pos rfl⟩
end Mine
end
section
open PySem PySem.W PyProof.Rows PySem.Calls PySem.Spec PyProof.V
namespace Mine
theorem walk_off_LF : True := by
  w_top off
  trivial
local macro_rules | `(tactic| walk_at "call ref") => `(tactic| (refine halt ?_))
local macro_rules | `(tactic| walk_at "getAttr ref") => `(tactic| (refine halt ?_))
local macro_rules | `(tactic| walk_at "call ref") => `(tactic| (k_here; (with_reducible show wpAny _ _ (call (Value.ref 140) _) _ _ _); (rename QOk _ _ _ => lQ'); k_dflt (refine' pull_at _ [] (by k_asm) (by k_asm) (by k_asm) (by k_asm) (by k_asm) rfl lQ' (by omega) (by omega) (by omega) (by omega) off_nil (by ((repeat (refine off_cons (by omega) (by omega) ?_)); exact off_nil)) (by decide) (by decide) ?_); intro r' t' h' tk' us' ns' j' tn' r0' r1' hQ' F' N'; (try simp only [List.nil_append] at N')))
local macro_rules | `(tactic| walk_at "CompSrc") => `(tactic| (refine halt ?_))
local macro_rules | `(tactic| walk_at "eval ListComp") => `(tactic| (refine halt ?_))
local macro_rules | `(tactic| walk_at "call type:bytes") => `(tactic| (refine halt ?_))
set_option maxRecDepth 100000 in
set_option maxHeartbeats 8000000 in
theorem stageF (w : World) {mean : ExcName → Option Value} {mg mb : Str → Option Value} {h₀ : Heap} {s : Shared} {Q : Flow → Shared → Prop} {E : Value → Shared → Prop} {L0 : Nat} {m : Str → Option Value}
    {q l kq j : Nat} {us : List Value} {ns : List Int} {n : Int} {tn : Tok} {oW oD oQ : Obj} {b : Array UInt8} {ks : List Int} {tb td : Tok} {dv : Int} {lv : Int} {tl : Tok}
    (X : (hd.heap_39 w.params).In h₀) (T : Top hd.view_39 LZ mean mg mb h₀) (F : Fr h₀ L0 s.heap (fun y => if y = Str.ofString "ahead" then some (.bytes b tb) else if y = Str.ofString "length" then some (.int lv tl) else m y))
    (N : News h₀ L0 s.heap [(q, qObj l n tn kq), (l, listOf us.toArray j), (L0 + 1 + 1 + 1, oW), (L0 + 1 + 1, oD), (L0 + 1, oQ)])
    (hq : QOk us ns n) (hn : n ≤ 930) (lt1 : L0 + 1 + 1 + 1 < l) (lt2 : l < q) (dD : oD.data = .cell (some (.int dv td))) (dQ : oQ.data = .cell (some (.ref q)))
    (hkb : KBw.bInts b = ks) (hkl : ks.length ≤ 8) (hkr : ∀ k ∈ ks, 0 ≤ k ∧ k < 256) (hdv0 : 1 ≤ dv) (hdv1 : dv ≤ 10) (hd : dv ≤ (ks.length : Int)) (hlv0 : 1 ≤ lv) (hlv1 : lv ≤ 30)
    {b6 : Array UInt8} {tw : Tok} (dW : oW.data = .cell (some (.bytes b6 tw))) (hb6 : KBw.bInts b6 = copyN ks lv.toNat dv.toNat)
    (ret : ∀ h' tk, (∀ b o, h₀.get? b = some o → h'.get? b = some o) → Q (.ret (.bool true)) { s with heap := h', toks := tk }) : wpR (model PySem.Challenge.rw_og0134_01.row.prog w) (callerA.deeper (lawEnv w.params L0)) (execs ((lawB w.params).drop 14) (lawEnv w.params L0)) Q E s := by
  revert X; k_fill; intro X
  show wpR _ (callerA.deeper (envOfC _ ⟨_, [_, _, _, _, _, _, _, _, _, _, _, _, _, _, _, _, _, _, _, _, _, _, _, _, _], _, _, _⟩ _ _ _)) (execs [_, _, _, _] (envOfC _ ⟨_, [_, _, _, _, _, _, _, _, _, _, _, _, _, _, _, _, _, _, _, _, _, _, _, _, _], _, _, _⟩ _ _ _)) _ _ _
  obtain ⟨hp0, gs0, dr0, tk0, os0⟩ := s
  dsimp only at F N ret
  have B1 : Below callerA h₀ [] h₀ := below_caller h₀
  have hbs : b.size = ks.length := by rw [← KBw.ints_length, hkb]
  refine wpR_execs_cons (wpR_of ?_)
  k_steps
  refine Halt.on ?_
  rename Fr h₀ L0 _ _ => F2
  rename News h₀ L0 _ _ => N2
  k_dflt (refine LCg.ListComp_U (F₀ := F2) (by with_unfolding_all rfl) (by decide) (by rfl) (by decide) (by rfl) ?_)
  k_steps
  refine Halt.on ?_
  rename_i r9 t9 h4 tk4 us4 ns4 j4 tn4 r90 r91 hQ4 F4 N4 h5 tk5 t5 u5 v5 hR5 F5 N5 a5
  have hsz5 : Builtin.Range.rangeSize 0 r9 1 = (r9.toNat : Int) := by have := rangeSize_nat 0 r9; rwa [Int.sub_zero] at this
  refine LCg.CompSrc.range rfl F5 N5 hR5 (small_one (by decide) (by decide) (by omega) (by omega)) hsz5 (by rw [sizeLine_eq]; omega) fun g => ?_
  refine comp_pulls (lo := 97) (hi := 99) ?helt r9.toNat 0 [] [] us4 ns4 (n + 1) tn4 j4 .nil (fun _ h => (nomatch h)) hQ4 (by omega) fun ys6 zs6 us6 ns6 tn6 j6 hi6 hl6 hr6 hq6 => ?_
  case helt =>
    intro I oI C oC D oE m₂ h tk Qy E' us7 ns7 n7 tn7 j7 hoC F7 N7 off7 hq7 hn7 k7
    k_steps
    refine Halt.on ?_
    have h1 : ∀ p ∈ [(I, oI), (C, oC), (D, oE)], p.1 ∉ ([q, l] : List Nat) :=
      off_cons (Ne.symm off7.1.1) (Ne.symm off7.2.1.1) (off_cons (Ne.symm off7.1.2.1) (Ne.symm off7.2.1.2.1) (off_cons (Ne.symm off7.1.2.2) (Ne.symm off7.2.1.2.2) off_nil))
    have h2 : ∀ p ∈ [(L0 + 1 + 1 + 1, oW), (L0 + 1 + 1, oD), (L0 + 1, oQ)], p.1 ∉ ([q, l] : List Nat) := off_cons (by omega) (by omega) (off_cons (by omega) (by omega) (off_cons (by omega) (by omega) off_nil))
    rename Fr h₀ L0 _ _ => F8
    rename News h₀ L0 _ _ => N8
    k_dflt (refine' pull_at w [(I, oI), (C, oC), (D, oE)] ?kB F8 ?kX ?kN ?kT ?kk hq7 hn7 (by decide) (by decide) ?kql h1 h2 ?kd ?ku ?_; (case kB => exact B1); (case kX => exact X); (case kN => exact N8); (case kT => exact T); (case kk => exact rfl); (case kql => omega); (case kd => decide); (case ku => decide))
    intro z9 tz9 hz tkz usz nsz jz tnz z0 z1 hqz Fz Nz
    k_steps
    exact k7 _ _ _ _ _ _ _ _ (by omega) (by omega) hqz (by assumption) (by assumption)
  intro D7 h7 tk7 F7 N7 off7
  have hcl := copyN_length lv.toNat ks dv.toNat
  have hzl : zs6.length = r9.toNat := by rw [hl6]; simp
  k_steps
  refine Halt.on ?_
  k_dflt (refine' call_bytes_ints ?kl hi6 (fun z hz => ⟨Int.le_trans (by decide) (hr6 z hz).1, Int.lt_trans (hr6 z hz).2 (by decide)⟩) ?kz rfl ?_; (case kl => exact ⟨_, (N7 _ (List.Mem.head _)).1, rfl, _, rfl⟩); (case kz => (rw [hi6.length, sizeLine_eq]; omega)))
  intro h8 t8 k8 hk8
  have F8 := F7.keeps hk8
  have N8 := news_drop1 (N7.grown hk8)
  have hb8 : KBw.bInts (byteArr zs6) = zs6 := KBa.ints_make (fun z hz => ⟨Int.le_trans (by decide) (hr6 z hz).1, Int.lt_trans (hr6 z hz).2 (by decide)⟩)
  k_steps
  rename KBw.bInts (_ ++ KBy.picked _ _ _) = _ => hT
  have hsz := KBw.ints_length (b6 ++ byteArr zs6 ++ KBy.picked b6 none (some 9))
  rw [hT] at hsz
  simp only [List.length_append, List.length_take] at hsz
  replace hsz : (b6 ++ byteArr zs6 ++ KBy.picked b6 none (some 9)).size ≤ 100 := by omega
  rename Fr h₀ L0 _ _ => F9
  rename News h₀ L0 _ _ => N9
  exact stageG w X T (fr_name (fr_name (fr_name F9 rfl) rfl) rfl) N9 hq6 (by omega) lt1 lt2 dD dQ hkb hkl hkr hdv0 hdv1 hd hlv0 hlv1 dW hb6 hsz ret
end Mine
end
section
open PySem PySem.W PyProof.Rows PySem.Calls PySem.Spec PyProof.V
namespace Mine
theorem walk_off_LE : True := by
  w_top off
  trivial
local macro_rules | `(tactic| walk_at "call ref") => `(tactic| (refine halt ?_))
local macro_rules | `(tactic| walk_at "getAttr ref") => `(tactic| (refine halt ?_))
local macro_rules | `(tactic| walk_at "call ref") => `(tactic| (k_here; (with_reducible show wpAny _ _ (call (Value.ref 140) _) _ _ _); (rename QOk _ _ _ => lQ'); k_dflt (refine' pull_at _ [] (by k_asm) (by k_asm) (by k_asm) (by k_asm) (by k_asm) rfl lQ' (by omega) (by omega) (by omega) (by omega) off_nil (by ((repeat (refine off_cons (by omega) (by omega) ?_)); exact off_nil)) (by decide) (by decide) ?_); intro r' t' h' tk' us' ns' j' tn' r0' r1' hQ' F' N'; (try simp only [List.nil_append] at N')))
local macro_rules | `(tactic| walk_at "binaryOp Mult bytes int") => `(tactic| (refine halt ?_))
set_option maxRecDepth 100000 in
set_option maxHeartbeats 8000000 in
theorem stageE (w : World) {mean : ExcName → Option Value} {mg mb : Str → Option Value} {h₀ : Heap} {s : Shared} {Q : Flow → Shared → Prop} {E : Value → Shared → Prop} {L0 : Nat} {m : Str → Option Value}
    {q l kq j : Nat} {us : List Value} {ns : List Int} {n : Int} {tn : Tok} {oW oD oQ : Obj} {b : Array UInt8} {ks : List Int} {tb td : Tok} {dv : Int} {lv : Int} {tl : Tok}
    (X : (hd.heap_39 w.params).In h₀) (T : Top hd.view_39 LZ mean mg mb h₀) (F : Fr h₀ L0 s.heap (fun y => if y = Str.ofString "ahead" then some (.bytes b tb) else if y = Str.ofString "length" then some (.int lv tl) else m y))
    (N : News h₀ L0 s.heap [(q, qObj l n tn kq), (l, listOf us.toArray j), (L0 + 1 + 1 + 1, oW), (L0 + 1 + 1, oD), (L0 + 1, oQ)])
    (hq : QOk us ns n) (hn : n ≤ 920) (lt1 : L0 + 1 + 1 + 1 < l) (lt2 : l < q) (dD : oD.data = .cell (some (.int dv td))) (dQ : oQ.data = .cell (some (.ref q)))
    (hkb : KBw.bInts b = ks) (hkl : ks.length ≤ 8) (hkr : ∀ k ∈ ks, 0 ≤ k ∧ k < 256) (hdv0 : 1 ≤ dv) (hdv1 : dv ≤ 10) (hd : dv ≤ (ks.length : Int)) (hlv0 : 1 ≤ lv) (hlv1 : lv ≤ 30)
    {b6 : Array UInt8} {tw : Tok} (dW : oW.data = .cell (some (.bytes b6 tw))) (hb6 : KBw.bInts b6 = copyN ks lv.toNat dv.toNat)
    (ret : ∀ h' tk, (∀ b o, h₀.get? b = some o → h'.get? b = some o) → Q (.ret (.bool true)) { s with heap := h', toks := tk }) : wpR (model PySem.Challenge.rw_og0134_01.row.prog w) (callerA.deeper (lawEnv w.params L0)) (execs ((lawB w.params).drop 12) (lawEnv w.params L0)) Q E s := by
  revert X; k_fill; intro X
  show wpR _ (callerA.deeper (envOfC _ ⟨_, [_, _, _, _, _, _, _, _, _, _, _, _, _, _, _, _, _, _, _, _, _, _, _, _, _], _, _, _⟩ _ _ _)) (execs [_, _, _, _, _, _] (envOfC _ ⟨_, [_, _, _, _, _, _, _, _, _, _, _, _, _, _, _, _, _, _, _, _, _, _, _, _, _], _, _, _⟩ _ _ _)) _ _ _
  obtain ⟨hp0, gs0, dr0, tk0, os0⟩ := s
  dsimp only at F N ret
  have B1 : Below callerA h₀ [] h₀ := below_caller h₀
  have hbs : b.size = ks.length := by rw [← KBw.ints_length, hkb]
  refine wpR_execs_cons (wpR_of ?_)
  k_steps
  refine wpR_execs_cons (wpR_If (wpR_isTrue_Compare1 (wpR_evalCall ?_)))
  k_steps
  · rename Fr h₀ L0 _ _ => F3
    exact Keeps.K (by k_is) (X.keeps F3.keep)
  rename_i r t h1 tk1 us1 ns1 j1 tn1 r0 r1 hQ1 h2 Da ha la Lb hb F4 N4 lb
  have hm := small_mul r0 r1 hdv0 hdv1
  k_dflt (refine' laid_spec (ps := [.inr ((1 + r) * dv, dv)]) w ?kB F4 X T rfl N4 ?kP hkb (by omega) ?kok ?kle ?kdp ?kun ?_; (case kB => exact B1); (case kdp => decide); (case kun => decide))
  case kP => exact .tup Da _ dv _ _ (.head _) .nil
  case kok => exact ⟨⟨hm.1, hdv0, hd, by omega⟩, trivial⟩
  case kle => (simp only [List.foldl_cons, List.foldl_nil, lay1, copyN_length]; omega)
  intro h5 tk5 t5 b5 hb5 F5 K5
  have N5 := news_kept N4 K5
  k_steps
  refine Halt.on ?_
  rename KBw.bInts (KBy.picked _ _ _) = _ => hc5
  rw [clip_back hdv0 hd] at hc5
  refine mul_K hc5 (by rw [List.length_drop]; omega) (by rw [List.length_drop]; omega) (by omega) (by omega) fun t6 k6 d6 hd6 => ?_
  have hl6 : (List.replicate (1 + r).toNat (ks.drop (ks.length - dv.toNat))).flatten.length ≤ 40 := by
    have := congrArg List.length (lay_times ks r0 hdv0 hd)
    simp only [List.foldl_cons, List.foldl_nil, lay1, copyN_length, List.length_append] at this
    omega
  have e6 := toList_ne (hb5.trans ((lay_times ks r0 hdv0 hd).trans (KBw.ints_app hkb hd6).symm))
  k_steps
  refine wpR_execs_nil ?_
  dsimp only
  rename Fr h₀ L0 _ _ => F9
  rename News h₀ L0 _ _ => N9
  exact stageF w X T (fr_name (fr_name F9 rfl) rfl) (fun p hp => N9 p (.tail _ (.tail _ hp))) hQ1 (by omega) lt1 lt2 dD dQ hkb hkl hkr hdv0 hdv1 hd hlv0 hlv1 dW hb6 ret
end Mine
end
section
open PySem PySem.W PyProof.Rows PySem.Calls PySem.Spec PyProof.V
namespace Mine
theorem walk_off_LD : True := by
  w_top off
  trivial
local macro_rules | `(tactic| walk_at "call ref") => `(tactic| (refine halt ?_))
local macro_rules | `(tactic| walk_at "getAttr ref") => `(tactic| (refine halt ?_))
local macro_rules | `(tactic| walk_at "call ref") => `(tactic| (k_here; (with_reducible show wpAny _ _ (call (Value.ref 140) _) _ _ _); (rename QOk _ _ _ => lQ'); k_dflt (refine' pull_at _ [] (by k_asm) (by k_asm) (by k_asm) (by k_asm) (by k_asm) rfl lQ' (by omega) (by omega) (by omega) (by omega) off_nil (by ((repeat (refine off_cons (by omega) (by omega) ?_)); exact off_nil)) (by decide) (by decide) ?_); intro r' t' h' tk' us' ns' j' tn' r0' r1' hQ' F' N'; (try simp only [List.nil_append] at N')))
set_option maxRecDepth 100000 in
set_option maxHeartbeats 8000000 in
theorem stageD (w : World) {mean : ExcName → Option Value} {mg mb : Str → Option Value} {h₀ : Heap} {s : Shared} {Q : Flow → Shared → Prop} {E : Value → Shared → Prop} {L0 : Nat} {m : Str → Option Value}
    {q l kq j : Nat} {us : List Value} {ns : List Int} {n : Int} {tn : Tok} {oW oD oQ : Obj} {b : Array UInt8} {ks : List Int} {tb td : Tok} {dv : Int} {lv : Int} {tl : Tok}
    (X : (hd.heap_39 w.params).In h₀) (T : Top hd.view_39 LZ mean mg mb h₀) (F : Fr h₀ L0 s.heap (fun y => if y = Str.ofString "ahead" then some (.bytes b tb) else if y = Str.ofString "length" then some (.int lv tl) else m y))
    (N : News h₀ L0 s.heap [(q, qObj l n tn kq), (l, listOf us.toArray j), (L0 + 1 + 1 + 1, oW), (L0 + 1 + 1, oD), (L0 + 1, oQ)])
    (hq : QOk us ns n) (hn : n ≤ 910) (lt1 : L0 + 1 + 1 + 1 < l) (lt2 : l < q) (dD : oD.data = .cell (some (.int dv td))) (dQ : oQ.data = .cell (some (.ref q)))
    (hkb : KBw.bInts b = ks) (hkl : ks.length ≤ 8) (hkr : ∀ k ∈ ks, 0 ≤ k ∧ k < 256) (hdv0 : 1 ≤ dv) (hdv1 : dv ≤ 10) (hd : dv ≤ (ks.length : Int)) (hlv0 : 1 ≤ lv) (hlv1 : lv ≤ 30)
    {b6 : Array UInt8} {tw : Tok} (dW : oW.data = .cell (some (.bytes b6 tw))) (hb6 : KBw.bInts b6 = copyN ks lv.toNat dv.toNat)
    (ret : ∀ h' tk, (∀ b o, h₀.get? b = some o → h'.get? b = some o) → Q (.ret (.bool true)) { s with heap := h', toks := tk }) : wpR (model PySem.Challenge.rw_og0134_01.row.prog w) (callerA.deeper (lawEnv w.params L0)) (execs ((lawB w.params).drop 10) (lawEnv w.params L0)) Q E s := by
  revert X; k_fill; intro X
  show wpR _ (callerA.deeper (envOfC _ ⟨_, [_, _, _, _, _, _, _, _, _, _, _, _, _, _, _, _, _, _, _, _, _, _, _, _, _], _, _, _⟩ _ _ _)) (execs [_, _, _, _, _, _, _, _] (envOfC _ ⟨_, [_, _, _, _, _, _, _, _, _, _, _, _, _, _, _, _, _, _, _, _, _, _, _, _, _], _, _, _⟩ _ _ _)) _ _ _
  obtain ⟨hp0, gs0, dr0, tk0, os0⟩ := s
  dsimp only at F N ret
  have B1 : Below callerA h₀ [] h₀ := below_caller h₀
  have hbs : b.size = ks.length := by rw [← KBw.ints_length, hkb]
  refine wpR_execs_cons (wpR_of ?_)
  k_steps
  refine wpR_execs_cons (wpR_If (wpR_isTrue_Compare1 (wpR_evalCall ?_)))
  k_steps
  · rename Fr h₀ L0 _ _ => F3
    exact Keeps.K (by k_is) (X.keeps F3.keep)
  · rename_i r t h1 tk1 us1 ns1 j1 tn1 r0 r1 hQ1 h2 hr Da ha la Lb hb lb Dc hc lc Ld hld ld De he F4 N4 le
    k_dflt (refine' laid_spec (ps := [.inr (r, dv), .inr (lv - r, dv)]) w ?kB F4 X T rfl N4 ?kP hkb (by omega) ?kok ?kle ?kdp ?kun ?_; (case kB => exact B1); (case kdp => decide); (case kun => decide))
    case kP => exact .tup Da r dv _ _ (.tail _ (.tail _ (.tail _ (.head _)))) (.tup Dc (lv - r) dv _ _ (.tail _ (.head _)) .nil)
    case kok => exact ⟨⟨r0, hdv0, hd, by omega⟩, ⟨by omega, hdv0, by simp only [lay1, copyN_length]; omega, by simp only [lay1, copyN_length]; omega⟩, trivial⟩
    case kle => (rw [lay_cut ks r0 (by omega), copyN_length]; omega)
    intro h5 tk5 t5 b5 hb5 F5 K5
    have N5 := news_kept N4 K5
    have e5 := toList_ne (hb5.trans ((lay_cut ks r0 (by omega)).trans hb6.symm))
    k_steps
    refine wpR_execs_nil ?_
    dsimp only
    rename Fr h₀ L0 _ _ => F9
    rename News h₀ L0 _ _ => N9
    exact stageE w X T (fr_name (fr_name F9 rfl) rfl) (fun p hp => N9 p (.tail _ (.tail _ (.tail _ (.tail _ (.tail _ hp)))))) hQ1 (by omega) lt1 lt2 dD dQ hkb hkl hkr hdv0 hdv1 hd hlv0 hlv1 dW hb6 ret
  · rename Fr h₀ L0 _ _ => F3
    exact Keeps.K (by k_is) (X.keeps F3.keep)
  · rename_i r t h1 tk1 us1 ns1 j1 tn1 r0 r1 hQ1 h2 hr Lb hb lb Dc hc lc Ld hld ld De he F4 N4 le
    have r00 : r = 0 := by omega
    k_dflt (refine' laid_spec (ps := [.inr (lv - r, dv)]) w ?kB F4 X T rfl N4 ?kP hkb (by omega) ?kok ?kle ?kdp ?kun ?_; (case kB => exact B1); (case kdp => decide); (case kun => decide))
    case kP => exact .tup Dc (lv - r) dv _ _ (.tail _ (.head _)) .nil
    case kok => exact ⟨⟨by omega, hdv0, hd, by omega⟩, trivial⟩
    case kle => (rw [lay_cut0 ks r00, copyN_length]; omega)
    intro h5 tk5 t5 b5 hb5 F5 K5
    have N5 := news_kept N4 K5
    have e5 := toList_ne (hb5.trans ((lay_cut0 ks r00).trans hb6.symm))
    k_steps
    refine wpR_execs_nil ?_
    dsimp only
    rename Fr h₀ L0 _ _ => F9
    rename News h₀ L0 _ _ => N9
    exact stageE w X T (fr_name (fr_name F9 rfl) rfl) (fun p hp => N9 p (.tail _ (.tail _ (.tail _ (.tail _ hp))))) hQ1 (by omega) lt1 lt2 dD dQ hkb hkl hkr hdv0 hdv1 hd hlv0 hlv1 dW hb6 ret
end Mine
end
section
open PySem PySem.W PyProof.Rows PySem.Calls PySem.Spec PyProof.V
set_option maxRecDepth 100000
namespace Mine
theorem walk_off_LU : True := by
  w_top off
  trivial
section
variable {prog : Program} {w : World} {A : Around} {s : Shared} {h₀ : Heap} {L : Addr} {m : Str → Option Value} {env : Env}
theorem comp_none {ct elt : Expr} {x : Str} {scope : Scope} {cl : List (Str × Addr)} {Pv : Nat → Value → Prop} {Fin : List Value → List (Addr × Obj) → Prop} {news : List (Addr × Obj)} {nn : Nat}
    (hct : ∀ (i : Nat) v I oI C oC D oE m₂ h tk (Qy : Bool → Shared → Prop) (E' : Value → Shared → Prop), i < nn → Pv i v → LCg.NsObj oC m₂ → m₂ x = some v → Fr h₀ L h m → News h₀ L h ((I, oI) :: (C, oC) :: (D, oE) :: news) → LCg.Off3 I C D news →
      (∀ h' tk', Fr h₀ L h' m → News h₀ L h' ((I, oI) :: (C, oC) :: (D, oE) :: news) → Qy false { s with heap := h', toks := tk' }) →
      wpAny (model prog w) A (isTrue ct (compEnvC scope cl C env) (eval ct (compEnvC scope cl C env))) Qy E' { s with heap := h, toks := tk })
    (fin : Fin [] news) : ∀ k i, i + k = nn → LCt.CompRestT prog w A h₀ L m env ct elt x scope cl s (fun _ => True) Pv Fin k i [] news
  | 0, i, _ => fin
  | k + 1, i, hk => by
    refine LCt.CompRestT.succ fun v I oI C oC D m₂ h tk E' hP hoC hv F N off hne => ?_
    refine hct i v I oI C oC D _ m₂ h tk _ E' (by omega) hP hoC hv F N off fun h' tk' F' N' => ?_
    rw [if_neg (by decide)]
    exact LCg.CompEnd.intro F' N' news (fun p hp => hp) off trivial (comp_none hct fin k (i + 1) (by omega))
end
end Mine
end
section
open PySem PySem.W PyProof.Rows PySem.Calls PySem.Spec PyProof.V
namespace Mine
theorem walk_off_LC : True := by
  w_top off
  trivial
local macro_rules | `(tactic| walk_at "eval ListComp") => `(tactic| (refine halt ?_))
local macro_rules | `(tactic| walk_at "CompSrcT") => `(tactic| (refine halt ?_))
local macro_rules | `(tactic| walk_at "call builtin:len") => `(tactic| (k_here; (with_reducible show wpAny _ _ (call (Value.builtin _) [Value.ref _]) _ _ _); (rename News _ _ _ ((_, baOf _) :: _) => lN'); k_dflt (refine' ba_len (lN' _ (List.Mem.head _)).1 (by omega) ?_)))
local macro_rules | `(tactic| walk_at "call type:bytes") => `(tactic| (k_here; (with_reducible show wpAny _ _ (call (Value.type _) [Value.ref _]) _ _ _); (rename News _ _ _ ((_, baOf _) :: _) => lN'); k_dflt (refine' callBytes_ba (lN' _ (List.Mem.head _)).1 (by first | assumption | omega) ?_); intro t' k'))
set_option maxRecDepth 100000 in
set_option maxHeartbeats 8000000 in
theorem stageC (w : World) {mean : ExcName → Option Value} {mg mb : Str → Option Value} {h₀ : Heap} {s : Shared} {Q : Flow → Shared → Prop} {E : Value → Shared → Prop} {L0 : Nat} {m : Str → Option Value}
    {q l kq j : Nat} {us : List Value} {ns : List Int} {n : Int} {tn : Tok} {oW oD oQ : Obj} {b : Array UInt8} {ks : List Int} {tb td : Tok} {dv : Int} {lv : Int} {tl : Tok} {S : Nat} {b6 : Array UInt8}
    (X : (hd.heap_39 w.params).In h₀) (T : Top hd.view_39 LZ mean mg mb h₀) (F : Fr h₀ L0 s.heap (fun y => if y = Str.ofString "out" then some (.ref S) else if y = Str.ofString "ahead" then some (.bytes b tb) else if y = Str.ofString "length" then some (.int lv tl) else if y = Str.ofString "caught" then some (.none) else m y))
    (N : News h₀ L0 s.heap [(S, baOf b6), (q, qObj l n tn kq), (l, listOf us.toArray j), (L0 + 1 + 1 + 1, oW), (L0 + 1 + 1, oD), (L0 + 1, oQ)])
    (hq : QOk us ns n) (hn : n ≤ 900) (lt1 : L0 + 1 + 1 + 1 < l) (lt2 : l < q) (lt3 : q < S) {cW : Option Value} (dW0 : oW.data = .cell cW) (dD : oD.data = .cell (some (.int dv td))) (dQ : oQ.data = .cell (some (.ref q)))
    (hkb : KBw.bInts b = ks) (hkl : ks.length ≤ 8) (hkr : ∀ k ∈ ks, 0 ≤ k ∧ k < 256) (hdv0 : 1 ≤ dv) (hdv1 : dv ≤ 10) (hd : dv ≤ (ks.length : Int)) (hlv0 : 1 ≤ lv) (hlv1 : lv ≤ 30)
    (hb6 : KBw.bInts b6 = copyN ks lv.toNat dv.toNat)
    (ret : ∀ h' tk, (∀ b o, h₀.get? b = some o → h'.get? b = some o) → Q (.ret (.bool true)) { s with heap := h', toks := tk }) : wpR (model PySem.Challenge.rw_og0134_01.row.prog w) (callerA.deeper (lawEnv w.params L0)) (execs ((lawB w.params).drop 7) (lawEnv w.params L0)) Q E s := by
  revert X; k_fill; intro X
  show wpR _ (callerA.deeper (envOfC _ ⟨_, [_, _, _, _, _, _, _, _, _, _, _, _, _, _, _, _, _, _, _, _, _, _, _, _, _], _, _, _⟩ _ _ _)) (execs [_, _, _, _, _, _, _, _, _, _, _] (envOfC _ ⟨_, [_, _, _, _, _, _, _, _, _, _, _, _, _, _, _, _, _, _, _, _, _, _, _, _, _], _, _, _⟩ _ _ _)) _ _ _
  obtain ⟨hp0, gs0, dr0, tk0, os0⟩ := s
  dsimp only at F N ret
  have B1 : Below callerA h₀ [] h₀ := below_caller h₀
  have hbs : b.size = ks.length := by rw [← KBw.ints_length, hkb]
  have hs6 : b6.size = ks.length + lv.toNat := by rw [← KBw.ints_length, hb6, copyN_length]
  have hcl := copyN_length lv.toNat ks dv.toNat
  refine wpR_execs_cons (wpR_of ?_)
  k_steps
  refine wpR_execs_cons (wpR_of ?_)
  have hcl2 : ((copyN ks lv.toNat dv.toNat).length : Int) = ↑ks.length + lv := by omega
  k_steps
  · rename KBw.bInts (KBy.picked _ _ _) = _ => hp
    rename (_ != _) = true => hbad
    have hp2 : List.take (min ks.length (copyN ks lv.toNat dv.toNat).length) (copyN ks lv.toNat dv.toNat) = ks := by rw [Nat.min_eq_left (by omega)]; exact copyN_prefix _ _ _
    rw [hp2] at hp
    rw [toList_ne (hp.trans hkb.symm)] at hbad
    cases hbad
  · exfalso
    omega
  dsimp only
  refine wpR_execs_cons (wpR_of ?_)
  k_steps
  refine Halt.on ?_
  rename Fr h₀ L0 _ _ => F2
  rename News h₀ L0 _ _ => N2
  k_dflt (refine LCt.ListComp_T (F₀ := F2) (by with_unfolding_all rfl) (by decide) (by rfl) (by decide) (by rfl) ?_)
  k_steps
  refine Halt.on ?_
  rename IsRange _ _ _ _ _ _ _ _ => hR
  rename Fr h₀ L0 _ _ => F3
  rename News h₀ L0 _ _ => N3
  have hsz3 : Builtin.Range.rangeSize (ks.length : Int) ((copyN ks lv.toNat dv.toNat).length : Int) 1 = (lv.toNat : Int) := by
    rw [rangeSize_nat, hcl]; omega
  refine LCt.CompSrcT.range rfl F3 N3 hR (small_one (by omega) (by omega) (by omega) (by omega)) hsz3 (by rw [sizeLine_eq]; omega) fun g => ?_
  refine comp_none (nn := lv.toNat) ?hct ?fin lv.toNat 0 (Nat.zero_add _)
  case hct =>
    intro i v I oI C oC D oE m₂ h tk Qy E' hi hP hoC hv F7 N7 off7 k7
    obtain ⟨t, rfl⟩ := hP
    have hback := copyN_back (d := dv.toNat) (by omega) lv.toNat ks (ks.length + i) (by omega) (by omega) (by omega)
    k_steps
    rw [show ((ks.length : Int) + (i : Int)).toNat = ks.length + i from rfl, back_toNat hdv0, hback, bne_self_eq_false]
    exact k7 _ _ F7 N7
  intro D9 h9 tk9 F9 N9 off9
  k_steps
  dsimp only
  rename Fr h₀ L0 _ _ => F10
  rename News h₀ L0 _ _ => N10
  rename (_ = Data.cell (some (Value.bytes _ _))) => dW1
  exact stageD w X T (fr_name (fr_name F10 rfl) rfl) (fun p hp => N10 p (.tail _ (.tail _ (.tail _ hp)))) hq (by omega) lt1 lt2 dD dQ hkb hkl hkr hdv0 hdv1 hd hlv0 hlv1 dW1 hb6 ret
end Mine
end
section
open PySem PySem.W PyProof.Rows PySem.Calls PySem.Spec PyProof.V
namespace Mine
theorem walk_off_LB : True := by
  w_top off
  trivial
local macro_rules | `(tactic| walk_at "call ref") => `(tactic| (refine halt ?_))
local macro_rules | `(tactic| walk_at "getAttr ref") => `(tactic| (refine halt ?_))
local macro_rules | `(tactic| walk_at "call builtin:len") => `(tactic| (k_here; (with_reducible show wpAny _ _ (call (Value.builtin _) [Value.ref _]) _ _ _); (rename News _ _ _ ((_, baOf _) :: _) => lN'); k_dflt (refine' ba_len (lN' _ (List.Mem.head _)).1 (by omega) ?_)))
local macro_rules | `(tactic| walk_at "call type:bytes") => `(tactic| (k_here; (with_reducible show wpAny _ _ (call (Value.type _) [Value.ref _]) _ _ _); (rename News _ _ _ ((_, baOf _) :: _) => lN'); k_dflt (refine' callBytes_ba (lN' _ (List.Mem.head _)).1 (by first | assumption | omega) ?_); intro t' k'))
local macro_rules | `(tactic| walk_at "eval Name") => `(tactic| (k_here; (with_reducible show wpAny _ _ (eval (Expr.Name (PySem.Str.ofString "bytearray") _) _) _ _ _); k_dflt (refine' name_any (by k_asm) (by k_asm) (by k_asm) (by k_is) PyProof.Rows.Boot.«bytearray» (by decide) ?_ rfl rfl rfl rfl (by decide))))
set_option maxRecDepth 100000 in
set_option maxHeartbeats 8000000 in
theorem stageB (w : World) {mean : ExcName → Option Value} {mg mb : Str → Option Value} {h₀ : Heap} {s : Shared} {Q : Flow → Shared → Prop} {E : Value → Shared → Prop} {L0 : Nat} {m : Str → Option Value}
    {q l kq j : Nat} {us : List Value} {ns : List Int} {n : Int} {tn : Tok} {oW oD oQ : Obj} {b : Array UInt8} {ks : List Int} {tb td : Tok} {dv : Int} {lv : Int} {tl : Tok}
    (X : (hd.heap_39 w.params).In h₀) (T : Top hd.view_39 LZ mean mg mb h₀) (F : Fr h₀ L0 s.heap (fun y => if y = Str.ofString "ahead" then some (.bytes b tb) else if y = Str.ofString "length" then some (.int lv tl) else if y = Str.ofString "caught" then some (.none) else m y))
    (N : News h₀ L0 s.heap [(q, qObj l n tn kq), (l, listOf us.toArray j), (L0 + 1 + 1 + 1, oW), (L0 + 1 + 1, oD), (L0 + 1, oQ)])
    (hq : QOk us ns n) (hn : n ≤ 900) (lt1 : L0 + 1 + 1 + 1 < l) (lt2 : l < q) (dD : oD.data = .cell (some (.int dv td))) (dQ : oQ.data = .cell (some (.ref q)))
    (hkb : KBw.bInts b = ks) (hkl : ks.length ≤ 8) (hkr : ∀ k ∈ ks, 0 ≤ k ∧ k < 256) (hdv0 : 1 ≤ dv) (hdv1 : dv ≤ 10) {cW : Option Value} (dW0 : oW.data = .cell cW) (hlv0 : 1 ≤ lv) (hlv1 : lv ≤ 30)
    (ret : ∀ h' tk, (∀ b o, h₀.get? b = some o → h'.get? b = some o) → Q (.ret (.bool true)) { s with heap := h', toks := tk }) : wpR (model PySem.Challenge.rw_og0134_01.row.prog w) (callerA.deeper (lawEnv w.params L0)) (execs ((lawB w.params).drop 4) (lawEnv w.params L0)) Q E s := by
  revert X; k_fill; intro X
  show wpR _ (callerA.deeper (envOfC _ ⟨_, [_, _, _, _, _, _, _, _, _, _, _, _, _, _, _, _, _, _, _, _, _, _, _, _, _], _, _, _⟩ _ _ _)) (execs [_, _, _, _, _, _, _, _, _, _, _, _, _, _] (envOfC _ ⟨_, [_, _, _, _, _, _, _, _, _, _, _, _, _, _, _, _, _, _, _, _, _, _, _, _, _], _, _, _⟩ _ _ _)) _ _ _
  obtain ⟨hp0, gs0, dr0, tk0, os0⟩ := s
  dsimp only at F N ret
  have B1 : Below callerA h₀ [] h₀ := below_caller h₀
  have hbs : b.size = ks.length := by rw [← KBw.ints_length, hkb]
  refine wpR_execs_cons (wpR_Assign_Name (wpR_evalCall ?_))
  k_steps
  · exact Keeps.type
  rename Fr h₀ L0 _ _ => F1
  rename News h₀ L0 _ _ => N1
  k_dflt (refine' bytearray_R ?kF ?kN ?kz ?_; (case kF => exact F1); (case kN => exact N1); (case kz => omega))
  intro h2 S F2 N2 lS hS0
  have lSq : q < S := lS (q, _) (List.Mem.head _)
  k_steps
  dsimp only
  refine wpR_execs_cons (wpR_Try ?_)
  refine wpR_execs_cons (wpR_Expr (wpR_evalCall ?_))
  k_steps
  · rename Fr h₀ L0 _ _ => F3
    exact Keeps.K (by k_is) (X.keeps F3.keep)
  rename Fr h₀ L0 _ _ => F3
  rename News h₀ L0 _ _ => N3
  rename _ ∧ _ ∧ _ ∧ _ ∧ _ ∧ _ => l3
  rename_i r h3
  have N3' : News h₀ L0 h3 [(S, baOf b), (r, tup [.int lv tl, .int dv td])] := fun p hp => N3 p (by
    simp only [List.mem_cons, List.not_mem_nil, or_false] at hp ⊢
    rcases hp with h | h <;> simp [h])
  rcases (Int.lt_or_le ks.length dv : (ks.length : Int) < dv ∨ dv ≤ (ks.length : Int)) with hd | hd
  · refine wpR_of ?_
    k_dflt (refine' lay_fault w ?kB F3 X T rfl N3' (Nat.ne_of_lt l3.1) hkb (by omega) hdv0 hd (by omega) ?kdp ?kun ?_; (case kB => exact B1); (case kdp => decide); (case kun => decide))
    intro h5 tk5 e D P k4 k5 x5 tx5 hD0 st hP hD hx hfr F5
    refine exc_noteFrame rfl hfr rfl hx fun h6 hx6 hfr6 up6 => ?_
    have F6 := F5.of_stays (fun b o hb => hx6.1 b o (st b o hb)) up6
    refine exc_setFlight hx6 hfr6 fun h7 hx7 hfr7 up7 => ?_
    have F7 := F6.of_stays (fun b o hb => hx7.1 b o (st b o hb)) up7
    refine wpAny_handleBy_cons (codeAny_handlers_test ?_) (by intro q; cases q)
    k_steps
    have hx7' := hx7
    obtain ⟨_, _, oe, vsE, Tb, oT, tsT, he, hc, _⟩ := hx7'
    refine wpAny_excMatches_sub_self ((X.keeps F7.keep) _ _ (obj52 _)) he hc (by decide) ?_
    dsimp only
    refine codeAny_handlers_suite_as ?_
    refine exc_setFlight hx7 hfr7 fun h8 hx8 hfr8 up8 => ?_
    have F8 := F7.of_stays (fun b o hb => hx8.1 b o (st b o hb)) up8
    obtain ⟨hP8, hPe8, oe8, vs8, _, _, _, he8, hc8, hd8, hdt8, _⟩ := hx8
    have hmL : L0 ∈ ([lawEnv w.params L0] : List Env).filterMap (·.frame) := List.Mem.head _
    have hPL : P.get? L0 = none := (hfr8.mem hmL).1
    have heL : e ≠ L0 := fun q => by
      obtain ⟨_, o, ho, hnf⟩ := hfr8.mem hmL
      rw [← q, he8] at ho; exact hnf vs8 (Option.some.inj ho ▸ hdt8)
    have hSL := (N3' _ (List.Mem.head _)).2
    have hPS := hP S _ (N3' _ (List.Mem.head _)).1 (fun hm => hSL.1 (List.mem_singleton.mp hm))
    have hND := N3 (L0 + 1 + 1, oD) (by simp)
    have hPD := hP _ _ hND.1 (fun hm => hND.2.1 (List.mem_singleton.mp hm))
    have N8 : News h₀ L0 h8 [(e, oe8), (D, faultDict w.params k4 k5 x5 tx5 77 (tk0 + 1)), (S, baOf b), (L0 + 1 + 1, oD)] := fun p hp => by
      simp only [List.mem_cons, List.not_mem_nil, or_false] at hp
      rcases hp with rfl | rfl | rfl | rfl
      · exact ⟨he8, heL, fresh_of_stays st hPe8⟩
      · exact ⟨hP8 _ _ hD, (fun (q : D = L0) => by rw [q, hPL] at hD; cases hD), hD0⟩
      · exact ⟨hP8 _ _ hPS, hSL⟩
      · exact ⟨hP8 _ _ hPD, hND.2⟩
    k_steps
    refine Halt.on ?_
    rename Fr h₀ L0 _ _ => F9
    rename News h₀ L0 _ _ => N9
    have I9 : InstAt _ e oe8 52 (some (faultDict w.params k4 k5 x5 tx5 77 (tk0 + 1))) := ⟨(N9 _ (List.Mem.head _)).1, hc8, by unfold notCls; rw [hdt8], by rw [hd8]; exact (N9 _ (List.Mem.tail _ (List.Mem.head _))).1⟩
    refine exi_getAttr (X.keeps F9.keep) I9 (get52 _) (getattr52 _) rfl (findObj_own rfl rfl rfl rfl) rfl ?_
    k_steps
    rename Fr h₀ L0 _ _ => F10
    rename News h₀ L0 _ _ => N10
    refine wpAny_nameGoes_keeps rfl F10.ns rfl fun h11 v11 hn11 hs11 => ?_
    have F11 := F10.set hn11 hs11
    have N11 : News h₀ L0 h11 [(S, baOf b), (L0 + 1 + 1, oD)] := fun p hp => (N10.set hs11) p (List.mem_cons_of_mem _ (List.mem_cons_of_mem _ hp))
    dsimp only
    refine wpR_execs_cons (wpR_of ?_)
    k_steps
    rw [show (b.toList == b.toList) = true from beq_self_eq_true _]
    exact ret _ _ F11.keep
  · k_dflt (refine' lay_tup w ?kB F3 X T rfl N3' (Nat.ne_of_lt l3.1) hkb (by omega) hdv0 hd (by omega) ?kdp ?kun ?_; (case kB => exact B1); (case kdp => decide); (case kun => decide))
    intro h6 tk6 b6 hb6 F6 N6 K6
    have N7 : News h₀ L0 h6 [(S, baOf b6), (q, qObj l n tn kq), (l, listOf us.toArray j), (L0 + 1 + 1 + 1, oW), (L0 + 1 + 1, oD), (L0 + 1, oQ)] := by
      have hoff : ∀ p ∈ [(q, qObj l n tn kq), (l, listOf us.toArray j), (L0 + 1 + 1 + 1, oW), (L0 + 1 + 1, oD), (L0 + 1, oQ)], p.1 ∉ ([S, r] : List Nat) := off_cons (by omega) (by omega) (off_cons (by omega) (by omega) (off_cons (by omega) (by omega) (off_cons (by omega) (by omega) (off_cons (by omega) (by omega) off_nil))))
      intro p hp
      rcases List.mem_cons.mp hp with rfl | hp
      · exact N6 _ (List.Mem.head _)
      · have h1 := N3 p (List.Mem.tail _ (List.Mem.tail _ hp))
        exact ⟨K6 _ _ h1.1 (hoff p hp), h1.2⟩
    refine wpR_execs_nil ?_
    dsimp only
    refine wpR_execs_cons (wpR_of ?_)
    k_steps
    dsimp only
    exact stageC w X T (by assumption) (by assumption) hq hn lt1 lt2 lSq dW0 dD dQ hkb hkl hkr hdv0 hdv1 hd hlv0 hlv1 hb6 ret
end Mine
end
section
open PySem PySem.W PyProof.Rows PySem.Calls PySem.Spec PyProof.V
namespace Mine
theorem walk_off_L2 : True := by
  w_top off
  trivial
/-- from here on the walk draws by itself -/
inductive PullsOn : Prop
  | on
local macro_rules | `(tactic| walk_at "call ref") => `(tactic| (refine halt ?_))
local macro_rules | `(tactic| walk_at "call ref") => `(tactic| (k_here; (rename PullsOn => pOn'); (with_reducible show wpAny _ _ (call (Value.ref 140) _) _ _ _); (rename QOk _ _ _ => lQ'); k_dflt (refine' pull_at _ [] (by k_asm) (by k_asm) (by k_asm) (by k_asm) (by k_asm) rfl lQ' (by omega) (by omega) (by omega) (by omega) off_nil (by ((repeat (refine off_cons (by omega) (by omega) ?_)); exact off_nil)) (by decide) (by decide) ?_); intro r' t' h' tk' us' ns' j' tn' r0' r1' hQ' F' N'; (try simp only [List.nil_append] at N')))
local macro_rules | `(tactic| walk_at "CompSrc") => `(tactic| (refine halt ?_))
local macro_rules | `(tactic| walk_at "eval ListComp") => `(tactic| (refine halt ?_))
theorem news_mid4 {h₀ h : Heap} {L : Addr} {a b c d : Addr × Obj} {rest : List (Addr × Obj)} (N : News h₀ L h (a :: b :: c :: d :: rest)) : News h₀ L h (b :: c :: rest) := fun p hp => N p (by
  simp only [List.mem_cons] at hp ⊢
  rcases hp with h | h | h
  · exact .inr (.inl h)
  · exact .inr (.inr (.inl h))
  · exact .inr (.inr (.inr (.inr h))))
set_option maxRecDepth 100000 in
set_option maxHeartbeats 8000000 in
theorem law_spec (w : World) {mean : ExcName → Option Value} {mg mb : Str → Option Value} {s : Shared} {Q E : Value → Shared → Prop}
    {ns : List Int} {us : List Value} {l : Nat}
    (X : (hd.heap_39 w.params).In s.heap) (T : Top hd.view_39 LZ mean mg mb s.heap) (hl : s.heap.IsList l us.toArray) (hi : IntsAre us ns) (hn : ns.length ≤ 63)
    (ret : ∀ h' tk, (∀ b o, s.heap.get? b = some o → h'.get? b = some o) → Q (.bool true) { s with heap := h', toks := tk }) :
    wpR (model PySem.Challenge.rw_og0134_01.row.prog w) callerA (call (.ref 152) [.ref l]) Q E s := by
  revert X; k_fill; intro X
  refine wpR_call ?_
  (refine' codeR_law ?k1 ?k2 ?k6 ?k7 ?k8 ?k9 ?kB ?kD ?_ ?c2 ?c3 ?c4; (case k1 => exact X); (case k2 => exact T); (case k6 => k_is); (case k7 => k_is); (case k8 => decide); (case k9 => exact BindsTo.of_eq rfl); (case kB => exact rfl); (case kD => decide +kernel); (case c2 => exact rfl); (case c3 => exact rfl); (case c4 => exact rfl); k_whole)
  intro L0 h1 tk1 cells F1 N1 Y1
  k_cells Y1
  (try simp only [List.cons_append, List.nil_append] at N1)
  (try dsimp only); (try k_fold)
  have B1 : Below callerA s.heap [] s.heap := below_caller s.heap
  refine wpR_execs_split [_, _, _, _] ?_
  k_steps
  refine Halt.on ?_
  rename_i o1 o2 o3 e1 e2 e3 D1 c1 hA lA lr ws hB hI2 hC lB q hD lC hE oQ F2 N2 dQ
  have hq0 : QOk ws ns.reverse 0 := ⟨hI2, by rw [hI2.length, List.length_reverse]; exact hn, by rw [List.length_reverse]; exact hn, Int.le_refl _, by decide⟩
  k_dflt (refine LCg.ListComp_U (F₀ := F2) (by with_unfolding_all rfl) (by decide) (by rfl) (by decide) (by rfl) ?_)
  k_steps
  refine Halt.on ?_
  rename Fr s.heap L0 _ _ => F3
  rename News s.heap L0 _ _ => N3
  have hoff : ∀ p ∈ [(D1, listOf us.toArray c1), (L0 + 1 + 1 + 1, o1), (L0 + 1 + 1, o2), (L0 + 1, oQ)], p.1 ∉ ([q, lr] : List Nat) :=
    off_cons (by omega) (by omega) (off_cons (by omega) (by omega) (off_cons (by omega) (by omega) (off_cons (by omega) (by omega) off_nil)))
  k_dflt (refine' pull_at w [] ?kB F3 ?kX ?kN ?kT ?kk hq0 (by decide) (by decide) (by decide) ?kql (fun _ h => (nomatch h)) hoff ?kd ?ku ?_; (case kB => exact B1); (case kX => exact X); (case kN => exact N3); (case kT => exact T); (case kk => exact rfl); (case kql => omega); (case kd => decide); (case ku => decide))
  intro n9 t9 h4 tk4 us4 ns4 j4 tn4 n90 n91 hq4 F4 N4
  simp only [List.nil_append] at N4
  k_steps
  refine Halt.on ?_
  rename IsRange _ _ _ _ _ _ _ _ => hR5
  rename Fr s.heap L0 _ _ => F5
  rename News s.heap L0 _ _ => N5
  have hsz5 : Builtin.Range.rangeSize 0 n9 1 = (n9.toNat : Int) := by have := rangeSize_nat 0 n9; rwa [Int.sub_zero] at this
  refine LCg.CompSrc.range rfl F5 N5 hR5 (small_one (by decide) (by decide) (by omega) (by omega)) hsz5 (by rw [sizeLine_eq]; omega) fun g => ?_
  refine comp_pulls (lo := 0) (hi := 256) ?helt n9.toNat 0 [] [] us4 ns4 (0 + 1) tn4 j4 .nil (fun _ h => (nomatch h)) hq4 (by omega) fun ys6 zs6 us6 ns6 tn6 j6 hi6 hl6 hr6 hq6 => ?_
  case helt =>
    intro I oI C oC D oD m₂ h tk Qy E' us7 ns7 n7 tn7 j7 hoC F7 N7 off7 hq7 hn7 k7
    k_steps
    refine Halt.on ?_
    have h1 : ∀ p ∈ [(I, oI), (C, oC), (D, oD)], p.1 ∉ ([q, lr] : List Nat) :=
      off_cons (Ne.symm off7.1.1) (Ne.symm off7.2.1.1) (off_cons (Ne.symm off7.1.2.1) (Ne.symm off7.2.1.2.1) (off_cons (Ne.symm off7.1.2.2) (Ne.symm off7.2.1.2.2) off_nil))
    rename Fr s.heap L0 _ _ => F8
    rename News s.heap L0 _ _ => N8
    k_dflt (refine' pull_at w [(I, oI), (C, oC), (D, oD)] ?kB F8 ?kX ?kN ?kT ?kk hq7 hn7 (by decide) (by decide) ?kql h1 hoff ?kd ?ku ?_; (case kB => exact B1); (case kX => exact X); (case kN => exact N8); (case kT => exact T); (case kk => exact rfl); (case kql => omega); (case kd => decide); (case ku => decide))
    exact k7
  intro D7 h7 tk7 F7 N7 off7
  k_steps
  k_dflt (refine' call_bytes_ints ?kl hi6 hr6 ?kz rfl ?_; (case kl => exact ⟨_, (N7 _ (List.Mem.head _)).1, rfl, _, rfl⟩); (case kz => (rw [hi6.length, sizeLine_eq]; simp only [List.length_nil] at hl6; omega)))
  intro h8 t8 k8 hk8
  have F8 := F7.keeps hk8
  have N8 := news_drop1 (N7.grown hk8)
  have hb8 : KBw.bInts (byteArr zs6) = zs6 := KBa.ints_make hr6
  clear F7 N7
  have pOn := PullsOn.on
  have hq6' := hq6
  k_steps
  dsimp only
  rename Fr s.heap L0 _ _ => F10
  rename News s.heap L0 _ _ => N10
  rename QOk _ _ _ => hq10
  rename (_ = Data.cell (some (Value.int _ _))) => dD10
  refine stageB (l := lr) (q := q) w X T (fr_name (fr_name (fr_name F10 rfl) rfl) rfl) (news_mid4 N10) hq10 (by omega) (by omega) (by omega) dD10 dQ hb8 (by rw [hl6]; simp only [List.length_nil]; omega) hr6 (by omega) (by omega) e1 (by omega) (by omega) ?_
  intro h' tk hk'
  exact ret h' tk hk'
end Mine
end
section
namespace Mine
theorem walk_off_PL : True := by
  w_top off
  trivial
end Mine
open PySem PySem.W PyProof.Rows
set_option maxRecDepth 100000 in
set_option maxHeartbeats 8000000 in
theorem PySem.Challenge.cw_og0134_01_holds : PySem.Challenge.rw_og0134_01.Holds := by
  refine Mine.hd ?_
  k_fill
  intro w s₀ s₁ mg mb G Y fa o pm cd doc dV kV ho hd hcd hD hmg hg args vals as hpre hlay hrd hwl hlo
  have KX := kIn_of Y
  have X := (Ground.X G).1
  have V := (Ground.X G).2
  try w_nolog (first | (have GL := glob_more (Ground.glob G (by first | k_qdec | decide +kernel) (by first | k_qdec | decide +kernel)) V) | (have GL := glob_more (Ground.glob G (by decide +kernel)) V))
  refine Ground.open G ?_
  intro T B D TE TW
  try (refine guard_noD D (by decide +kernel) ?_; clear D)
  obtain ⟨_, _, M⟩ := bmod_of_top T
  have TA := at_of_top T
  try (obtain ⟨_, _, he, B0⟩ := based_of_top T rfl hmg ho hd; have he' : cd = _ := he; subst he'; clear he)
  wrow_args hpre hlay hrd hwl hlo
  have e152 := mg_of (n := Str.ofString "law") KX T.g (v := .ref 152) rfl
  obtain rfl : fa = 152 := Value.ref.inj (Option.some.inj (hmg.symm.trans e152))
  rename IntsAre _ _ => hI
  rename Heap.IsList _ _ _ => hL
  refine Mine.law_spec w KX T hL hI (by omega) ?_
  intro h' tk hk
  refine ⟨.inl ⟨_, .bool true, [], rfl, raisesW_false ?hn, .bool true, ?hp, unshared_nil⟩, hk, rfl, hg⟩
  case hn => wrow_none_raised
  case hp => exact postW_of (by o_shape) (by wtm_val) (by w_fin)
end

import PyProof.Rows.All
import Wide.All
import OpenK.AllK
import Wide.FinOn
import PySem.Challenge.RW_xm0759_01
set_option Elab.async false
set_option maxRecDepth 100000
set_option linter.unusedVariables false
set_option compiler.extract_closed false
section
open PySem PySem.W PyProof.Rows PySem.Spec PySem.Calls
namespace Mine
/-- a value that breaks P, where one does: a closed word in place of a bound variable -/
noncomputable def eps {T : Type} (n : Nonempty T) (P : T → Prop) : T := @Classical.epsilon T n fun x => ¬ P x
/-- x is such a word -/
def Mk {T : Type} (_ : T) : Prop := True
theorem epsI {T : Type} {n : Nonempty T} {P : T → Prop} (h : Mk (eps n P) → P (eps n P)) : ∀ x, P x := fun x =>
  Classical.byContradiction fun hn => Classical.epsilon_spec (p := fun x => ¬ P x) ⟨x, hn⟩ (h trivial)
/-- no such words from here on -/
structure NoE : Prop
theorem neS : Nonempty Shared := ⟨{}⟩
theorem neA : Nonempty Around := ⟨{}⟩
theorem neW : Nonempty World := ⟨⟨fun _ _ => 0, { strHash := fun _ => 0, shareClass := fun _ => 0, mergeTok := id, idOf := fun _ => 0, idOfShared := fun _ _ => 0, followText := fun _ => true, idOfImm := fun _ => 0 }⟩⟩
end Mine
end
section
open PySem PySem.W PyProof.Rows PySem.Spec PySem.Calls
namespace Mine

/-- a code that is no decoder which may hold a bytearray's octets -/
def calm : Code → Bool
  | .builtin id _ => !Builtin.Bytes.decodersThatHold.contains id
  | _ => true
structure Calm (Γ : PySem.Ctx) : Prop where
  here : calm Γ.code = true
  below : ∀ x ∈ Γ.below, calm x.1 = true
theorem Calm.enter {Γ : PySem.Ctx} (h : Calm Γ) {c : Code} (hc : calm c = true) (x : Option Value) (p : Pos) : Calm (Γ.enter c x p) :=
  ⟨hc, fun y hy => by rcases List.mem_cons.mp hy with rfl | hy; exact h.here; exact h.below y hy⟩
theorem Calm.goto {Γ : PySem.Ctx} (h : Calm Γ) {c : Code} (hc : calm c = true) : Calm (Γ.goto c) := ⟨hc, h.below⟩

/-- the kit's wpAny, over calm stacks alone -/
def wpC {α : Type} (M : Model) (A : Around) (t : Sem α) (Q : α → Shared → Prop) (E : Value → Shared → Prop) (s : Shared) : Prop :=
  ∀ Γ p, Γ.In A → Calm Γ → Sem.wp M Γ t (fun a _ s' => Q a s') (fun e _ s' => E e s') p s
def codeC (M : Model) (A : Around) (c : Code) (R : Result → Shared → Prop) (s : Shared) : Prop :=
  ∀ Γ p, Γ.code = c → Γ.Below A → Calm Γ → wpCode M Γ R p s
/-- no way out by an exception -/
abbrev noE : Value → Shared → Prop := fun _ _ => False
abbrev back (Q : Value → Shared → Prop) (E : Value → Shared → Prop) : Result → Shared → Prop := fun r s' => match r with | .ok (.ret v) => Q v s' | .ok _ => False | .error e => E e s'

section
variable {α β : Type} {M : Model} {A : Around} {E : Value → Shared → Prop} {s : Shared}
theorem wpC.any {t : Sem α} {Q : α → Shared → Prop} (h : wpAny M A t Q E s) : wpC M A t Q E s := fun Γ p hΓ _ => h Γ p hΓ
theorem codeC.any {c : Code} {R : Result → Shared → Prop} (h : codeAny M A c R s) : codeC M A c R s := fun Γ p hc hΓ _ => h Γ p hc hΓ
theorem wpC_pure {a : α} {Q : α → Shared → Prop} (h : Q a s) : wpC M A (pure a) Q E s := fun _ _ _ _ => h
theorem wpC_mono {t : Sem α} {Q Q' : α → Shared → Prop} {E' : Value → Shared → Prop} (h : wpC M A t Q E s)
    (hQ : ∀ a s, Q a s → Q' a s) (hE : ∀ e s, E e s → E' e s) : wpC M A t Q' E' s :=
  fun Γ p hΓ hc => Sem.wp_mono M Γ t (fun a _ s => hQ a s) (fun e _ s => hE e s) p s (h Γ p hΓ hc)
theorem wpC_bind {m : Sem α} {f : α → Sem β} {Q : β → Shared → Prop} (h : wpC M A m (fun a s' => wpC M A (f a) Q E s') E s) :
    wpC M A (m >>= f) Q E s := fun Γ p hΓ hc => by
  rw [Sem.wp_bind']
  exact Sem.wp_mono M Γ m (fun a p' s' h' => h' Γ p' hΓ hc) (fun _ _ _ h' => h') p s (h Γ p hΓ hc)
/-- a step of the kit's, then calm ones -/
theorem wpC_bindA {m : Sem α} {f : α → Sem β} {Q : β → Shared → Prop} (h : wpAny M A m (fun a s' => wpC M A (f a) Q E s') E s) :
    wpC M A (m >>= f) Q E s := wpC_bind (wpC.any h)
theorem wpC_holding {vs : List Value} {m : Sem α} {Q : α → Shared → Prop} (h : wpC M A m Q E s) : wpC M A (holding vs m) Q E s :=
  fun Γ p hΓ hc => by rw [Sem.wp_holding]; exact h Γ p hΓ hc
theorem wpC_keep {vs : List Value} {m : Sem α} {Q : α → Shared → Prop} (h : wpC M A m Q E s) : wpC M A (m.keep vs) Q E s :=
  fun Γ p hΓ hc => by rw [Sem.wp_keep]; exact h Γ p hΓ hc
theorem wpC_operate {vs : List Value} {m : Sem Value} {Q : Value → Shared → Prop} (h : wpC M A m Q E s) : wpC M A (operate vs m) Q E s :=
  fun Γ p hΓ hc => by rw [Sem.wp_operate]; exact h Γ p hΓ hc
theorem wpC_standAt {pos : Pos} {Q : Unit → Shared → Prop} (h : Q () s) : wpC M A (standAt pos) Q E s := fun _ _ _ _ => h
theorem wpC_point {Q : Unit → Shared → Prop} (h : Q () s) : wpC M A point Q E s := fun _ _ _ _ => h
theorem wpC_rule {tag : String} {Q : Unit → Shared → Prop} (h : Q () s) : wpC M A (rule tag) Q E s := fun _ _ _ _ => h
theorem wpC_onRaise {m : Sem α} {k : Value → Sem Unit} {Q : α → Shared → Prop} (h : wpC M A m Q noE s) : wpC M A (m.onRaise k) Q E s := fun Γ p hΓ hc => by
  rw [Sem.wp_onRaise]
  exact Sem.wp_mono M Γ m (fun _ _ _ h' => h') (fun e p' s' h' => h'.elim) p s (h Γ p hΓ hc)
theorem wpC_tryCatch {m : Sem α} {k : Value → Sem α} {Q : α → Shared → Prop} (h : wpC M A m Q noE s) : wpC M A (tryCatch m k) Q E s := fun Γ p hΓ hc => by
  rw [Sem.wp_tryCatch']
  exact Sem.wp_mono M Γ m (fun _ _ _ h' => h') (fun e p' s' h' => h'.elim) p s (h Γ p hΓ hc)

theorem wpC_run {c : Code} {h : Option Value} {Q : Flow → Shared → Prop} (hc : calm c = true)
    (hk : codeC M (A.mark h) c (fun r s' => match r with | .ok f => Q f s' | .error e => E e s') s) (hnb : h ≠ some byPass := by intro x; cases x) :
    wpC M A (run c h) Q E s :=
  fun Γ p hΓ hcl => by rw [Sem.wp_run]; exact hk _ p rfl (hΓ.enter c h p hnb) (hcl.enter hc h p)
theorem wpC_runValue {c : Code} {Q : Value → Shared → Prop} (hc : calm c = true) (hk : codeC M A c (back Q E) s) : wpC M A (runValue c) Q E s := fun Γ p hΓ hcl => by
  rw [Sem.wp_runValue]; exact hk _ p rfl (hΓ.enter c none p (by intro x; cases x)) (hcl.enter hc none p)
theorem wpC_call {f : Value} {pos : List Value} {kw : List (Str × Value)} {Q : Value → Shared → Prop}
    (hk : codeC M A (.call f ⟨pos, kw⟩) (back Q E) s) : wpC M A (call f pos kw) Q E s := wpC_runValue rfl hk
theorem codeC_tree {c : Code} {R : Result → Shared → Prop}
    (h : wpC M (A.under c) (M.den c) (fun fin s' => match fin with | .done f => R (.ok f) s' | .again c' => c'.quiet = true ∧ calm c' = true ∧ codeC M A c' R s')
      (fun e s' => R (.error e) s') s) : codeC M A c R s := fun Γ p hc hΓ hcl => by
  rw [wpCode_iff_wp, hc]
  refine Sem.wp_mono M Γ _ (fun fin p' s' h' => ?_) (fun _ _ _ h' => h') p s (h Γ p (hc ▸ hΓ.in) hcl)
  cases fin with
  | done f => exact h'
  | again c' => exact ⟨h'.1, h'.2.2 (Γ.goto c') p' rfl (hΓ.goto c') (hcl.goto h'.2.1)⟩
theorem codeC_mono {c : Code} {R R' : Result → Shared → Prop} (h : codeC M A c R s) (hR : ∀ r s, R r s → R' r s) : codeC M A c R' s :=
  fun Γ p hc hΓ hcl => wpCode_mono hR (h Γ p hc hΓ hcl)
end

section
variable {prog : Program} {w : World} {A : Around} {E : Value → Shared → Prop} {R : Result → Shared → Prop} {s : Shared} {env : Env}
theorem codeC_func {body : List Stmt}
    (h : wpC (model prog w) (A.deeper env) (execs body env) (fun f s' => R (.ok (.ret (match f with | .ret v => v | _ => .none))) s') noE s) :
    codeC (model prog w) A (.func body env) R s := by
  refine codeC_tree ?_
  show wpC _ (A.deeper env) (do point; match ← (execs body env).onRaise (leaving env) with | .ret v => ret v | _ => ret .none) _ _ s
  refine wpC_bind (wpC_point (wpC_bind (wpC_onRaise (wpC_mono h (fun f s' h' => ?_) fun _ _ h' => h'))))
  cases f <;> exact wpC_pure h'
theorem codeC_builtin {id : String} {args : Args} {b : Builtin} (hb : entryFor table id = some b)
    (h : wpC (model prog w) (A.under (.builtin id args)) (b args)
      (fun fin s' => match fin with | .done f => R (.ok f) s' | .again c' => c'.quiet = true ∧ calm c' = true ∧ codeC (model prog w) A c' R s') (fun e s' => R (.error e) s') s) :
    codeC (model prog w) A (.builtin id args) R s := by
  refine codeC_tree ?_
  show wpC _ _ (match entryFor table id with | some b => b args | none => unsupported ((withoutEnding? id "#data").getD id)) _ _ s
  rw [hb]; exact h
/-- `call` of a built-in whose arguments' check is nothing -/
theorem codeC_call_builtin {id : String} {args : Args} {b : Builtin} (hq : plainId id = true) (hc : calm (.builtin id args) = true) (hb : entryFor table id = some b)
    (hchk : wpAny (model prog w) A.in1 (checkBuiltinCall id args) (fun _ s₁ => wpC (model prog w) A.in1 (b args)
      (fun fin s' => match fin with | .done f => R (.ok f) s' | .again c' => c'.quiet = true ∧ calm c' = true ∧ codeC (model prog w) A c' R s') (fun e s' => R (.error e) s') s₁) (fun e s' => R (.error e) s') s) :
    codeC (model prog w) A (.call (.builtin id) args) R s := by
  refine codeC_tree ?_
  show wpC _ A.in1 (do checkBuiltinCall id args; again (.builtin id args)) _ _ s
  refine wpC_bindA (wpAny_mono hchk (fun _ s₁ h₁ => wpC_pure ⟨plainId_quiet hq args, hc, codeC_builtin hb ?_⟩) fun _ _ h' => h')
  rw [Around.under_plainId hq args]; exact h₁

theorem codeC_call_function {a : Addr} {args : Args} {o : Obj} {fd : FuncData} {body : List Stmt} (hroom : A.depth < recursionLimit)
    (ho : s.heap.get? a = some o) (hd' : o.data = .func fd) (hco : fd.scope.isCoroutine = false) (hgen : fd.scope.isGenerator = false) (hbody : fd.body = .stmts body) (hcd : s.heap.CodeRec fd.code fd.qualname)
    (h : wpAny (model prog w) A.in1 (bindArgs fd args) (fun binds s₁ =>
      wpAny (model prog w) A.in1 (newFunctionEnv fd.scope fd.globals fd.closure binds (fd.qualname ++ ".<locals>.") (some a) fd.code none fd.builtins)
        (fun env s₂ => s₂.heap.NoLimit ∧ codeC (model prog w) A (.func body env) R s₂) noE s₁) noE s) :
    codeC (model prog w) A (.call (.ref a) args) R s := by
  refine codeC_tree ?_
  show wpC _ A.in1 (callAny (.ref a) args) _ _ s
  simp only [callAny]
  refine wpC_bindA (wpAny_load ho ?_)
  obtain ⟨c, oc, vs, tq, hc, hoc, hdc, hq⟩ := hcd
  simp only [hd', callFunction, hco, hgen, hbody, hc]
  rw [hc] at h
  refine wpC_bindA (m := field (.ref c) 1) (wpAny_field hoc hdc hq (wpC_bindA (wpAny_pure ?_)))
  exact wpC_bindA (wpAny_mono h (fun binds s₁ h₁ => wpC_bindA (wpAny_mono h₁ (fun env s₂ h₂ => wpC_bindA (wpAny_enterFrame h₂.1 hroom
    (wpC_pure ⟨rfl, rfl, h₂.2⟩))) fun _ _ h' => h'.elim)) fun _ _ h' => h'.elim)
end
end Mine
end
section
open PySem PySem.W PyProof.Rows PySem.Spec PySem.Calls
namespace Mine

abbrev ba (b : Array UInt8) : Obj := { cls := .type "bytearray", data := .bytearray b 0 }

namespace B
theorem slot (name : String) (id owner : String) (hl : typeLookup (.type "bytearray") name = pure (some (.builtin id)))
    (h2 : splitId id = some (owner, name)) (h3 : withoutEnding? id "#opaque" = none) (h4 : withoutEnding? id "#data" = none)
    (h5 : (Manifest.find? owner).bind (·.attrs.lookup name) = some .slot ∨ (Manifest.find? owner).bind (·.attrs.lookup name) = some .method)
    (h6 : isSubtype (.type "bytearray") (.type owner) = pure true) (h7 : plainId id = true) : Slot "bytearray" name id := .of hl h2 h3 h4 h5 h6 h7
theorem slot_init : Slot "bytearray" "__init__" "bytearray.__init__" :=
  .of (owner := "bytearray") (n := "__init__") (by rw [typeLookup_type, builtinLookup_eq_fast]; kernel_rfl) (by decide +kernel) (by decide +kernel) (by decide +kernel) (by first | exact .inl (by decide +kernel) | exact .inr (by decide +kernel)) (by rw [isSubtype_type]; kernel_rfl)
theorem slot_len : Slot "bytearray" "__len__" "bytearray.__len__" :=
  .of (owner := "bytearray") (n := "__len__") (by rw [typeLookup_type, builtinLookup_eq_fast]; kernel_rfl) (by decide +kernel) (by decide +kernel) (by decide +kernel) (by first | exact .inl (by decide +kernel) | exact .inr (by decide +kernel)) (by rw [isSubtype_type]; kernel_rfl)
theorem slot_getitem : Slot "bytearray" "__getitem__" "bytearray.__getitem__" :=
  .of (owner := "bytearray") (n := "__getitem__") (by rw [typeLookup_type, builtinLookup_eq_fast]; kernel_rfl) (by decide +kernel) (by decide +kernel) (by decide +kernel) (by first | exact .inl (by decide +kernel) | exact .inr (by decide +kernel)) (by rw [isSubtype_type]; kernel_rfl)
theorem slot_setitem : Slot "bytearray" "__setitem__" "bytearray.__setitem__" :=
  .of (owner := "bytearray") (n := "__setitem__") (by rw [typeLookup_type, builtinLookup_eq_fast]; kernel_rfl) (by decide +kernel) (by decide +kernel) (by decide +kernel) (by first | exact .inl (by decide +kernel) | exact .inr (by decide +kernel)) (by rw [isSubtype_type]; kernel_rfl)
theorem slot_delitem : Slot "bytearray" "__delitem__" "bytearray.__delitem__" :=
  .of (owner := "bytearray") (n := "__delitem__") (by rw [typeLookup_type, builtinLookup_eq_fast]; kernel_rfl) (by decide +kernel) (by decide +kernel) (by decide +kernel) (by first | exact .inl (by decide +kernel) | exact .inr (by decide +kernel)) (by rw [isSubtype_type]; kernel_rfl)
theorem slot_extend : Slot "bytearray" "extend" "bytearray.extend" :=
  .of (owner := "bytearray") (n := "extend") (by rw [typeLookup_type, builtinLookup_eq_fast]; kernel_rfl) (by decide +kernel) (by decide +kernel) (by decide +kernel) (by first | exact .inl (by decide +kernel) | exact .inr (by decide +kernel)) (by rw [isSubtype_type]; kernel_rfl)
theorem lk_buffer : typeLookup (.type "bytearray") "__buffer__" = pure (some (.builtin "bytearray.__buffer__")) := by rw [typeLookup_type, builtinLookup_eq_fast]; kernel_rfl
theorem lk_release : typeLookup (.type "bytearray") "__release_buffer__" = pure (some (.builtin "bytearray.__release_buffer__")) := by rw [typeLookup_type, builtinLookup_eq_fast]; kernel_rfl
theorem lk_bytes : typeLookup (.type "bytearray") "__bytes__" = pure none := by rw [typeLookup_type, builtinLookup_eq_fast]; kernel_rfl
theorem lk_index : typeLookup (.type "bytearray") "__index__" = pure none := by rw [typeLookup_type, builtinLookup_eq_fast]; kernel_rfl
theorem lkb_buffer : typeLookup (.type "bytes") "__buffer__" = pure (some (.builtin "bytes.__buffer__")) := by rw [typeLookup_type, builtinLookup_eq_fast]; kernel_rfl
theorem lkb_release : typeLookup (.type "bytes") "__release_buffer__" = pure none := by rw [typeLookup_type, builtinLookup_eq_fast]; kernel_rfl
theorem lkb_index : typeLookup (.type "bytes") "__index__" = pure none := by rw [typeLookup_type, builtinLookup_eq_fast]; kernel_rfl
theorem lkb_int : typeLookup (.type "bytes") "__int__" = pure none := by rw [typeLookup_type, builtinLookup_eq_fast]; kernel_rfl
theorem lkb_float : typeLookup (.type "bytes") "__float__" = pure none := by rw [typeLookup_type, builtinLookup_eq_fast]; kernel_rfl
theorem lkb_bytes : typeLookup (.type "bytes") "__bytes__" = pure (some (.builtin "bytes.__bytes__")) := by rw [typeLookup_type, builtinLookup_eq_fast]; kernel_rfl
theorem lki_bytes : typeLookup (.type "int") "__bytes__" = pure none := by rw [typeLookup_type, builtinLookup_eq_fast]; kernel_rfl
theorem lki_index : typeLookup (.type "int") "__index__" = pure (some (.builtin "int.__index__")) := by rw [typeLookup_type, builtinLookup_eq_fast]; kernel_rfl
theorem sub_bytes_ba : isSubtype (.type "bytes") (.type "bytearray") = pure false := by rw [isSubtype_type]; kernel_rfl
theorem sub_bytes_complex : isSubtype (.type "bytes") (.type "complex") = pure false := by rw [isSubtype_type]; kernel_rfl
theorem sub_ba : isSubtype (.type "bytearray") (.type "bytearray") = pure true := by rw [isSubtype_type]; kernel_rfl
theorem mro_ba : mroOf (.type "bytearray") = pure [.type "bytearray", .type "object"] := by rw [mroOf_type]; kernel_rfl
theorem lk_new : typeLookup (.type "bytearray") "__new__" = pure (some (.builtin "bytearray.__new__")) := by rw [typeLookup_type, builtinLookup_eq_fast]; kernel_rfl
theorem called : TypeCalled "bytearray" "bytearray.__new__" "bytearray.__init__" :=
  ⟨by decide +kernel, by decide +kernel, ⟨_, _, mro_ba⟩, madeBy_type mro_ba lk_new (by decide +kernel), by decide +kernel, by rw [isSubtype_type]; kernel_rfl, slot_init⟩
theorem entry_init : entryFor table "bytearray.__init__" = some Builtin.«bytearray.__init__» := by first | exact entryFor_of_fast (by kernel_rfl) | exact entryFor_of_tree (by kernel_rfl)
theorem entry_len : entryFor table "bytearray.__len__" = some Builtin.«bytearray.__len__» := by first | exact entryFor_of_fast (by kernel_rfl) | exact entryFor_of_tree (by kernel_rfl)
theorem entry_getitem : entryFor table "bytearray.__getitem__" = some Builtin.«bytearray.__getitem__» := by first | exact entryFor_of_fast (by kernel_rfl) | exact entryFor_of_tree (by kernel_rfl)
theorem entry_setitem : entryFor table "bytearray.__setitem__" = some Builtin.«bytearray.__setitem__» := by first | exact entryFor_of_fast (by kernel_rfl) | exact entryFor_of_tree (by kernel_rfl)
theorem entry_delitem : entryFor table "bytearray.__delitem__" = some Builtin.«bytearray.__delitem__» := by first | exact entryFor_of_fast (by kernel_rfl) | exact entryFor_of_tree (by kernel_rfl)
theorem entry_extend : entryFor table "bytearray.extend" = some Builtin.«bytearray.extend» := by first | exact entryFor_of_fast (by kernel_rfl) | exact entryFor_of_tree (by kernel_rfl)
theorem entry_new : entryFor table "bytearray.__new__" = some Builtin.«list.__new__» :=
  entryFor_alias (id' := "list.__new__") (by rw [fastTable_eq_tree]; kernel_rfl) (by first | rfl | decide +kernel) (by decide +kernel) (by rw [fastTable_eq_tree]; kernel_rfl)
theorem newCall0 : checkBuiltinCall "bytearray.__new__" ⟨[.type "bytearray"], []⟩ = pure () := by kernel_rfl
theorem newCall1 (a : Value) : checkBuiltinCall "bytearray.__new__" ⟨[.type "bytearray", a], []⟩ = pure () := by kernel_rfl
theorem typeCall0 : checkTypeCall "bytearray" ⟨[], []⟩ = pure () := by kernel_rfl
theorem typeCall1 (a : Value) : checkTypeCall "bytearray" ⟨[a], []⟩ = pure () := by kernel_rfl
theorem plain_new : plainId "bytearray.__new__" = true := by decide +kernel
end B

/-- no calm stack holds a bytearray fast -/
theorem exported_no {M : Model} {A : Around} {E : Value → Shared → Prop} {s : Shared} {a : Addr} {Q : Bool → Shared → Prop} (hg : A.guards = some []) (h : Q false s) :
    wpC M A (Builtin.Bytes.exported (.ref a)) Q E s := fun Γ p hΓ hc => by
  have hgs := hΓ.2.2.2.1 _ hg
  unfold Builtin.Bytes.exported
  rw [Sem.wp_bind']
  show Sem.wp M Γ (.stack .pure) _ _ p s
  rw [Sem.wp_stack, Sem.wp_pure]
  have hall : ∀ x ∈ (Γ.code, p) :: Γ.below, x.1.isGuard = false ∧ calm x.1 = true := by
    rw [← guardsOf_cons Γ.code p] at hgs
    intro x hx
    refine ⟨?_, ?_⟩
    · cases hb : x.1.isGuard with
      | false => rfl
      | true =>
        have : x.1 ∈ guardsOf ((Γ.code, p) :: Γ.below) := by
          unfold guardsOf
          exact List.mem_filter.mpr ⟨List.mem_map_of_mem hx, hb⟩
        rw [hgs] at this; cases this
    · rcases List.mem_cons.mp hx with rfl | hx
      · exact hc.here
      · exact hc.below x hx
  show Q (((Γ.code, p) :: Γ.below).any _) s
  refine Eq.mpr (congrArg (fun b => Q b s) (List.any_eq_false.mpr ?_)) h
  intro x hx
  obtain ⟨h1, h2⟩ := hall x hx
  obtain ⟨c, q⟩ := x
  dsimp only at h1 h2 ⊢
  split
  all_goals (first
      | exact Bool.false_ne_true
      | (rename_i e; cases e; exfalso; revert h1; simp only [Code.isGuard]; decide)
      | (rename_i e; cases e; simp only [calm, Bool.not_eq_true'] at h2; rw [h2, Bool.and_false]; exact Bool.false_ne_true))
end Mine
end
section
open PySem PySem.W PyProof.Rows PySem.Spec PySem.Calls
namespace Mine
set_option maxRecDepth 1000000 in
set_option maxHeartbeats 4000000 in
theorem owner_new : ("bytearray.__new__".splitOn ".__new__").headD "" = "bytearray" := by simp +decide [String.splitOn, String.splitOnAux]

section
variable {prog : Program} {w : World} {A : Around} {E : Value → Shared → Prop} {s : Shared}
theorem code_new {args : List Value} {Q₁ : Value → Shared → Prop} (hchk : checkBuiltinCall "bytearray.__new__" ⟨.type "bytearray" :: args, []⟩ = pure ())
    (h : Q₁ (.ref s.heap.objs.size) { s with heap := s.heap.push (ba #[]) }) :
    codeAny (model prog w) A (.call (.builtin "bytearray.__new__") ⟨.type "bytearray" :: args, []⟩) (wants Q₁ E) s := by
  refine codeAny_of_tree ?_
  show wpAny _ A.in1 (do checkBuiltinCall "bytearray.__new__" ⟨.type "bytearray" :: args, []⟩; again (.builtin "bytearray.__new__" ⟨.type "bytearray" :: args, []⟩)) _ _ s
  refine wpAny_bind (wpAny_of_eq hchk (wpAny_pure ⟨plainId_quiet B.plain_new _, codeAny_builtin_stack B.entry_new rfl fun p st => ?_⟩))
  rw [Around.under_plainId B.plain_new _]
  have hsub := B.sub_ba
  have hown := owner_new
  obtain ⟨hp, g, d, tk, os⟩ := s
  simp only [hown]
  wp_walk
  exact h
end
end Mine
end
section
open PySem PySem.W PyProof.Rows PySem.Spec PySem.Calls
namespace Mine
section
variable {prog : Program} {w : World} {A : Around} {E : Value → Shared → Prop} {s : Shared}
theorem calm_id {id : String} {args : Args} (h : Builtin.Bytes.decodersThatHold.contains id = false) : calm (.builtin id args) = true := by show (!_) = true; rw [h]; rfl
theorem wpC_callSpecial {self : Value} {T : String} {name : Str} {id : String} {args : List Value} {kw : List (Str × Value)} {M : Model}
    {Q : Option Value → Shared → Prop} (hT : s.TypeIs self T) (h : Slot T name id)
    (hc : wpC M A (call (.builtin id) (self :: args) kw) (fun v => Q (some v)) E s) : wpC M A (callSpecial? self name args kw) Q E s := by
  simp only [callSpecial?]
  refine wpC_bindA (wpAny_specialOf hT h.lookup ?_)
  simp only [h.bind]
  exact wpC_holding (wpC_bindA (wpAny_pure (wpC_bind (wpC_mono hc (fun v s' h' => wpC_pure h') fun _ _ h' => h'))))
/-- a built-in's slot, called -/
theorem wpC_slot {self : Value} {T : String} {name : Str} {id : String} {args : List Value} {b : Builtin}
    {Q : Value → Shared → Prop} (hT : s.TypeIs self T) (h : Slot T name id) (hb : entryFor table id = some b) (hc : calm (.builtin id ⟨self :: args, []⟩) = true) (ha : argsOk id ⟨self :: args, []⟩)
    (hk : wpC (model prog w) A.in1 (b ⟨self :: args, []⟩) (fun fin s' => ∃ v, fin = .done (.ret v) ∧ Q v s') E s) :
    wpC (model prog w) A (call (.builtin id) (self :: args)) Q E s := by
  refine wpC_call (codeC_call_builtin h.plain hc hb (h.check _ _ _ _ _ _ _ _ hT ha (wpC_mono hk (fun fin s' h' => ?_) fun _ _ h' => h')))
  obtain ⟨v, rfl, hv⟩ := h'; exact hv
theorem wpC_callType {T newId initId : String} {Bi : Builtin} {args : List Value} {Q Q₁ : Value → Shared → Prop} (ft : TypeCalled T newId initId)
    (hct : checkTypeCall T ⟨args, []⟩ = pure ()) (entryI : entryFor table initId = some Bi)
    (hnew : codeAny (model prog w) A.in1 (.call (.builtin newId) ⟨.type T :: args, []⟩) (wants Q₁ E) s)
    (hnext : ∀ obj s₁, Q₁ obj s₁ → s₁.TypeIs obj T ∧ argsOk initId ⟨obj :: args, []⟩ ∧ calm (.builtin initId ⟨obj :: args, []⟩) = true ∧
      wpC (model prog w) A.in1.in1 (Bi ⟨obj :: args, []⟩) (fun fin s' => fin = .done (.ret .none) ∧ Q obj s') E s₁) :
    wpC (model prog w) A (call (.type T) args) Q E s := by
  obtain ⟨c, tl, hmro⟩ := ft.mro
  have hmade := ft.made
  have hsub := ft.sub
  have h1 := ft.notType
  have h2 := ft.canCreate
  refine wpC_call (codeC_tree ?_)
  show wpC _ _ (callAny (.type T) _) _ _ _
  refine wpC_pure ⟨Code.quiet_builtin _ (by decide +kernel), calm_id (by decide +kernel), codeC_builtin F.entry_type_call ?_⟩
  rw [Around.under_plain (weight_type_call_type T args []) rfl]
  unfold Builtin.«type.__call__»
  simp only [h1, h2, hct, hmro, hmade, pure_bind, Bool.false_eq_true, if_false]
  show wpC _ _ (holding [Value.builtin newId] (call (Value.builtin newId) (Value.type T :: args)) >>= _) _ _ _
  refine wpC_bindA (wpAny_holding (wpAny_call (codeAny_mono hnew fun r s₁ hr => ?_)))
  cases r with
  | error e => exact hr
  | ok fl =>
    cases fl with
    | ret obj =>
      obtain ⟨hT, hok, hcalm, hk⟩ := hnext _ _ hr
      refine wpC_bindA (wpAny_isInstance hT hsub ?_)
      show wpC _ _ (holding [obj] (callSpecial? obj (Str.ofString "__init__") args) >>= _) _ _ _
      refine wpC_bind (wpC_holding (wpC_callSpecial hT ft.init (wpC_slot hT ft.init entryI hcalm hok (wpC_mono hk (fun fin s' hf => ⟨.none, hf.1, ?_⟩) fun _ _ e => e))))
      exact wpC_pure hf.2
    | _ => exact hr.elim
end
end Mine
end
section
open PySem PySem.W PyProof.Rows PySem.Spec PySem.Calls
open PySem.Builtin PySem.Builtin.Bytes
namespace Mine
theorem typeIs_ba {s : Shared} {a : Addr} {b : Array UInt8} (h : s.heap.get? a = some (ba b)) : s.TypeIs (.ref a) "bytearray" := ⟨_, h, rfl⟩
theorem typeIs_by (s : Shared) (b : Array UInt8) (t : Tok) : s.TypeIs (.bytes b t) "bytes" := typeIs_bytes s b t
section
variable {M : Model} {A : Around} {E : Value → Shared → Prop} {s : Shared} {a : Addr} {b : Array UInt8}
theorem payload_ba {Q : Array UInt8 → Shared → Prop} (h : s.heap.get? a = some (ba b)) (hq : Q b s) : wpAny M A (payload (.ref a)) Q E s := by
  unfold payload payload?
  exact wpAny_bind (wpAny_bind (wpAny_load h (wpAny_pure (wpAny_pure hq))))
theorem payload_by {t : Tok} {Q : Array UInt8 → Shared → Prop} (hq : Q b s) : wpAny M A (payload (.bytes b t)) Q E s := by
  unfold payload payload?
  exact wpAny_bind (wpAny_pure (wpAny_pure hq))
theorem exports_ba {Q : Nat → Shared → Prop} (h : s.heap.get? a = some (ba b)) (hq : Q 0 s) : wpAny M A (exportsOf (.ref a)) Q E s := by
  unfold exportsOf
  exact wpAny_bind (wpAny_load h (wpAny_pure hq))
theorem write_ba {f : Array UInt8 → Array UInt8} {Q : Unit → Shared → Prop} (h : s.heap.get? a = some (ba b)) (hz : (f b).size ≤ sizeLine)
    (hq : ∀ h', Heap.SameBut a s.heap h' → h'.get? a = some (ba (f b)) → Q () { s with heap := h' }) : wpAny M A (Bytes.write (.ref a) f) Q E s := by
  have hu : (s.heap.update a (Obj.mapBytearray f)).get? a = some (ba (f b)) := Heap.get?_update_self (Obj.mapBytearray f) h rfl
  show wpAny M A (updateBytearray a f) Q E s
  unfold updateBytearray
  refine wpAny_bind (wpAny_load h ?_)
  refine wpAny_bind (wpAny_update h ?_)
  refine wpAny_lookBehind hu ?_ (hq _ (Heap.SameBut.update ..) hu)
  show (if (f b).size > sizeLine then some "bytearray:memory" else none) = none
  rw [if_neg (Nat.not_lt.mpr hz)]
theorem anyExport {Q : Bool → Shared → Prop} (hg : A.guards = some []) (h : s.heap.get? a = some (ba b)) (hq : Q false s) :
    wpC M A (exported (.ref a) <||> (do return (← exportsOf (.ref a)) > 0)) Q E s := by
  unfold orM
  refine wpC_bind (exported_no hg ?_)
  exact wpC_bindA (exports_ba h (wpC_pure hq))
theorem checkResize_ok {Q : Unit → Shared → Prop} (hg : A.guards = some []) (h : s.heap.get? a = some (ba b)) (hq : Q () s) : wpC M A (checkResize (.ref a)) Q E s := by
  unfold checkResize
  exact wpC_bind (anyExport hg h (wpC_pure hq))
theorem dec_release : (("bytearray.__release_buffer__" : String).endsWith ("." ++ "__release_buffer__")) = true := by decide +kernel
theorem drop_release : (("bytearray.__release_buffer__" : String).dropRight (("__release_buffer__" : String).length + 1)) = "bytearray" := by decide +kernel
theorem ownRelease_ba {Q : Bool → Shared → Prop} (h : s.heap.get? a = some (ba b)) (hq : Q false s) : wpAny M A (ownRelease (.ref a)) Q E s := by
  unfold ownRelease slotIsOwn
  refine wpAny_bind (wpAny_bind (wpAny_specialOf (typeIs_ba h) B.lk_release ?_))
  dsimp only
  rw [dec_release, drop_release]
  refine wpAny_isInstance (typeIs_ba h) B.sub_ba ?_
  exact wpAny_pure hq
end
end Mine
end
section
open PySem PySem.W PyProof.Rows PySem.Spec PySem.Calls
open PySem.Builtin PySem.Builtin.Bytes
namespace Mine
theorem bind0 : Bytes.bindOptional "bytearray.__init__" "bytearray" ["source", "encoding", "errors"] [] [] = pure [none, none, none] := by kernel_rfl
theorem bind1 (v : Value) : Bytes.bindOptional "bytearray.__init__" "bytearray" ["source", "encoding", "errors"] [v] [] = pure [some v, none, none] := by kernel_rfl
theorem ends_bbuf : (("bytes.__buffer__" : String).endsWith ("." ++ "__buffer__")) = true := by decide +kernel
theorem drop_bbuf : (("bytes.__buffer__" : String).dropRight (("__buffer__" : String).length + 1)) = "bytes" := by decide +kernel
theorem ends_abuf : (("bytearray.__buffer__" : String).endsWith ("." ++ "__buffer__")) = true := by decide +kernel
theorem drop_abuf : (("bytearray.__buffer__" : String).dropRight (("__buffer__" : String).length + 1)) = "bytearray" := by decide +kernel
section
variable {M : Model} {A : Around} {E : Value → Shared → Prop} {s : Shared} {a : Addr} {b : Array UInt8}
theorem ownRelease_by {t : Tok} {Q : Bool → Shared → Prop} (hq : Q false s) : wpAny M A (ownRelease (.bytes b t)) Q E s := by
  unfold ownRelease slotIsOwn
  refine wpAny_bind (wpAny_bind (wpAny_specialOf (typeIs_by s b t) B.lkb_release ?_))
  exact wpAny_pure (wpAny_pure hq)
theorem buffer_by {id : String} {full : Bool} {t : Tok} {Q : Option (Array UInt8) → Shared → Prop} (hq : Q (some b) s) : wpAny M A (buffer? id (.bytes b t) full) Q E s := by
  have hT := typeIs_by s b t
  unfold buffer?
  refine wpAny_bind (wpAny_specialOf hT B.lkb_buffer ?_)
  refine wpAny_bind ?_
  unfold slotIsOwn
  refine wpAny_bind (wpAny_specialOf hT B.lkb_buffer ?_)
  dsimp only
  rw [ends_bbuf, drop_bbuf]
  refine wpAny_isInstance hT F.bm_sub ?_
  refine wpAny_bind (wpAny_specialOf hT B.lkb_buffer ?_)
  refine wpAny_bind (ownRelease_by ?_)
  exact wpAny_bind (payload_by (wpAny_pure hq))
theorem buffer_ba {id : String} {full : Bool} {Q : Option (Array UInt8) → Shared → Prop} (h : s.heap.get? a = some (ba b)) (hq : Q (some b) s) : wpAny M A (buffer? id (.ref a) full) Q E s := by
  have hT := typeIs_ba h
  unfold buffer?
  refine wpAny_bind (wpAny_specialOf hT B.lk_buffer ?_)
  refine wpAny_bind ?_
  unfold slotIsOwn
  refine wpAny_bind (wpAny_specialOf hT B.lk_buffer ?_)
  dsimp only
  rw [ends_abuf, drop_abuf]
  refine wpAny_isInstance hT B.sub_ba ?_
  refine wpAny_bind (wpAny_specialOf hT B.lk_buffer ?_)
  refine wpAny_bind (ownRelease_ba h ?_)
  exact wpAny_bind (payload_ba h (wpAny_pure hq))
end
section
variable {prog : Program} {w : World} {A : Around} {E : Value → Shared → Prop} {s : Shared} {a : Addr} {b : Array UInt8}
theorem init0 {Q : Fin → Shared → Prop} (hg : A.guards = some []) (h : s.heap.get? a = some (ba b))
    (hq : ∀ h', Heap.SameBut a s.heap h' → h'.get? a = some (ba #[]) → Q (.done (.ret .none)) { s with heap := h' }) :
    wpC (model prog w) A (Builtin.«bytearray.__init__» ⟨[.ref a], []⟩) Q E s := by
  unfold Builtin.«bytearray.__init__»
  refine wpC_bindA (ownRelease_ba h ?_)
  refine wpC_bindA (wpAny_of_eq bind0 ?_)
  refine wpC_bindA (wpAny_of_eq (a := ()) rfl ?_)
  refine wpC_bindA (wpAny_of_eq (a := ()) rfl ?_)
  refine wpC_bind (anyExport hg h ?_)
  refine wpC_bindA (write_ba h (Nat.zero_le _) fun h' hs ha => ?_)
  exact wpC_pure (hq h' hs ha)
theorem init1 {o : Array UInt8} {t : Tok} {Q : Fin → Shared → Prop} (hg : A.guards = some []) (h : s.heap.get? a = some (ba b)) (hz : o.size ≤ sizeLine)
    (hq : ∀ h', Heap.SameBut a s.heap h' → h'.get? a = some (ba o) → Q (.done (.ret .none)) { s with heap := h' }) :
    wpC (model prog w) A (Builtin.«bytearray.__init__» ⟨[.ref a, .bytes o t], []⟩) Q E s := by
  unfold Builtin.«bytearray.__init__»
  refine wpC_bindA (ownRelease_ba h ?_)
  refine wpC_bindA (wpAny_of_eq (bind1 _) ?_)
  refine wpC_bindA (wpAny_of_eq (a := ()) rfl ?_)
  refine wpC_bindA (wpAny_of_eq (a := ()) rfl ?_)
  refine wpC_bind (anyExport hg h ?_)
  refine wpC_bindA (write_ba h (Nat.zero_le _) fun h' hs ha => ?_)
  refine wpC_bindA (wpAny_of_eq (a := none) rfl ?_)
  refine wpC_bindA (wpAny_of_eq (a := ()) rfl ?_)
  refine wpC_bindA (wpAny_specialOf (typeIs_by _ o t) B.lkb_index ?_)
  refine wpC_bindA (buffer_by ?_)
  refine wpC_bindA (wpAny_rule ?_)
  refine wpC_bindA (write_ba ha hz fun h'' hs' ha' => ?_)
  exact wpC_pure (hq h'' (hs.trans hs') ha')
end
end Mine
end
section
open PySem PySem.W PyProof.Rows PySem.Spec PySem.Calls
open PySem.Builtin PySem.Builtin.Bytes
namespace Mine
section
variable {prog : Program} {w : World} {A : Around} {E : Value → Shared → Prop} {s : Shared} {a : Addr} {b : Array UInt8}
/-- what a call of bytearray() leaves: one new object at the heap's end -/
def NewBa (s : Shared) (o : Array UInt8) (h' : Heap) : Prop := (∀ x q, s.heap.get? x = some q → h'.get? x = some q) ∧ h'.get? s.heap.objs.size = some (ba o) ∧ h'.objs.size = s.heap.objs.size + 1
theorem NewBa.of {o : Array UInt8} {h' : Heap} (hs : Heap.SameBut s.heap.objs.size (s.heap.push (ba #[])) h') (hn : h'.get? s.heap.objs.size = some (ba o)) : NewBa s o h' :=
  ⟨fun x q e => hs.extBut x q (Nat.ne_of_lt (Heap.lt_size e)) (Heap.get?_push_of_some _ e), hn, by rw [hs.1, Heap.size_push]⟩
theorem args_init0 (x : Value) : argsOk "bytearray.__init__" ⟨[x], []⟩ := by kernel_rfl
theorem args_init1 (x y : Value) : argsOk "bytearray.__init__" ⟨[x, y], []⟩ := by kernel_rfl
theorem call_ba0 {Q : Value → Shared → Prop} (hg : A.guards = some []) (hq : ∀ h', NewBa s #[] h' → Q (.ref s.heap.objs.size) { s with heap := h' }) :
    wpC (model prog w) A (call (.type "bytearray") []) Q E s := by
  refine wpC_callType (Q₁ := fun obj s₁ => obj = .ref s.heap.objs.size ∧ s₁ = { s with heap := s.heap.push (ba #[]) }) B.called B.typeCall0 B.entry_init (code_new B.newCall0 ⟨rfl, rfl⟩) ?_
  rintro obj s₁ ⟨rfl, rfl⟩
  have hn : (s.heap.push (ba #[])).get? s.heap.objs.size = some (ba #[]) := Heap.get?_push_size _ rfl
  exact ⟨typeIs_ba (b := #[]) hn, args_init0 _, calm_id (by decide +kernel), init0 hg hn fun h' hs ha => ⟨rfl, hq h' (NewBa.of hs ha)⟩⟩
theorem call_ba1 {o : Array UInt8} {t : Tok} {Q : Value → Shared → Prop} (hg : A.guards = some []) (hz : o.size ≤ sizeLine) (hq : ∀ h', NewBa s o h' → Q (.ref s.heap.objs.size) { s with heap := h' }) :
    wpC (model prog w) A (call (.type "bytearray") [.bytes o t]) Q E s := by
  refine wpC_callType (Q₁ := fun obj s₁ => obj = .ref s.heap.objs.size ∧ s₁ = { s with heap := s.heap.push (ba #[]) }) B.called (B.typeCall1 _) B.entry_init (code_new (B.newCall1 _) ⟨rfl, rfl⟩) ?_
  rintro obj s₁ ⟨rfl, rfl⟩
  have hn : (s.heap.push (ba #[])).get? s.heap.objs.size = some (ba #[]) := Heap.get?_push_size _ rfl
  exact ⟨typeIs_ba (b := #[]) hn, args_init1 _ _, calm_id (by decide +kernel), init1 hg hn hz fun h' hs ha => ⟨rfl, hq h' (NewBa.of hs ha)⟩⟩

theorem take_by {id : String} {t : Tok} {M : Model} {Q : Option (Array UInt8 × Option Value) → Shared → Prop} (hq : Q (some (b, none)) s) : wpAny M A (takeBufferQuiet? id (.bytes b t) 0) Q E s := by
  have hT := typeIs_by s b t
  unfold takeBufferQuiet?
  refine wpAny_bind (wpAny_attempt ?_)
  unfold takeBuffer?
  refine wpAny_bind (wpAny_specialOf hT B.lkb_buffer ?_)
  refine wpAny_bind ?_
  unfold slotIsOwn
  refine wpAny_bind (wpAny_specialOf hT B.lkb_buffer ?_)
  dsimp only
  rw [ends_bbuf, drop_bbuf]
  refine wpAny_isInstance hT F.bm_sub ?_
  refine wpAny_bind (wpAny_specialOf hT B.lkb_buffer ?_)
  refine wpAny_bind (buffer_by ?_)
  exact wpAny_pure (wpAny_pure hq)
theorem args_extend (x y : Value) : argsOk "bytearray.extend" ⟨[x, y], []⟩ := by kernel_rfl
theorem call_extend {o : Array UInt8} {t : Tok} {Q : Value → Shared → Prop} (hg : A.guards = some []) (h : s.heap.get? a = some (ba b)) (hz : (b ++ o).size ≤ sizeLine)
    (hq : ∀ h', Heap.SameBut a s.heap h' → h'.get? a = some (ba (b ++ o)) → Q .none { s with heap := h' }) :
    wpC (model prog w) A (call (.builtin "bytearray.extend") [.ref a, .bytes o t]) Q E s := by
  refine wpC_slot (typeIs_ba h) B.slot_extend B.entry_extend (calm_id (by decide +kernel)) (args_extend _ _) ?_
  unfold Builtin.«bytearray.extend»
  refine wpC_bindA (wpAny_of_eq (a := (Value.ref a, Value.bytes o t)) rfl ?_)
  refine wpC_bindA (wpAny_specialOf (typeIs_by _ o t) B.lkb_buffer ?_)
  refine wpC_bindA (wpAny_rule ?_)
  refine wpC_bindA (payload_ba h ?_)
  refine wpC_bindA (take_by ?_)
  show wpC _ _ (if (!o.isEmpty) = true then (checkResize (.ref a) >>= fun _ => Bytes.write (.ref a) (· ++ o) >>= fun _ => ret .none) else (Bytes.write (.ref a) (· ++ o) >>= fun _ => ret .none)) _ _ _
  have fin : wpC (model prog w) A.in1 (Bytes.write (.ref a) (· ++ o) >>= fun _ => ret .none) (fun fin s' => ∃ v, fin = .done (.ret v) ∧ Q v s') E s :=
    wpC_bindA (write_ba h hz fun h' hs ha => wpC_pure ⟨_, rfl, hq h' hs ha⟩)
  cases he : !o.isEmpty with
  | false => exact fin
  | true => exact wpC_bind (checkResize_ok hg h fin)
end
end Mine
end
section
open PySem PySem.W PyProof.Rows PySem.Spec PySem.Calls
open PySem.Builtin PySem.Builtin.Bytes
namespace Mine
section
variable {M : Model} {A : Around} {E : Value → Shared → Prop} {s : Shared} {a sl : Addr} {b : Array UInt8}
theorem part_int {α : Type} {i : Int} {t : Tok} {k : Value → Sem α} {Q : α → Shared → Prop} (hq : wpAny M A (k (rawInt i)) Q E s) :
    wpAny M A ((do
      if (Value.int i t == .none) = true then return .none
      if (← specialOf (.int i t) "__index__").isNone then
        rule "bytes.slice.part-no-index"; raiseError "TypeError" "slice indices must be integers or None or have an __index__ method"
      return rawInt (← asIndex (.int i t)) : Sem Value) >>= k) Q E s := by
  refine wpAny_bind ?_
  refine wpAny_ite ?_
  rw [if_neg (show ¬ ((Value.int i t == Value.none) = true) from Bool.false_ne_true)]
  refine wpAny_bind (wpAny_specialOf (T := "int") rfl B.lki_index ?_)
  refine wpAny_ite ?_
  rw [if_neg (show ¬ ((some (Value.builtin "int.__index__")).isNone = true) from Bool.false_ne_true)]
  exact wpAny_bind (wpAny_of_eq (a := i) rfl (wpAny_pure hq))
theorem parts_none_int {lo hi : Int} {t u : Tok} {Q : Value × Value × Value → Shared → Prop} (h : s.heap.IsSliceOf sl (.int lo t) (.int hi u) .none) (hq : Q (rawInt lo, rawInt hi, .none) s) :
    wpAny M A (sliceParts (.ref sl)) Q E s := by
  obtain ⟨o, ho, hc, hd⟩ := h
  unfold sliceParts
  refine wpAny_bind (wpAny_field (x := .none) ho hd rfl ?_)
  refine wpAny_bind (wpAny_of_eq (a := Value.none) rfl ?_)
  refine wpAny_ite ?_
  rw [if_neg (show ¬ ((Value.none == rawInt 0) = true) from Bool.false_ne_true)]
  refine wpAny_bind (wpAny_field (x := .int lo t) ho hd rfl ?_)
  refine part_int ?_
  refine wpAny_bind (wpAny_field (x := .int hi u) ho hd rfl ?_)
  refine part_int ?_
  exact wpAny_pure hq
theorem parts_none_lo {lo : Int} {t : Tok} {Q : Value × Value × Value → Shared → Prop} (h : s.heap.IsSliceOf sl (.int lo t) .none .none) (hq : Q (rawInt lo, .none, .none) s) :
    wpAny M A (sliceParts (.ref sl)) Q E s := by
  obtain ⟨o, ho, hc, hd⟩ := h
  unfold sliceParts
  refine wpAny_bind (wpAny_field (x := .none) ho hd rfl ?_)
  refine wpAny_bind (wpAny_of_eq (a := Value.none) rfl ?_)
  refine wpAny_ite ?_
  rw [if_neg (show ¬ ((Value.none == rawInt 0) = true) from Bool.false_ne_true)]
  refine wpAny_bind (wpAny_field (x := .int lo t) ho hd rfl ?_)
  refine part_int ?_
  refine wpAny_bind (wpAny_field (x := .none) ho hd rfl ?_)
  refine wpAny_bind (wpAny_of_eq (a := Value.none) rfl ?_)
  exact wpAny_pure hq
theorem subscript_slice {Q : Option Int → Shared → Prop} (h : s.TypeIs (.ref sl) "slice") (hq : Q none s) : wpAny M A (subscript? (.ref sl)) Q E s := by
  unfold subscript?
  refine wpAny_bind (wpAny_specialOf h slice_no_index ?_)
  exact wpAny_pure hq
end
section
variable {prog : Program} {w : World} {A : Around} {E : Value → Shared → Prop} {s : Shared} {a sl : Addr} {b : Array UInt8}
/-- the octets behind a store at a place within -/
def putAt (b : Array UInt8) (at_ : Nat) (o : Array UInt8) : Array UInt8 := b.extract 0 at_ ++ o ++ b.extract (at_ + o.size) b.size
theorem args_setitem (x y z : Value) : argsOk "bytearray.__setitem__" ⟨[x, y, z], []⟩ := by kernel_rfl
theorem set_slice {o : Array UInt8} {t t1 t2 : Tok} {n : Nat} {Q : Unit → Shared → Prop} (hg : A.guards = some []) (h : s.heap.get? a = some (ba b)) (hs : s.heap.IsSliceOf sl (.int (n : Int) t1) (.int ((n + o.size : Nat) : Int) t2) .none)
    (hn : n ≤ b.size) (ho : o.size ≤ sizeLine) (hz : (putAt b n o).size ≤ sizeLine)
    (hq : ∀ h', (∀ x q, x ≠ a → s.heap.get? x = some q → h'.get? x = some q) → h'.get? a = some (ba (putAt b n o)) → s.heap.objs.size ≤ h'.objs.size → Q () { s with heap := h' }) :
    wpC (model prog w) A (setItem (.ref a) (.ref sl) (.bytes o t)) Q E s := by
  have hT := typeIs_ba h
  obtain ⟨os, hos, hoc, hod⟩ := id hs
  have hTs : s.TypeIs (.ref sl) "slice" := ⟨os, hos, hoc⟩
  unfold setItem
  refine wpC_holding ?_
  refine wpC_bindA (wpAny_sequenceKey hT (by decide) ?_)
  refine wpC_bind (wpC_callSpecial hT B.slot_setitem (wpC_slot hT B.slot_setitem B.entry_setitem (calm_id (by decide +kernel)) (args_setitem _ _ _) ?_))
  unfold Builtin.«bytearray.__setitem__»
  refine wpC_bindA (subscript_slice hTs ?_)
  refine wpC_bindA (wpAny_typeOf hTs ?_)
  refine wpC_bindA (parts_none_int hs ?_)
  refine wpC_bindA (wpAny_isInstance (typeIs_by _ o t) B.sub_bytes_ba ?_)
  have hTb := typeIs_by s o t
  refine wpC_bindA ?_
  unfold orM
  refine wpAny_bind (wpAny_bind (wpAny_specialOf hTb B.lkb_index (wpAny_pure ?_)))
  refine wpAny_bind (wpAny_bind (wpAny_specialOf hTb B.lkb_int (wpAny_pure ?_)))
  refine wpAny_bind (wpAny_bind (wpAny_specialOf hTb B.lkb_float (wpAny_pure ?_)))
  refine wpAny_isInstance hTb B.sub_bytes_complex ?_
  refine wpC_bindA (wpAny_of_eq (a := none) rfl ?_)
  refine wpC_bindA (wpAny_rule ?_)
  refine wpC_bind (call_ba1 (A := A.in1) hg ho fun h₁ hn₁ => ?_)
  have ha₁ : h₁.get? a = some (ba b) := hn₁.1 a _ h
  have hs₁ : h₁.IsSliceOf sl (.int (n : Int) t1) (.int ((n + o.size : Nat) : Int) t2) .none := ⟨os, hn₁.1 sl _ hos, hoc, hod⟩
  refine wpC_bind (wpC_holding (wpC.any (parts_none_int (s := { s with heap := h₁ }) hs₁ ?_)))
  refine wpC_bindA (payload_ba (s := { s with heap := h₁ }) hn₁.2.1 ?_)
  refine wpC_bindA (payload_ba (s := { s with heap := h₁ }) ha₁ ?_)
  refine wpC_bindA (wpAny_of_eq (sliceIndices_raw (some (n : Int)) (some ((n + o.size : Nat) : Int)) none b.size (fun e => nomatch e)) ?_)
  rw [sliceBounds_plain]
  have e1 : ((some (n : Int)).elim 0 (clipAt b.size) : Nat) = n := by
    show clipAt b.size (n : Int) = n
    rw [clipAt_nat]; omega
  have e2 : ((some ((n + o.size : Nat) : Int)).elim b.size (clipAt b.size) : Nat) = min (n + o.size) b.size := by
    show clipAt b.size ((n + o.size : Nat) : Int) = _
    rw [clipAt_nat]
  rw [e1, e2]
  refine wpC_bindA (wpAny_rule ?_)
  have e3 : (Max.max (n : Int) ((min (n + o.size) b.size : Nat) : Int)).toNat = min (n + o.size) b.size := by omega
  have e4 : b.extract 0 (n : Int).toNat ++ o ++ b.extract (Max.max (n : Int) ((min (n + o.size) b.size : Nat) : Int)).toNat b.size = putAt b n o := by
    rw [e3]
    unfold putAt
    have : b.extract (min (n + o.size) b.size) b.size = b.extract (n + o.size) b.size := by
      by_cases hle : n + o.size ≤ b.size
      · rw [Nat.min_eq_left hle]
      · rw [Nat.min_eq_right (by omega), Array.extract_empty_of_stop_le_start (by omega), Array.extract_empty_of_stop_le_start (by omega)]
    rw [this]; rfl
  have back : ∀ h', Heap.SameBut a h₁ h' → h'.get? a = some (ba (putAt b n o)) → Q () { s with heap := h' } := fun h' hs' ha' =>
    hq h' (fun x q hx e => hs'.extBut x q hx (hn₁.1 x q e)) ha' (by have z1 : h'.objs.size = h₁.objs.size := hs'.1; have z2 := hn₁.2.2; omega)
  cases hc : ((o.size : Int) != Max.max (n : Int) ((min (n + o.size) b.size : Nat) : Int) - (n : Int)) with
  | false =>
    refine wpC_bindA (write_ba (s := { s with heap := h₁ }) ha₁ ?_ fun h' hs' ha' => wpC_pure ?_)
    · rw [e4]; exact hz
    · exact ⟨_, rfl, wpC_pure (back h' hs' (by rw [ha', e4]))⟩
  | true =>
    refine wpC_bind (checkResize_ok (s := { s with heap := h₁ }) hg ha₁ ?_)
    refine wpC_bindA (write_ba (s := { s with heap := h₁ }) ha₁ ?_ fun h' hs' ha' => wpC_pure ?_)
    · rw [e4]; exact hz
    · exact ⟨_, rfl, wpC_pure (back h' hs' (by rw [ha', e4]))⟩

/-- del b[n:] -/
theorem args_delitem (x y : Value) : argsOk "bytearray.__delitem__" ⟨[x, y], []⟩ := by kernel_rfl
theorem kept_eq (l : List UInt8) (n : Nat) : (l.zipIdx.filterMap fun (x, k) => if selects n l.length 1 k then none else some x) = l.take n := by
  have key : ∀ (l : List UInt8) (i m : Nat), m = l.length + i → (l.zipIdx i).filterMap (fun (x, k) => if selects n m 1 k then none else some x) = l.take (n - i) := by
    intro l
    induction l with
    | nil => intro i m _; simp
    | cons x l ih =>
      intro i m hm
      rw [List.zipIdx_cons, List.filterMap_cons]
      have hsel : selects n m 1 i = decide (n ≤ i) := by
        unfold selects
        simp only [List.length_cons] at hm
        by_cases h : n ≤ i
        · have h1 : (n : Int) ≤ (i : Int) := by omega
          have h2 : (i : Int) < (m : Int) := by omega
          simp [h, h1, h2]
        · have h1 : ¬ (n : Int) ≤ (i : Int) := by omega
          simp [h, h1]
      have ihh := ih (i + 1) m (by simp only [List.length_cons] at hm; omega)
      dsimp only
      rw [hsel, ihh]
      by_cases h : n ≤ i
      · have e : n - i = 0 := by omega
        have e' : n - (i + 1) = 0 := by omega
        simp [h, e, e']
      · have e : n - i = (n - (i + 1)) + 1 := by omega
        simp [h, e]
  exact key l 0 l.length (by omega)
theorem del_slice {t1 : Tok} {n : Nat} {Q : Unit → Shared → Prop} (hg : A.guards = some []) (h : s.heap.get? a = some (ba b)) (hs : s.heap.IsSliceOf sl (.int (n : Int) t1) .none .none)
    (hn : n ≤ b.size) (hz : b.size ≤ sizeLine)
    (hq : ∀ h', Heap.SameBut a s.heap h' → h'.get? a = some (ba (b.toList.take n).toArray) → Q () { s with heap := h' }) :
    wpC (model prog w) A (delItem (.ref a) (.ref sl)) Q E s := by
  have hT := typeIs_ba h
  obtain ⟨os, hos, hoc, hod⟩ := id hs
  have hTs : s.TypeIs (.ref sl) "slice" := ⟨os, hos, hoc⟩
  unfold delItem
  refine wpC_holding ?_
  refine wpC_bindA (wpAny_sequenceKey hT (by decide) ?_)
  refine wpC_bind (wpC_callSpecial hT B.slot_delitem (wpC_slot hT B.slot_delitem B.entry_delitem (calm_id (by decide +kernel)) (args_delitem _ _) ?_))
  unfold Builtin.«bytearray.__delitem__»
  refine wpC_bindA (wpAny_of_eq (a := (Value.ref a, [Value.ref sl])) rfl ?_)
  refine wpC_bindA (subscript_slice hTs ?_)
  refine wpC_bindA (wpAny_typeOf hTs ?_)
  refine wpC_bindA (parts_none_lo hs ?_)
  refine wpC_bindA (payload_ba h ?_)
  refine wpC_bindA (wpAny_of_eq (sliceIndices_raw (some (n : Int)) none none b.size (fun e => nomatch e)) ?_)
  rw [sliceBounds_plain]
  have e1 : ((some (n : Int)).elim 0 (clipAt b.size) : Nat) = n := by
    show clipAt b.size (n : Int) = n
    rw [clipAt_nat]; omega
  rw [e1, show ((none : Option Int).elim b.size (clipAt b.size) : Nat) = b.size from rfl]
  refine wpC_bindA (wpAny_rule ?_)
  have e2 : (b.toList.zipIdx.filterMap fun (x, k) => if selects n (b.size : Nat) 1 k then none else some x).toArray = (b.toList.take n).toArray := by
    rw [← Array.length_toList, kept_eq b.toList n]
  cases hc : ((1 : Int) != 1 || decide ((n : Int) < (b.size : Nat))) with
  | false =>
    refine wpC_bindA (write_ba h ?_ fun h' hs' ha' => wpC_pure ?_)
    · refine Nat.le_trans (Nat.le_of_eq (congrArg Array.size e2)) ?_
      rw [List.size_toArray, List.length_take, Array.length_toList]; omega
    · exact ⟨_, rfl, wpC_pure (hq h' hs' (ha'.trans (congrArg (fun z => some (ba z)) e2)))⟩
  | true =>
    refine wpC_bind (checkResize_ok hg h ?_)
    refine wpC_bindA (write_ba h ?_ fun h' hs' ha' => wpC_pure ?_)
    · refine Nat.le_trans (Nat.le_of_eq (congrArg Array.size e2)) ?_
      rw [List.size_toArray, List.length_take, Array.length_toList]; omega
    · exact ⟨_, rfl, wpC_pure (hq h' hs' (ha'.trans (congrArg (fun z => some (ba z)) e2)))⟩
end
end Mine
end
section
open PySem PySem.W PyProof.Rows PySem.Spec PySem.Calls
open PySem.Builtin PySem.Builtin.Bytes
namespace Mine
section
variable {prog : Program} {w : World} {A : Around} {E : Value → Shared → Prop} {s : Shared} {a sl : Addr} {b : Array UInt8}
theorem args_len (x : Value) : argsOk "bytearray.__len__" ⟨[x], []⟩ := by kernel_rfl
theorem args_getitem (x y : Value) : argsOk "bytearray.__getitem__" ⟨[x, y], []⟩ := by kernel_rfl
theorem len_ba {Q : Value → Shared → Prop} (h : s.heap.get? a = some (ba b)) (hz : b.size ≤ sizeLine) (hq : Q (.int (b.size : Nat) (s.toks + 1)) { s with toks := s.toks + 1 + 1 }) :
    wpAny (model prog w) A (call (.builtin "len") [.ref a]) Q E s := by
  have hz' : b.size ≤ 16777216 := hz
  refine call_len_slot (typeIs_ba h) B.slot_len (fun Q' hq' => wpAny_call_entry B.slot_len (typeIs_ba h) B.entry_len ?_ (args_len _)) (by omega) (by omega) hq
  unfold Builtin.«bytearray.__len__»
  refine wpAny_bind (wpAny_of_eq (a := (Value.ref a, [])) rfl ?_)
  exact wpAny_bind (payload_ba h (wpAny_bind (wpAny_mkInt (wpAny_pure ⟨_, rfl, hq'⟩))))

/-- bytes(x), by what its maker does -/
theorem bytes_of {x : Value} {o : Array UInt8} {Q : Value → Shared → Prop}
    (hnew : codeAny (model prog w) A.in1 (.call (.builtin "bytes.__new__") ⟨[.type "bytes", x], []⟩) (wants (fun obj s₁ => s₁.TypeIs obj "bytes" ∧ Q obj s₁) E) s) :
    wpAny (model prog w) A (call (.type "bytes") [x]) Q E s := by
  refine callType_codes (Q₁ := fun obj s₁ => s₁.TypeIs obj "bytes" ∧ Q obj s₁) F.bm_called (F.bm_typeCall _) F.entry_object_init hnew fun obj s₁ h₁ => ?_
  exact ⟨h₁.1, F.args_object_init_2 obj _, object_init_meets F.bm_called.init.lookup F.bm_called.made (by decide) prog w A.in1 _ s₁ ⟨h₁.1, rfl, h₁.2⟩⟩
theorem bytes_start {x : Value} {R : Result → Shared → Prop}
    (h : wpAny (model prog w) A.in1 (Builtin.«bytes.__new__» ⟨[.type "bytes", x], []⟩) (fun fin s' => match fin with | .done f => R (.ok f) s' | .again c' => c'.quiet = true ∧ codeAny (model prog w) A c' R s') (fun e s' => R (.error e) s') s) :
    codeAny (model prog w) A (.call (.builtin "bytes.__new__") ⟨[.type "bytes", x], []⟩) R s := by
  refine codeAny_of_tree ?_
  show wpAny _ A.in1 (do checkBuiltinCall "bytes.__new__" ⟨[.type "bytes", x], []⟩; again (.builtin "bytes.__new__" ⟨[.type "bytes", x], []⟩)) _ _ s
  refine wpAny_bind (wpAny_of_eq (F.bm_newCall _) (wpAny_pure ⟨plainId_quiet F.bm_plain _, codeAny_builtin F.bm_entry ?_⟩))
  rw [Around.under_plainId F.bm_plain _]; exact h
theorem bytes_by {o : Array UInt8} {t : Tok} {Q : Value → Shared → Prop} (hq : Q (.bytes o t) s) : wpAny (model prog w) A (call (.type "bytes") [.bytes o t]) Q E s := by
  refine bytes_of (o := o) (bytes_start ?_)
  unfold Builtin.«bytes.__new__»
  refine wpAny_bind (wpAny_of_eq (a := true) rfl ?_)
  refine wpAny_bind (wpAny_of_eq F.bm_sub ?_)
  refine wpAny_bind (wpAny_of_eq (F.bm_bind _) ?_)
  refine wpAny_bind (wpAny_of_eq (a := ()) rfl ?_)
  refine wpAny_bind (wpAny_of_eq (a := ()) rfl ?_)
  refine wpAny_bind (wpAny_specialOf (typeIs_by _ o t) B.lkb_bytes ?_)
  refine wpAny_bind (wpAny_rule ?_)
  refine wpAny_bind (wpAny_typeOf (typeIs_by _ o t) ?_)
  exact wpAny_pure ⟨typeIs_by _ _ _, hq⟩
theorem bytes_ba {Q : Value → Shared → Prop} (h : s.heap.get? a = some (ba b)) (hz : b.size ≤ sizeLine) (hq : Q (.bytes b s.toks) { s with toks := s.toks + 1 }) :
    wpAny (model prog w) A (call (.type "bytes") [.ref a]) Q E s := by
  have hT := typeIs_ba h
  refine bytes_of (o := b) (bytes_start ?_)
  unfold Builtin.«bytes.__new__»
  refine wpAny_bind (wpAny_of_eq (a := true) rfl ?_)
  refine wpAny_bind (wpAny_of_eq F.bm_sub ?_)
  refine wpAny_bind (wpAny_of_eq (F.bm_bind _) ?_)
  refine wpAny_bind (wpAny_of_eq (a := ()) rfl ?_)
  refine wpAny_bind (wpAny_of_eq (a := ()) rfl ?_)
  refine wpAny_bind (wpAny_specialOf hT B.lk_bytes ?_)
  refine wpAny_bind (wpAny_bind ?_)
  show wpAny _ _ (load a >>= _) _ _ _
  refine wpAny_bind (wpAny_load h ?_)
  refine wpAny_pure (wpAny_pure ?_)
  refine wpAny_bind (wpAny_specialOf hT B.lk_index ?_)
  show wpAny _ _ (buffer? "bytes.__new__" (.ref a) true >>= _) _ _ _
  refine wpAny_bind (buffer_ba h ?_)
  refine wpAny_bind (wpAny_rule ?_)
  refine wpAny_bind (wpAny_mkBytes ?_ hz)
  exact wpAny_pure ⟨typeIs_by _ _ _, hq⟩
theorem bytes_int {i : Int} {t : Tok} {Q : Value → Shared → Prop} (h0 : 0 ≤ i) (hz : i.toNat ≤ sizeLine) (hq : Q (.bytes (Array.replicate i.toNat 0) s.toks) { s with toks := s.toks + 1 }) :
    wpAny (model prog w) A (call (.type "bytes") [.int i t]) Q E s := by
  have hT : s.TypeIs (.int i t) "int" := rfl
  have hz' : i.toNat ≤ 16777216 := hz
  have h1 : fitsIndex i = true := by simp only [fitsIndex, Bool.and_eq_true, decide_eq_true_eq]; omega
  have h2 : ¬ (i < 0) := by omega
  have h3 : ¬ (i > 2 ^ 63 - 34) := by omega
  have h4 : tooLong i.toNat = false := by simp only [tooLong, decide_eq_false_iff_not]; omega
  refine bytes_of (o := Array.replicate i.toNat 0) (bytes_start ?_)
  unfold Builtin.«bytes.__new__»
  refine wpAny_bind (wpAny_of_eq (a := true) rfl ?_)
  refine wpAny_bind (wpAny_of_eq F.bm_sub ?_)
  refine wpAny_bind (wpAny_of_eq (F.bm_bind _) ?_)
  refine wpAny_bind (wpAny_of_eq (a := ()) rfl ?_)
  refine wpAny_bind (wpAny_of_eq (a := ()) rfl ?_)
  refine wpAny_bind (wpAny_specialOf hT B.lki_bytes ?_)
  refine wpAny_bind (wpAny_bind (wpAny_of_eq (a := none) rfl (wpAny_pure ?_)))
  refine wpAny_bind (wpAny_specialOf hT B.lki_index ?_)
  refine wpAny_bind (wpAny_attempt (wpAny_of_eq (a := i) rfl ?_))
  dsimp only
  simp only [h1, h2, h3, h4, Bool.not_true, Bool.false_eq_true, if_false]
  refine wpAny_bind (wpAny_rule ?_)
  refine wpAny_bind (wpAny_mkBytes ?_ (by rw [Array.size_replicate]; exact hz))
  exact wpAny_pure ⟨typeIs_by _ _ _, hq⟩
end
end Mine
end
section
open PySem PySem.W PyProof.Rows PySem.Spec PySem.Calls
open PySem.Builtin PySem.Builtin.Bytes
namespace Mine
section
variable {prog : Program} {w : World} {A : Around} {E : Value → Shared → Prop} {s : Shared} {a sl : Addr} {b : Array UInt8}
theorem sliced_all (b : Array UInt8) : Bytes.sliced b ((0 : Nat) : Int) (b.size : Nat) 1 = b := by
  unfold Bytes.sliced
  rw [sliceRange_one, pick_run]
  simp only [List.drop_zero, Nat.sub_zero]
  rw [List.take_of_length_le (by simp), Array.toArray_toList]
theorem get_slice_all {hi : Int} {t1 t2 : Tok} {Q : Value → Shared → Prop} (h : s.heap.get? a = some (ba b)) (hs : s.heap.IsSliceOf sl (.int 0 t1) (.int hi t2) .none) (hb : (b.size : Int) ≤ hi) (hz : b.size ≤ sizeLine)
    (hq : Q (.ref s.heap.objs.size) { s with heap := s.heap.push (ba b) }) :
    wpAny (model prog w) A (getItem (.ref a) (.ref sl)) Q E s := by
  have hT := typeIs_ba h
  obtain ⟨os, hos, hoc, hod⟩ := id hs
  have hTs : s.TypeIs (.ref sl) "slice" := ⟨os, hos, hoc⟩
  refine wpAny_getItem_slot hT (by decide) B.slot_getitem (wpAny_call_entry B.slot_getitem hT B.entry_getitem ?_ (args_getitem _ _))
  unfold Builtin.«bytearray.__getitem__»
  refine wpAny_bind (wpAny_of_eq (a := (Value.ref a, [Value.ref sl])) rfl ?_)
  refine wpAny_bind (subscript_slice hTs ?_)
  refine wpAny_bind (wpAny_typeOf hTs ?_)
  refine wpAny_bind (parts_none_int hs ?_)
  refine wpAny_bind (payload_ba h ?_)
  refine wpAny_bind (wpAny_of_eq (sliceIndices_raw (some 0) (some hi) none b.size (fun e => nomatch e)) ?_)
  rw [sliceBounds_plain]
  have e1 : ((some (0 : Int)).elim 0 (clipAt b.size) : Nat) = 0 := by
    show clipAt b.size ((0 : Nat) : Int) = 0
    rw [clipAt_nat]; omega
  have e2 : ((some hi).elim b.size (clipAt b.size) : Nat) = b.size := by
    show clipAt b.size hi = _
    unfold clipAt
    split <;> omega
  rw [e1, e2]
  dsimp only
  rw [sliced_all]
  unfold Bytes.newBytearray
  exact wpAny_bind (wpAny_newObj_type (wpAny_pure ⟨_, rfl, hq⟩) hz)
end
end Mine
end
section
open PySem PySem.W PyProof.Rows PySem.Spec PySem.Calls
namespace Mine
section
variable {M : Model} {A : Around} {E : Value → Shared → Prop} {s : Shared} {env : Env}
theorem wpC_execs_nil {Q : Flow → Shared → Prop} (h : Q .next s) : wpC M A (execs [] env) Q E s := wpC.any (wpAny_execs_nil h)
theorem wpC_execs_cons {st rest} {Q : Flow → Shared → Prop} (h : wpC M A (exec st env) (fun f s' => match f with | .next => wpC M A (execs rest env) Q E s' | f => Q f s') E s) :
    wpC M A (execs (st :: rest) env) Q E s := by
  rw [execs_cons]
  refine wpC_bind (wpC_mono h (fun f s' h' => ?_) fun _ _ x => x)
  cases f <;> first | exact h' | exact wpC_pure h'
/-- a statement of the kit's own, then calm ones -/
theorem wpC_execs_consA {st rest} {Q : Flow → Shared → Prop} (h : wpAny M A (exec st env) (fun f s' => match f with | .next => wpC M A (execs rest env) Q E s' | f => Q f s') E s) :
    wpC M A (execs (st :: rest) env) Q E s := wpC_execs_cons (wpC.any h)
theorem wpC_Expr {e pos} {Q : Flow → Shared → Prop} (h : wpC M A (eval e env) (fun v s' => v = .none ∧ Q .next s') E s)
    (hi : interactive env = false := by k_dflt exact rfl) (hs : swapsWith e none pos.line env = pure false := by k_dflt exact rfl) : wpC M A (exec (.Expr e pos) env) Q E s := by
  rw [exec_Expr env e pos hi hs]
  refine wpC_bindA (wpAny_standAt (wpC_bind (wpC_mono h (fun v s' h' => ?_) fun _ _ x => x)))
  obtain ⟨rfl, hq⟩ := h'
  rw [dropValue_plain (fun a => by intro x; cases x)]
  exact wpC_pure hq
theorem wpC_Assign {t value : Expr} {pos : Pos} {Q : Flow → Shared → Prop} (h : wpC M A (eval value env) (fun v s₁ => wpC M A (assign t env v) (fun _ => Q .next) E s₁) E s)
    (he : (assignEach [t] env).map (·.2) = [assign t env] := by k_dflt exact rfl) (hs : swapsWithSole [t] value pos.line env = pure false := by k_dflt exact rfl) (hw : swappedStores [t] value env = pure none := by k_dflt exact rfl) : wpC M A (exec (.Assign [t] value pos) env) Q E s := by
  rw [exec_Assign_arm]
  refine wpC_bindA (wpAny_standAt ?_)
  rw [hs]
  refine wpC_bindA (wpAny_pure ?_)
  rw [if_neg (by decide)]
  refine wpC_bind (wpC_mono h (fun v s₁ h₁ => ?_) fun _ _ x => x)
  rw [hw]
  refine wpC_bindA (wpAny_pure ?_)
  show wpC M A (do assignAll v ((assignEach [t] env).map (·.2)); pure .next) Q E s₁
  rw [he]
  exact wpC_bind (wpC_mono h₁ (fun _ _ x => wpC_pure x) fun _ _ x => x)
theorem wpC_If {test body orelse pos} {Q : Flow → Shared → Prop}
    (h : wpC M A (isTrue test env (eval test env)) (fun b s₂ => if b then wpC M A (execs body env) Q E s₂ else wpC M A (execs orelse env) Q E s₂) E s) :
    wpC M A (exec (.If test body orelse pos) env) Q E s := by
  rw [exec_If]
  refine wpC_bindA (wpAny_standAt (wpC_bind (wpC_mono h (fun b s₂ h₂ => ?_) fun _ _ x => x)))
  cases b <;> exact h₂
theorem wpC_IfA {test body orelse pos} {Q : Flow → Shared → Prop}
    (h : wpAny M A (isTrue test env (eval test env)) (fun b s₂ => if b then wpC M A (execs body env) Q E s₂ else wpC M A (execs orelse env) Q E s₂) E s) :
    wpC M A (exec (.If test body orelse pos) env) Q E s := wpC_If (wpC.any h)
theorem wpC_Return {e pos} {Q : Flow → Shared → Prop} (h : wpC M A (eval e env) (fun v => Q (.ret v)) E s) : wpC M A (exec (.Return (some e) pos) env) Q E s := by
  rw [exec_Return_some]
  exact wpC_bindA (wpAny_standAt (wpC_bind (wpC_mono h (fun v s' h' => wpC_pure h') fun _ _ x => x)))
theorem wpC_Delete {t : Expr} {pos : Pos} {Q : Flow → Shared → Prop} (h : wpC M A (delete t env) (fun _ s₁ => Q .next s₁) E s) : wpC M A (exec (.Delete [t] pos) env) Q E s := by
  rw [arm_exec_Delete]
  refine wpC_bindA (wpAny_standAt (wpC_bind ?_))
  rw [arm_deleteEach_cons]
  refine wpC_bind (wpC_mono h (fun _ s' h' => ?_) fun _ _ x => x)
  rw [arm_deleteEach_nil]
  exact wpC_pure (wpC_pure h')
theorem wpC_delete_Subscript {o i : Expr} {pos : Pos} {Q : Unit → Shared → Prop}
    (h : wpAny M A (eval o env) (fun ov s₁ => wpAny M A (eval i env) (fun iv s₂ => wpC M A (delItem ov iv) Q E s₂) E s₁) E s) : wpC M A (delete (.Subscript o i pos) env) Q E s := by
  rw [arm_delete_Subscript]
  refine wpC_bindA (wpAny_mono h (fun ov s₁ h₁ => wpC_bindA (wpAny_holding (wpAny_mono h₁ (fun iv s₂ h₂ => wpC_bindA (wpAny_standAt ?_)) fun _ _ x => x))) fun _ _ x => x)
  exact wpC_bind (wpC_holding (wpC_mono h₂ (fun _ s₃ h₃ => fun Γ p _ _ => by rw [Sem.wp_release]; exact h₃) fun _ _ x => x))
theorem wpC_assign_Subscript {o i : Expr} {pos : Pos} {v : Value} {Q : Unit → Shared → Prop}
    (h : wpAny M A (eval o env) (fun ov s₁ => wpAny M A (eval i env) (fun iv s₂ => wpC M A (setItem ov iv v) Q E s₂) E s₁) E s) : wpC M A (assign (.Subscript o i pos) env v) Q E s := by
  rw [arm_assign_Subscript]
  refine wpC_bindA (wpAny_holding (wpAny_mono h (fun ov s₁ h₁ => wpC_bindA (wpAny_holding (wpAny_mono h₁ (fun iv s₂ h₂ => wpC_bindA (wpAny_standAt ?_)) fun _ _ x => x))) fun _ _ x => x))
  exact wpC_bind (wpC_holding (wpC_mono h₂ (fun _ s₃ h₃ => fun Γ p _ _ => by rw [Sem.wp_release]; exact h₃) fun _ _ x => x))

theorem evalArgsC_plain {f : Value} {x : Sem Value} {rest : List (Bool × Sem Value)} {Q : Args → Shared → Prop} (h : wpC M A (spliced ((false, x) :: rest)) (fun vs s' => Q ⟨vs, []⟩ s') E s) :
    wpC M A (evalArgs f true ((false, x) :: rest) []) Q E s := by
  unfold evalArgs
  show wpC M A (spliced ((false, x) :: rest) >>= _) Q E s
  refine wpC_bind (wpC_mono h (fun vs s₁ h₁ => ?_) fun _ _ x => x)
  refine wpC_holding ?_
  exact wpC_bindA (wpAny_pure (wpC_bindA (wpAny_pure (wpC_pure h₁))))
theorem splicedC_nil {Q : List Value → Shared → Prop} (h : Q [] s) : wpC M A (spliced []) Q E s := wpC.any (spliced_nil h)
theorem wpC_Call_Name {id : Str} {p pos : Pos} {args : List Expr} {trees : List (Bool × Sem Value)} {Q : Value → Shared → Prop} (ht : backTo pos (starEach args env) = trees)
    (h : wpAny M A (eval (.Name id p) env) (fun f s₁ => wpC M A (callWith pos f [] trees []) Q E s₁) E s) : wpC M A (eval (.Call (.Name id p) args [] pos) env) Q E s := by
  subst ht
  exact wpC_bindA h
theorem callTailC {t : Sem Value} {Q : Value → Shared → Prop} (ht : wpC M A t Q E s) : wpC M A (t >>= fun r => holding [r] point >>= fun _ => pure r) Q E s :=
  wpC_bind (wpC_mono ht (fun r s₂ hr => wpC_bindA (wpAny_holding (wpAny_point (wpC_pure hr)))) fun _ _ x => x)
/-- a function object, called -/
theorem callWithC_function {pos : Pos} {a : Addr} {first : List Value} {args : List (Bool × Sem Value)} {Q : Value → Shared → Prop} (hplain : args.any (·.1) = false)
    (h : wpC M A (evalArgs (.ref a) true args []) (fun x s₁ => (∃ o fd, s₁.heap.get? a = some o ∧ o.data = .func fd) ∧ x.kw = [] ∧ wpC M A (call (.ref a) (first ++ x.pos) []) Q E s₁) E s) :
    wpC M A (callWith pos (.ref a) first args []) Q E s := by
  unfold callWith
  refine wpC_bind (wpC_holding (wpC_mono h (fun x s₁ h₁ => wpC_bindA (wpAny_standAt ?_)) fun _ _ x => x))
  obtain ⟨⟨o, fd, ho, hd⟩, hk, hc⟩ := h₁
  simp only [hplain, hk, List.any_nil, Bool.or_false]
  refine wpC_bind (m := keeperOf (.ref a)) ?_
  unfold keeperOf
  refine wpC_bindA (wpAny_load ho ?_)
  rw [hd]
  refine wpC_pure ?_
  dsimp only
  split
  · exact callTailC hc
  · exact callTailC (by unfold callMarked; exact wpC_keep hc)
theorem callWithC_type {pos : Pos} {T : String} {first : List Value} {args : List (Bool × Sem Value)} {Q : Value → Shared → Prop} (hplain : args.any (·.1) = false)
    (h : wpC M A (evalArgs (.type T) true args []) (fun a s₁ => a.kw = [] ∧ wpC M A (call (.type T) (first ++ a.pos) []) Q E s₁) E s) :
    wpC M A (callWith pos (.type T) first args []) Q E s := by
  unfold callWith
  refine wpC_bind (wpC_holding (wpC_mono h (fun a s₁ h₁ => wpC_bindA (wpAny_standAt ?_)) fun _ _ x => x))
  obtain ⟨hk, hc⟩ := h₁
  simp only [hplain, hk, List.any_nil, Bool.or_false]
  exact wpC_bindA (wpAny_pure (callTailC hc))
theorem callWithC_builtin {pos : Pos} {id : String} {first : List Value} {args : List (Bool × Sem Value)} {Q : Value → Shared → Prop} (hplain : args.any (·.1) = false)
    (h : wpC M A (evalArgs (.builtin id) true args []) (fun a s₁ => a.kw = [] ∧ wpC M A (call (.builtin id) (first ++ a.pos) []) Q E s₁) E s) :
    wpC M A (callWith pos (.builtin id) first args []) Q E s := by
  unfold callWith
  refine wpC_bind (wpC_holding (wpC_mono h (fun a s₁ h₁ => wpC_bindA (wpAny_standAt ?_)) fun _ _ x => x))
  obtain ⟨hk, hc⟩ := h₁
  simp only [hplain, hk, List.any_nil, Bool.or_false]
  exact wpC_bindA (wpAny_pure (callTailC hc))
end
section
variable {prog : Program} {w : World} {A : Around} {E : Value → Shared → Prop} {s : Shared} {env : Env}
theorem codeC_loop {M : Model} {c : Code} {R : Result → Shared → Prop} (hq : c.quiet = true) (hcl : calm c = true) (I : Nat → Shared → Prop)
    (turn : ∀ n s, I n s → wpC M (A.under c) (M.den c)
      (fun fin s' => match fin with
        | .done f => R (.ok f) s'
        | .again c' => (c' = c ∧ ∃ m, m < n ∧ I m s') ∨ (c'.quiet = true ∧ calm c' = true ∧ codeC M A c' R s')) (fun e s' => R (.error e) s') s)
    (n : Nat) (h : I n s) : codeC M A c R s := by
  induction n using Nat.strongRecOn generalizing s with
  | ind n ih =>
    refine codeC_tree (wpC_mono (turn n s h) (fun fin s' hf => ?_) fun _ _ h' => h')
    cases fin with
    | done f => exact hf
    | again c' =>
      rcases hf with ⟨rfl, m, hm, hI⟩ | hf
      · exact ⟨hq, hcl, ih m hm hI⟩
      · exact hf
theorem codeC_forLoop {R : Result → Shared → Prop} {target it body env} (I : Nat → Shared → Prop)
    (turn : ∀ n s, I n s → wpAny (model prog w) A (pyNext it) (fun r s₁ => match r with
      | none => R (.ok .next) s₁
      | some v => wpAny (model prog w) A (letOwnedTupleGo target it v) (fun _ s₁' =>
          wpAny (model prog w) A (assign target env v) (fun _ s₂ => wpC (model prog w) A (execs body env) (fun f s₃ => match f with
            | .next | .cont => ∃ m, m < n ∧ I m s₃
            | .brk => R (.ok .next) s₃
            | .ret v => R (.ok (.ret v)) s₃) noE s₂) noE s₁') noE s₁) noE s)
    (n : Nat) (h : I n s) : codeC (model prog w) A (.forLoop target it body [] env) R s := by
  refine codeC_loop rfl rfl I (fun n s hI => ?_) n h
  show wpC _ A ((forTurn target it body [] env).onRaise (fun x => do noteFrame x env; theTreesLotGoes x)) _ _ s
  refine wpC_onRaise ?_
  simp only [forTurn]
  refine wpC_bindA (wpAny_standAt (wpC_bind (wpC_onRaise (wpC.any (wpAny_mono (turn n s hI) (fun r s₁ h₁ => ?_) fun _ _ h' => h')))))
  cases r with
  | none => exact wpC_pure (.inr ⟨rfl, rfl, codeC.any (codeAny_block (wpAny_execs_nil h₁))⟩)
  | some v =>
    refine wpC_bindA (wpAny_mono h₁ (fun _ s₁' h₁' => ?_) fun _ _ h' => h')
    refine wpC_bindA (wpAny_mono h₁' (fun _ s₂ h₂ => wpC_bind (wpC_mono h₂ (fun f s₃ h₃ => ?_) fun _ _ h' => h')) fun _ _ h' => h')
    cases f with
    | next => exact wpC_pure (.inl ⟨rfl, h₃⟩)
    | cont => exact wpC_pure (.inl ⟨rfl, h₃⟩)
    | brk => exact wpC_pure h₃
    | ret v => exact wpC_pure h₃
theorem wpC_runOwn {M : Model} {c : Code} {Q : Flow → Shared → Prop} (hc : calm c = true)
    (hk : codeC M A c (fun r s' => match r with | .ok f => Q f s' | .error _ => False) s) : wpC M A (runOwn c env) Q E s := by
  unfold runOwn
  refine wpC_onRaise (wpC_run hc ?_ (by intro x; cases x))
  rw [Around.mark_none]
  refine codeC_mono hk (fun r s' h' => ?_)
  cases r <;> exact h'
theorem wpC_For {M : Model} {target iter body pos} {Q : Flow → Shared → Prop}
    (h : wpAny M A (eval iter env) (fun x s₁ => wpAny M A (pyIter x) (fun it s₂ =>
      codeC M A (.forLoop target it body [] env) (fun r s' => match r with | .ok f => Q f s' | .error _ => False) s₂) E s₁) E s)
    (hs : ∀ x, foldedSetIterable iter env x = pure x := by intro _; rfl) :
    wpC M A (exec (.For target iter body [] pos) env) Q E s := by
  rw [exec_For]
  exact wpC_bindA (wpAny_standAt (wpC_bindA (wpAny_mono h (fun x s₁ h₁ => wpC_bindA (wpAny_of_eq (hs x) (wpC_bindA (wpAny_standAt (wpC_bindA (wpAny_holding
    (wpAny_mono h₁ (fun it s₂ h₂ => wpC_runOwn rfl h₂) fun _ _ h' => h'))))))) fun _ _ h' => h')))
end
end Mine
end
section
open PySem PySem.W PyProof.Rows PySem.Spec PySem.Calls
namespace Mine
/-- all objects but those named stay -/
def Kept (h h' : Heap) (l : List Addr) : Prop := ∀ b o, b ∉ l → h.get? b = some o → h'.get? b = some o
def Fresh (h : Heap) (l : List Addr) (news : List (Addr × Obj)) : Prop := ∀ p ∈ news, p.1 ∈ l ∨ h.get? p.1 = none
def LeaveM (h₀ : Heap) (L : Addr) (m : Str → Option Value) (s₀ : Heap) (l : List Addr) (g : Heap) (R : Result → Shared → Prop) (v : Value) (s' : Shared) : Prop :=
  ∃ L' m' news', Fr g L' s'.heap m' ∧ News g L' s'.heap news' ∧ (Fr h₀ L s'.heap m → News h₀ L s'.heap news' → Kept s₀ s'.heap l → Fresh s₀ l news' → R (.ok (.ret v)) s')
theorem leaveM_ {h₀ g s₀ : Heap} {l : List Addr} {L L' : Addr} {m m' : Str → Option Value} {news' : List (Addr × Obj)} {R : Result → Shared → Prop} {v : Value} {s' : Shared} (F' : Fr g L' s'.heap m') (N' : News g L' s'.heap news')
    (k : Fr h₀ L s'.heap m → News h₀ L s'.heap news' → Kept s₀ s'.heap l → Fresh s₀ l news' → R (.ok (.ret v)) s') : LeaveM h₀ L m s₀ l g R v s' := ⟨L', m', news', F', N', k⟩
theorem LeaveM.toK {h₀ s₀ : Heap} {l : List Addr} {L : Addr} {m : Str → Option Value} {R : Result → Shared → Prop} {v : Value} {s' : Shared} (h : LeaveM h₀ L m s₀ l (hideAll s₀ l) R v s') : LeaveK h₀ L m (hideAll s₀ l) R v s' := by
  obtain ⟨L', m', news', F', N', k⟩ := h
  refine ⟨L', m', news', F', N', fun a b => k a b (fun x o hx e => F'.keep x o (hideAll_get _ e hx)) fun p hp => ?_⟩
  by_cases hx : p.1 ∈ l
  · exact .inl hx
  · right
    cases q : s₀.get? p.1 with
    | none => rfl
    | some o => have := (N' p hp).2.2; rw [hideAll_get _ q hx] at this; cases this

section
variable {prog : Program} {w : World} {A₀ A : Around} {s : Shared} {base h₀ : Heap} {outer : List Env} {L : Addr} {m : Str → Option Value} {news : List (Addr × Obj)} {K : Frag} {p : Program} {loose : List Str} {mean : ExcName → Option Value} {mg mb : Str → Option Value}
  {env : Env} {R : Result → Shared → Prop} {name qual : Str} {params : Arguments} {body : List Stmt} {scope : Scope} {dV kV doc pm cdv ct oc : Value} {an od : Option Addr} {osl : Array (Option Value)} {f : Addr} {args : Args} {binds : List (Str × Value)}
theorem code_defM (hA : A.frames = some (env :: outer)) (hf : env.frame = some L) (hke : env.scope.kind = .function) (B : Below A₀ base outer h₀) (F : Fr h₀ L s.heap m) (X₀ : K.In h₀) (N : News h₀ L s.heap news) (T : Top p loose mean mg mb h₀)
    (ho : K.lookup f = some ⟨oc, od, .func (fnOf name qual params body scope dV kV doc pm an cdv ct), osl⟩) (hcd : codeIn K cdv qual = true) (hroom : A.depth < recursionLimit)
    (hbind : BindsTo s (fnOf name qual params body scope dV kV doc pm an cdv ct) args binds) (hloc : ∀ y ∈ binds, scope.names.lookup y.1 = some .local)
    (hco : scope.isCoroutine = false) (hgen : scope.isGenerator = false) (hk : scope.kind = .function)
    (hcell : ∀ x ∈ scope.names, x.2 ≠ .cell)
    (h : ∀ g L' h₁, Kept s.heap g (news.map (·.1)) → Fr h₀ L g m → Fr g L' h₁ (fun y => binds.reverse.lookup y) → News g L' h₁ news → Below A base (env :: outer) g → K.In g → Top p loose mean mg mb g →
      wpAny (model prog w) (A.deeper (envOf qual scope L' f cdv)) (execs body (envOf qual scope L' f cdv))
        (fun fl s' => LeaveM h₀ L m s.heap (news.map (·.1)) g R (match fl with | .ret v => v | _ => .none) s')
        (fun e s' => wpAny (model prog w) (A.deeper (envOf qual scope L' f cdv)) (leaving (envOf qual scope L' f cdv) e) (fun _ s'' => R (.error e) s'') (fun e' s'' => R (.error e') s'') s')
        { s with heap := h₁, toks := s.toks + binds.length })
    : codeAny (model prog w) A (.call (.ref f) args) R s := by
  obtain ⟨FG, BG, st, lv⟩ := groundX (R := R) B F N hA hf hke
  refine codeAny_call_def (fd := fnOf name qual params body scope dV kV doc pm an cdv ct) (body := body) (binds := binds) hroom ((X₀.keeps F.keep) _ _ ho) rfl (T.nolimit.keeps F.keep) (codeRec_of (X₀.keeps F.keep) hcd) rfl hbind hcell hloc (fun h₁ hns hk₁ => ?_) hco hgen hk
  exact wpAny_mono (h _ s.heap.objs.size h₁ (fun b o hb e => hideAll_get _ e hb) FG ⟨hns, fun b o e => hk₁ b o (of_hideAll _ e), Nat.le_of_eq (hideAll_size _ _)⟩
    (fun p hp => ⟨hk₁ _ _ (N p hp).1, Nat.ne_of_lt (Heap.lt_size (N p hp).1), hideAll_none _ (List.mem_map_of_mem hp)⟩) BG (X₀.keeps st) (T.keeps st)) (fun fl s' hl => lv _ _ hl.toK) fun _ _ y => y
theorem code_defMC (hA : A.frames = some (env :: outer)) (hf : env.frame = some L) (hke : env.scope.kind = .function) (B : Below A₀ base outer h₀) (F : Fr h₀ L s.heap m) (X₀ : K.In h₀) (N : News h₀ L s.heap news) (T : Top p loose mean mg mb h₀)
    (ho : K.lookup f = some ⟨oc, od, .func (fnOf name qual params body scope dV kV doc pm an cdv ct), osl⟩) (hcd : codeIn K cdv qual = true) (hroom : A.depth < recursionLimit)
    (hbind : BindsTo s (fnOf name qual params body scope dV kV doc pm an cdv ct) args binds) (hloc : ∀ y ∈ binds, scope.names.lookup y.1 = some .local)
    (hco : scope.isCoroutine = false) (hgen : scope.isGenerator = false) (hk : scope.kind = .function)
    (hcell : ∀ x ∈ scope.names, x.2 ≠ .cell)
    (h : ∀ g L' h₁, Kept s.heap g (news.map (·.1)) → Fr h₀ L g m → Fr g L' h₁ (fun y => binds.reverse.lookup y) → News g L' h₁ news → Below A base (env :: outer) g → K.In g → Top p loose mean mg mb g →
      wpC (model prog w) (A.deeper (envOf qual scope L' f cdv)) (execs body (envOf qual scope L' f cdv))
        (fun fl s' => LeaveM h₀ L m s.heap (news.map (·.1)) g R (match fl with | .ret v => v | _ => .none) s') noE
        { s with heap := h₁, toks := s.toks + binds.length })
    : codeC (model prog w) A (.call (.ref f) args) R s := by
  obtain ⟨FG, BG, st, lv⟩ := groundX (R := R) B F N hA hf hke
  refine codeC_call_function (fd := fnOf name qual params body scope dV kV doc pm an cdv ct) (body := body) hroom ((X₀.keeps F.keep) _ _ ho) rfl hco hgen rfl (codeRec_of (X₀.keeps F.keep) hcd) (hbind _ _ _ _ ?_)
  refine wpAny_newFunctionEnv hcell hloc (fun h₁ hns hsb => ⟨(T.nolimit.keeps F.keep).fresh _ hsb, codeC_func ?_⟩) hk
  have hk₁ : ∀ b o, s.heap.get? b = some o → h₁.get? b = some o := fun b o e => hsb.extBut b o (Nat.ne_of_lt (Heap.lt_size e)) (Heap.get?_push_of_some _ e)
  exact wpC_mono (h _ s.heap.objs.size h₁ (fun b o hb e => hideAll_get _ e hb) FG ⟨hns, fun b o e => hk₁ b o (of_hideAll _ e), Nat.le_of_eq (hideAll_size _ _)⟩
    (fun p hp => ⟨hk₁ _ _ (N p hp).1, Nat.ne_of_lt (Heap.lt_size (N p hp).1), hideAll_none _ (List.mem_map_of_mem hp)⟩) BG (X₀.keeps st) (T.keeps st)) (fun fl s' hl => lv _ _ hl.toK) fun _ _ y => y.elim
end

section
variable {M : Model} {A : Around} {E : Value → Shared → Prop} {s : Shared} {env : Env}
theorem wpC_Call_method {o : Expr} {name : Str} {apos pos : Pos} {args : List Expr} {Q : Value → Shared → Prop}
    (h : wpC M A (eval o env) (fun ov s₁ => wpAny M A (getMethod ov name (do return (← importBound o env).getD true)) (fun fx s₂ => wpC M A (callWith pos fx.1 fx.2 (backTo pos (starEach args env)) []) Q E s₂) E s₁) E s)
    (hbase : attributeBase o name env (eval o env) = eval o env := by k_dflt exact rfl)
    (hform : methodCallForm (args.length + 0) (backTo pos (starEach args env)) [] = true := by k_dflt exact rfl)
    (hline : (apos.endLine == pos.line) = true := by k_dflt exact rfl) :
    wpC M A (eval (.Call (.Attribute o name apos) args [] pos) env) Q E s := by
  rw [arm_eval_Call, hbase]
  refine wpC_bind (wpC_mono h (fun ov s₁ h₁ => wpC_bindA (wpAny_standAt ?_)) fun _ _ x => x)
  unfold methodCall
  show wpC M A (do
    let (f, first) ← holding [ov] (calleeOf (methodCallForm (args.length + 0) (backTo pos (starEach args env)) []) o env ov name)
    let callPos ← methodCallPos (methodCallForm (args.length + 0) (backTo pos (starEach args env)) []) o env apos pos
    callWith callPos f first (backTo pos (starEach args env)) []) Q E s₁
  rw [hform]
  refine wpC_bindA (wpAny_holding ?_)
  unfold calleeOf
  rw [if_pos rfl]
  refine wpAny_mono h₁ (fun fx s₂ h₂ => ?_) fun _ _ x => x
  have hp : methodCallPos true o env apos pos = pure pos := by unfold methodCallPos; simp [hline]
  exact wpC_bindA (wpAny_of_eq hp h₂)
theorem splicedC_cons {x : Sem Value} {rest : List (Bool × Sem Value)} {Q : List Value → Shared → Prop}
    (h : wpC M A x (fun v s₁ => wpC M A (spliced rest) (fun vs s₂ => Q (v :: vs) s₂) E s₁) E s) : wpC M A (spliced ((false, x) :: rest)) Q E s := by
  show wpC M A (do let v ← x; return v :: (← holding [v] (spliced rest))) Q E s
  exact wpC_bind (wpC_mono h (fun v s₁ h₁ => wpC_bind (wpC_holding (wpC_mono h₁ (fun vs s₂ h₂ => wpC_pure h₂) fun _ _ x => x))) fun _ _ x => x)
/-- a function of the written part, called: its arguments by the kit's own walk -/
theorem callWithC_K {K : Frag} {f : Value} {pos : Pos} {first : List Value} {e : Expr} {rest : List Expr} {Q : Value → Shared → Prop} (hk : keepIn K f = true)
    (h : wpC M A (spliced (backTo pos (starEach (e :: rest) env))) (fun vs s₁ => K.In s₁.heap ∧ wpC M A (call f (first ++ vs)) Q E s₁) E s)
    (he : starEach (e :: rest) env = (false, eval e env) :: starEach rest env := by k_dflt exact rfl) (hplain : (backTo pos (starEach rest env)).any (·.1) = false := by k_dflt exact rfl) :
    wpC M A (callWith pos f first (backTo pos (starEach (e :: rest) env)) []) Q E s := by
  rw [he] at h ⊢
  unfold callWith
  refine wpC_bind (wpC_holding (wpC_mono (evalArgsC_plain (Q := fun a s₁ => K.In s₁.heap ∧ wpC M A (call f (first ++ a.pos) a.kw) Q E s₁) (by exact h)) (fun a s₁ h₁ => wpC_bindA (wpAny_standAt ?_)) fun _ _ x => x))
  obtain ⟨k, hk', Lk⟩ := keeps_K (M := M) hk _ h₁.1
  have hp : ((backTo pos ((false, eval e env) :: starEach rest env)).any (·.1) || ([] : List (Option Str × Sem Value)).any (·.1.isNone)) = false := by
    show ((false || (backTo pos (starEach rest env)).any (·.1)) || false) = false
    rw [hplain]; rfl
  have hc := h₁.2
  refine wpC_bindA (Lk.here ?_)
  simp only [hp]
  have marked (mk : Value) : wpC M A (callMarked mk f (first ++ a.pos) a.kw) Q E s₁ := by unfold callMarked; exact wpC_keep hc
  rcases hk' with rfl | rfl | rfl <;> dsimp only <;> first | exact callTailC hc | (split <;> first | exact callTailC hc | exact callTailC (marked _))
end

section
variable {prog : Program} {w : World} {A : Around} {K : Frag} {C : Addr} {R : Result → Shared → Prop} {h : Heap} {g : Array GenState} {d : Drawn} {t : Nat} {os : OsState}
theorem make_coreC {rest : List Value} {init : Value} (Y : Makes (model prog w) h C) (hi : Looks (model prog w) h (typeLookup (.ref C) "__init__") (some init))
    (hb : ∀ self, Looks (model prog w) h (bindSpecial init self) (init, [self])) (hne : (some init != some (Value.builtin "object.__init__")) = true)
    (hq : codeC (model prog w) (A.under (.builtin "type.__call__" ⟨.ref C :: rest, []⟩)) (.call init ⟨.ref (h.objs.size + 1) :: rest, []⟩) (InitBack (h.objs.size + 1) R) ⟨(h.push emptyDict).push (instObj C h.objs.size), g, d, t, os⟩) :
    codeC (model prog w) A (.call (.ref C) ⟨rest, []⟩) R ⟨h, g, d, t, os⟩ := by
  have Y' := Y
  obtain ⟨⟨oc, od, cd, sl, hC, e1, e2, e4⟩, made, base, self, top, call, typ⟩ := Y
  refine codeC_tree ?_
  show wpC _ _ (callAny (.ref C) _) _ _ _
  refine wpC_bindA (wpAny_load hC ?_)
  show wpC _ _ (callAny.viaDunder (.ref C) _) _ _ _
  unfold callAny.viaDunder
  refine wpC_bindA (call.at ?_)
  dsimp only
  rw [tc_bind]
  refine wpC_bindA (wpAny_pure (wpC_bindA (wpAny_pure ?_)))
  refine wpC_pure (a := Fin.again (.call (.builtin "type.__call__") ⟨.ref C :: rest, []⟩)) ⟨rfl, rfl, ?_⟩
  refine codeC_tree ?_
  show wpC _ _ (do checkBuiltinCall "type.__call__" ⟨.ref C :: rest, []⟩; again (.builtin "type.__call__" ⟨.ref C :: rest, []⟩)) _ _ _
  refine wpC_bindA (check_slot tc_kind tc_split typ (tc_args _ _ _) ?_)
  refine wpC_pure ⟨Code.quiet_builtin _ (by decide +kernel), calm_id (by decide +kernel), codeC_builtin entry_typeCall ?_⟩
  unfold Builtin.«type.__call__»
  have hm : Looks (model prog w) h (mroOf (.ref C)) cd.mro := ((Looks.ld (part := none) hC).andThen .now).andThen .now
  refine wpC_bindA (hm.at ?_)
  simp only [e4, Bool.false_eq_true, if_false]
  refine wpC_bindA (made.at ?_)
  refine wpC_bindA (wpAny_pure ?_)
  refine wpC_bindA (wpAny_holding (wpAny_call (new_K Y' hi (.inl hne) ?_)))
  have k : ∀ b o, h.get? b = some o → ((h.push emptyDict).push (instObj C h.objs.size)).get? b = some o := fun b o e => Heap.get?_push_of_some _ (Heap.get?_push_of_some _ e)
  have hx : ((h.push emptyDict).push (instObj C h.objs.size)).get? (h.objs.size + 1) = some (instObj C h.objs.size) := by heap_get
  have t1 : Looks (model prog w) ((h.push emptyDict).push (instObj C h.objs.size)) (typeOf (.ref (h.objs.size + 1))) (.ref C) := (Looks.ld hx).andThen .now
  have s1 := self.keeps k
  have i1 := hi.keeps k
  have b1 := (hb (.ref (h.objs.size + 1))).keeps k
  unfold isInstance
  refine wpC_bindA (wpAny_bind (t1.at ?_))
  refine s1.at ?_
  simp only [Bool.not_true, Bool.false_eq_true, if_false]
  refine wpC_bind (wpC_holding ?_)
  unfold callSpecial? specialOf
  refine wpC_bindA (wpAny_bind (t1.at (i1.at ?_)))
  refine wpC_holding (wpC_bindA (b1.at ?_))
  refine wpC_bind (wpC_call ?_)
  refine codeC_mono hq fun r s' z => ?_
  rcases r with e | (v | _ | _ | _) <;> first | exact z | exact z.elim | skip
  obtain ⟨rfl, z⟩ := z
  exact wpC_pure (wpC_pure z)
end
section
variable {prog : Program} {w : World} {A : Around} {K : Frag} {C x : Addr} {s : Shared} {h₀ : Heap} {L : Addr} {m : Str → Option Value} {news : List (Addr × Obj)} {R : Result → Shared → Prop}
theorem make_KC {rest : List Value} {fI : Addr} (F : Fr h₀ L s.heap m) (N : News h₀ L s.heap news) (X : K.In s.heap) (hm : makesIn K C = true)
    (hi : findIn K (.ref C) "__init__" = some (some (.ref fI))) (hf : typeIn K (.ref fI) = some (.type "function"))
    (h : ∀ x dx h', Fr h₀ L h' m → News h₀ L h' ((x, instObj C dx) :: (dx, emptyDict) :: news) → (∀ p ∈ news, p.1 < dx) → dx < x → Kept s.heap h' [] →
      codeC (model prog w) (A.under (.builtin "type.__call__" ⟨.ref C :: rest, []⟩)) (.call (.ref fI) ⟨.ref x :: rest, []⟩) (InitBack x R) { s with heap := h' }) :
    codeC (model prog w) A (.call (.ref C) ⟨rest, []⟩) R s := by
  obtain ⟨hh, g, d, t, os⟩ := s
  refine make_coreC (makes_of X hm) (looks_findIn X hi) (fun self => bind_fn X self hf) rfl (h _ hh.objs.size _ ((F.push _).push _) ?_ (fun p hp => Heap.lt_size (N p hp).1) (Nat.lt_succ_self _) fun b o _ e => Heap.get?_push_of_some _ (Heap.get?_push_of_some _ e))
  have := (N.push F emptyDict).push (F.push _) (instObj C hh.objs.size)
  rwa [Heap.size_push] at this
end
end Mine
end
section
open PySem PySem.W PyProof.Rows PySem.Spec PySem.Calls
namespace Mine
namespace B
theorem type_extend : typeOf (.builtin "bytearray.extend") = pure (.type "method_descriptor") := by show builtinType _ = _; rw [builtinType_eq_fast]; kernel_rfl
theorem plainAttrs : PlainAttrs "bytearray" :=
  ⟨⟨"bytearray.__getattribute__", by rw [typeLookup_type, builtinLookup_eq_fast]; kernel_rfl, by decide +kernel⟩, by rw [typeLookup_type, builtinLookup_eq_fast]; kernel_rfl⟩
end B
section
variable {prog : Program} {w : World} {A : Around} {E : Value → Shared → Prop} {s : Shared} {a : Addr} {b : Array UInt8} {env : Env}
theorem method_extend {pl : Sem Bool} {Q : Value × List Value → Shared → Prop} (h : s.heap.get? a = some (ba b)) (hq : Q (.builtin "bytearray.extend", [.ref a]) s) : wpAny (model prog w) A (getMethod (.ref a) (PySem.Str.ofString "extend") pl) Q E s :=
  getMethod_builtin (typeIs_ba h) B.plainAttrs B.slot_extend B.type_extend (fun a e => by cases e; exact ⟨_, h, rfl⟩) hq
/-- what b.extend(octets) asks of the octets and of the state behind them -/
def ExtN (Q : Value → Shared → Prop) (a : Addr) (v : Value) (s₁ : Shared) : Prop :=
  ∃ b o t, v = .bytes o t ∧ s₁.heap.get? a = some (ba b) ∧ (b ++ o).size ≤ sizeLine ∧ ∀ h', Heap.SameBut a s₁.heap h' → h'.get? a = some (ba (b ++ o)) → Q .none { s₁ with heap := h' }
theorem callWith_extend {pos : Pos} {e : Expr} {Q : Value → Shared → Prop}
    (h : wpAny (model prog w) A (eval e env) (fun v s₁ => ExtN Q a v s₁) E s) (hg : A.guards = some [] := by k_dflt exact rfl)
    (he : starEach [e] env = [(false, eval e env)] := by k_dflt exact rfl) :
    wpC (model prog w) A (callWith pos (.builtin "bytearray.extend") [.ref a] (backTo pos (starEach [e] env)) []) Q E s := by
  rw [he]
  refine callWithC_builtin rfl (evalArgsC_plain (wpC.any (spliced_cons ?_)))
  show wpAny _ _ (eval e env) _ _ _
  refine wpAny_mono h (fun v s₁ h₁ => spliced_nil ⟨rfl, ?_⟩) fun _ _ x => x
  obtain ⟨b, o, t, rfl, hb, hz, hq⟩ := h₁
  exact call_extend hg hb hz hq
theorem eval_Slice {lo hi : Option Expr} {pos : Pos} {Q : Value → Shared → Prop}
    (h : wpAny (model prog w) A (valueOrNone (evalOpt lo env)) (fun l s₁ => wpAny (model prog w) A (valueOrNone (evalOpt hi env)) (fun u s₂ =>
      Q (.ref s₂.heap.objs.size) { s₂ with heap := s₂.heap.push { cls := .type "slice", data := .fields #[l, u, .none] } }) E s₁) E s) :
    wpAny (model prog w) A (eval (.Slice lo hi none pos) env) Q E s := by
  rw [arm_eval_Slice]
  refine wpAny_bind (wpAny_mono h (fun l s₁ h₁ => wpAny_bind (wpAny_holding (wpAny_mono h₁ (fun u s₂ h₂ => ?_) fun _ _ x => x))) fun _ _ x => x)
  show wpAny _ _ (holding [l, u] (pure Value.none) >>= fun x => newFields "slice" [l, u, x]) _ _ _
  refine wpAny_bind (wpAny_holding (wpAny_pure ?_))
  exact wpAny_newObj_type h₂ (by show (3 : Nat) ≤ sizeLine + 2; rw [sizeLine_eq]; omega)
theorem eval_some {e : Expr} {Q : Value → Shared → Prop} (h : wpAny (model prog w) A (eval e env) Q E s) : wpAny (model prog w) A (valueOrNone (evalOpt (some e) env)) Q E s := h
theorem eval_none {Q : Value → Shared → Prop} (h : Q .none s) : wpAny (model prog w) A (valueOrNone (evalOpt none env)) Q E s := wpAny_pure h
/-- b[lo:hi] = octets -/
theorem setItem_slice {o : Array UInt8} {t : Tok} {l u : Value} {Q : Unit → Shared → Prop} (hg : A.guards = some [])
    (h : ∃ (n : Nat) (t1 t2 : Tok) (b : Array UInt8), l = .int (n : Nat) t1 ∧ u = .int ((n + o.size : Nat) : Int) t2 ∧ s.heap.get? a = some (ba b) ∧ n ≤ b.size ∧ o.size ≤ sizeLine ∧ (putAt b n o).size ≤ sizeLine ∧
      ∀ h', (∀ x q, x ≠ a → s.heap.get? x = some q → h'.get? x = some q) → h'.get? a = some (ba (putAt b n o)) → Q () { s with heap := h' }) :
    wpC (model prog w) A (setItem (.ref a) (.ref s.heap.objs.size) (.bytes o t)) Q E { s with heap := s.heap.push { cls := .type "slice", data := .fields #[l, u, .none] } } := by
  obtain ⟨n, t1, t2, b, rfl, rfl, hb, hn, ho, hz, hq⟩ := h
  refine set_slice (b := b) hg (Heap.get?_push_of_some _ hb) (Heap.IsSliceOf.new _ _ _ _) hn ho hz fun h' k ha _ => hq h' (fun x q hx e => k x q hx (Heap.get?_push_of_some _ e)) ha
theorem delItem_slice {l : Value} {Q : Unit → Shared → Prop} (hg : A.guards = some [])
    (h : ∃ (n : Nat) (t1 : Tok) (b : Array UInt8), l = .int (n : Nat) t1 ∧ s.heap.get? a = some (ba b) ∧ n ≤ b.size ∧ b.size ≤ sizeLine ∧
      ∀ h', (∀ x q, x ≠ a → s.heap.get? x = some q → h'.get? x = some q) → h'.get? a = some (ba (b.toList.take n).toArray) → Q () { s with heap := h' }) :
    wpC (model prog w) A (delItem (.ref a) (.ref s.heap.objs.size)) Q E { s with heap := s.heap.push { cls := .type "slice", data := .fields #[l, .none, .none] } } := by
  obtain ⟨n, t1, b, rfl, hb, hn, hz, hq⟩ := h
  refine del_slice (b := b) hg (Heap.get?_push_of_some _ hb) (Heap.IsSliceOf.new _ _ _ _) hn hz fun h' k ha => hq h' (fun x q hx e => k.extBut x q hx (Heap.get?_push_of_some _ e)) ha
end
section
variable {M : Model} {A : Around} {E : Value → Shared → Prop} {s : Shared} {env : Env}
theorem wpC_spliced_cons {pos : Pos} {e : Expr} {rest : List Expr} {Q : List Value → Shared → Prop}
    (h : wpC M A (eval e env) (fun v s₁ => wpC M A (spliced (backTo pos (starEach rest env))) (fun vs s₂ => Q (v :: vs) s₂) E s₁) E s)
    (he : starEach (e :: rest) env = (false, eval e env) :: starEach rest env := by k_dflt exact rfl) : wpC M A (spliced (backTo pos (starEach (e :: rest) env))) Q E s := by
  rw [he]; exact splicedC_cons h
theorem wpC_spliced_nil {pos : Pos} {Q : List Value → Shared → Prop} (h : Q [] s) : wpC M A (spliced (backTo pos (starEach [] env))) Q E s := splicedC_nil h
theorem callWithC_K0 {K : Frag} {f : Value} {pos : Pos} {first : List Value} {Q : Value → Shared → Prop} (X : K.In s.heap) (hk : keepIn K f = true)
    (h : wpC M A (call f (first ++ [])) Q E s) : wpC M A (callWith pos f first (backTo pos (starEach [] env)) []) Q E s := by
  show wpC M A (callWith pos f first [] []) Q E s
  unfold callWith
  have hA : wpC M A (evalArgs f true [] []) (fun a s₁ => K.In s₁.heap ∧ wpC M A (call f (first ++ a.pos) a.kw) Q E s₁) E s := wpC.any (PySem.evalArgs_none ⟨X, h⟩)
  refine wpC_bind (wpC_holding (wpC_mono hA (fun a s₁ h₁ => wpC_bindA (wpAny_standAt ?_)) fun _ _ x => x))
  obtain ⟨k, hk', Lk⟩ := keeps_K (M := M) hk _ h₁.1
  have hc := h₁.2
  refine wpC_bindA (Lk.here ?_)
  have marked (mk : Value) : wpC M A (callMarked mk f (first ++ a.pos) a.kw) Q E s₁ := by unfold callMarked; exact wpC_keep hc
  rcases hk' with rfl | rfl | rfl <;> dsimp only <;> first | exact callTailC hc | (split <;> first | exact callTailC hc | exact callTailC (marked _)) | (simp only [List.any_nil, Bool.or_self]; first | exact callTailC hc | (split <;> first | exact callTailC hc | exact callTailC (marked _)))
end
theorem size_putAt (b : Array UInt8) (n : Nat) (o : Array UInt8) : (putAt b n o).size = min n b.size + o.size + (b.size - (n + o.size)) := by
  unfold putAt
  simp only [Array.size_append, Array.size_extract]
  omega
/-- one object changed: the frame and the ledger -/
theorem fr_but {h₀ h h' : Heap} {L a : Addr} {m : Str → Option Value} (F : Fr h₀ L h m) (ha : a ≠ L) (h0 : h₀.get? a = none) (k : ∀ x q, x ≠ a → h.get? x = some q → h'.get? x = some q) : Fr h₀ L h' m := by
  obtain ⟨oL, a1, a2, hL, a3⟩ := F.ns
  refine ⟨⟨oL, a1, a2, k _ _ (Ne.symm ha) hL, a3⟩, fun b o e => k b o (fun q => ?_) (F.keep b o e), F.above⟩
  rw [q, h0] at e; cases e
theorem fr_kept {h₀ h h' : Heap} {L : Addr} {l : List Addr} {m : Str → Option Value} (F : Fr h₀ L h m) (k : Kept h h' l) (hl : ∀ a ∈ l, a ≠ L ∧ h₀.get? a = none) : Fr h₀ L h' m := by
  obtain ⟨oL, a1, a2, hL, a3⟩ := F.ns
  refine ⟨⟨oL, a1, a2, k _ _ (fun q => (hl _ q).1 rfl) hL, a3⟩, fun b o e => k b o (fun q => ?_) (F.keep b o e), F.above⟩
  rw [(hl _ q).2] at e; cases e
theorem news_upd1 {h₀ h h' : Heap} {L a : Addr} {news : List (Addr × Obj)} {g : Obj → List (Addr × Obj)} {o o' : Obj} (N : News h₀ L h news) (U : UpdF a o news g) (k : ∀ x q, x ≠ a → h.get? x = some q → h'.get? x = some q) (ha : h'.get? a = some o') : News h₀ L h' (g o') := by
  obtain ⟨pre, post, rfl, hg, h1, h2⟩ := U.split
  rw [hg]
  intro p hp
  rcases List.mem_append.mp hp with q | q
  · have P := N p (List.mem_append_left _ q); exact ⟨k _ _ (h1 p q) P.1, P.2⟩
  · rcases List.mem_cons.mp q with rfl | q
    · exact ⟨ha, (N (a, o) (by simp)).2⟩
    · have P := N p (List.mem_append_right _ (.tail _ q)); exact ⟨k _ _ (h2 p q) P.1, P.2⟩
theorem UpdF.mem {a : Addr} {o : Obj} {news : List (Addr × Obj)} {g : Obj → List (Addr × Obj)} (U : UpdF a o news g) : (a, o) ∈ news := by
  obtain ⟨pre, post, rfl, _⟩ := U.split; simp
/-- a change of one object of the ledger -/
theorem upd1 {h₀ h h' : Heap} {L a : Addr} {m : Str → Option Value} {news : List (Addr × Obj)} {g : Obj → List (Addr × Obj)} {o o' : Obj} (F : Fr h₀ L h m) (N : News h₀ L h news) (U : UpdF a o news g) (k : ∀ x q, x ≠ a → h.get? x = some q → h'.get? x = some q) (ha : h'.get? a = some o') :
    Fr h₀ L h' m ∧ News h₀ L h' (g o') := ⟨fr_but F (N _ (UpdF.mem U)).2.1 (N _ (UpdF.mem U)).2.2 k, news_upd1 N U k ha⟩
theorem Kept.but {h h' : Heap} {a : Addr} (k : Kept h h' [a]) : ∀ x q, x ≠ a → h.get? x = some q → h'.get? x = some q := fun x q hx e => k x q (by simpa using hx) e
theorem extN_ {h₀ : Heap} {L a : Addr} {m : Str → Option Value} {news : List (Addr × Obj)} {g : Obj → List (Addr × Obj)} {b o : Array UInt8} {t : Tok} {Q : Value → Shared → Prop} {s : Shared} (F : Fr h₀ L s.heap m) (N : News h₀ L s.heap news) (U : UpdF a (ba b) news g)
    (hz : (b ++ o).size ≤ sizeLine) (k : ∀ h', Fr h₀ L h' m → News h₀ L h' (g (ba (b ++ o))) → Q .none { s with heap := h' }) : ExtN Q a (.bytes o t) s :=
  ⟨b, o, t, rfl, N.get (UpdF.mem U), hz, fun h' hs ha => let ⟨F', N'⟩ := upd1 F N U hs.extBut ha; k h' F' N'⟩
section
variable {prog : Program} {w : World} {A : Around} {E : Value → Shared → Prop} {s : Shared} {a L : Addr} {b : Array UInt8} {h₀ : Heap} {m : Str → Option Value} {news : List (Addr × Obj)} {g : Obj → List (Addr × Obj)}
theorem setItem_N {o : Array UInt8} {t t1 t2 : Tok} {n : Nat} {i j : Int} {Q : Unit → Shared → Prop} (F : Fr h₀ L s.heap m) (N : News h₀ L s.heap news) (U : UpdF a (ba b) news g) (hg : A.guards = some []) (hi : i = (n : Nat)) (hj : j = ((n + o.size : Nat) : Int)) (hn : n ≤ b.size) (ho : o.size ≤ sizeLine) (hz : (putAt b n o).size ≤ sizeLine)
    (k : ∀ h', Fr h₀ L h' m → News h₀ L h' (g (ba (putAt b n o))) → Q () { s with heap := h' }) :
    wpC (model prog w) A (setItem (.ref a) (.ref s.heap.objs.size) (.bytes o t)) Q E { s with heap := s.heap.push { cls := .type "slice", data := .fields #[.int i t1, .int j t2, .none] } } := by
  subst hi hj
  exact setItem_slice hg ⟨n, t1, t2, b, rfl, rfl, N.get (UpdF.mem U), hn, ho, hz, fun h' hs ha => let ⟨F', N'⟩ := upd1 F N U hs ha; k h' F' N'⟩
theorem delItem_N {t1 : Tok} {n : Nat} {i : Int} {Q : Unit → Shared → Prop} (F : Fr h₀ L s.heap m) (N : News h₀ L s.heap news) (U : UpdF a (ba b) news g) (hg : A.guards = some []) (hi : i = (n : Nat)) (hn : n ≤ b.size) (hz : b.size ≤ sizeLine)
    (k : ∀ h', Fr h₀ L h' m → News h₀ L h' (g (ba (b.toList.take n).toArray)) → Q () { s with heap := h' }) :
    wpC (model prog w) A (delItem (.ref a) (.ref s.heap.objs.size)) Q E { s with heap := s.heap.push { cls := .type "slice", data := .fields #[.int i t1, .none, .none] } } := by
  subst hi
  exact delItem_slice hg ⟨n, t1, b, rfl, N.get (UpdF.mem U), hn, hz, fun h' hs ha => let ⟨F', N'⟩ := upd1 F N U hs ha; k h' F' N'⟩
end
end Mine
end
section
open PySem PySem.W PyProof.Rows PySem.Spec PySem.Calls
namespace Mine
section
variable {prog : Program} {w : World} {A₀ A : Around} {s : Shared} {base h₀ : Heap} {outer : List Env} {L : Addr} {m : Str → Option Value} {news : List (Addr × Obj)} {K : Frag} {p : Program} {loose : List Str} {mean : ExcName → Option Value} {mg mb : Str → Option Value}
  {env : Env} {R : Result → Shared → Prop} {name qual : Str} {params : Arguments} {body : List Stmt} {scope : Scope} {dV kV doc pm cdv ct oc : Value} {an od : Option Addr} {osl : Array (Option Value)} {f : Addr} {args : Args} {binds : List (Str × Value)}
theorem cells_news {h₁ : Heap} {tk : Nat} {cells : List (Addr × Obj)} (N : News h₀ L s.heap news) (hk₁ : ∀ b o, s.heap.get? b = some o → h₁.get? b = some o) (NC : News s.heap s.heap.objs.size h₁ cells) :
    News (hideAll s.heap (news.map (·.1))) s.heap.objs.size h₁ (cells ++ news) := fun p hp => by
  rcases List.mem_append.mp hp with hp | hp
  · refine ⟨(NC p hp).1, (NC p hp).2.1, ?_⟩
    cases q : (hideAll s.heap (news.map (·.1))).get? p.1 with
    | none => rfl
    | some o => have := of_hideAll _ q; rw [(NC p hp).2.2] at this; cases this
  · exact ⟨hk₁ _ _ (N p hp).1, Nat.ne_of_lt (Heap.lt_size (N p hp).1), hideAll_none _ (List.mem_map_of_mem hp)⟩
theorem code_defN (hA : A.frames = some (env :: outer)) (hf : env.frame = some L) (hke : env.scope.kind = .function) (B : Below A₀ base outer h₀) (F : Fr h₀ L s.heap m) (X₀ : K.In h₀) (N : News h₀ L s.heap news) (T : Top p loose mean mg mb h₀)
    (ho : K.lookup f = some ⟨oc, od, .func (fnOf name qual params body scope dV kV doc pm an cdv ct), osl⟩) (hcd : codeIn K cdv qual = true) (hroom : A.depth < recursionLimit)
    (hbind : BindsTo s (fnOf name qual params body scope dV kV doc pm an cdv ct) args binds) (hkind : (binds.all fun y => scope.names.lookup y.1 == some .local || scope.names.lookup y.1 == some .cell) = true)
    (hnd : ((cellsFrom 0 scope.names []).map (·.1)).Nodup)
    (hco : scope.isCoroutine = false) (hgen : scope.isGenerator = false) (hk : scope.kind = .function)
    (h : ∀ g L' h₁ tk cells, Kept s.heap g (news.map (·.1)) → Fr h₀ L g m → Fr g L' h₁ (bindL (envOfC qual scope L' f cdv).kindOf binds fun _ => none) → News g L' h₁ (cells ++ news) →
      CellsAre (bindC (envOfC qual scope L' f cdv).kindOf binds fun _ => none) (cellsFrom (L' + 1) scope.names []) cells → Below A base (env :: outer) g → K.In g → Top p loose mean mg mb g → (∀ p ∈ news, p.1 < L') →
      wpAny (model prog w) (A.deeper (envOfC qual scope L' f cdv)) (execs body (envOfC qual scope L' f cdv))
        (fun fl s' => LeaveM h₀ L m s.heap (news.map (·.1)) g R (match fl with | .ret v => v | _ => .none) s')
        (fun e s' => wpAny (model prog w) (A.deeper (envOfC qual scope L' f cdv)) (leaving (envOfC qual scope L' f cdv) e) (fun _ s'' => R (.error e) s'') (fun e' s'' => R (.error e') s'') s')
        { s with heap := h₁, toks := tk })
    : codeAny (model prog w) A (.call (.ref f) args) R s := by
  obtain ⟨FG, BG, st, lv⟩ := groundX (R := R) B F N hA hf hke
  refine codeAny_call_function (fd := fnOf name qual params body scope dV kV doc pm an cdv ct) hroom ((X₀.keeps F.keep) _ _ ho) rfl hco hgen rfl (codeRec_of (X₀.keeps F.keep) hcd) (hbind _ _ _ _ ?_)
  refine wpAny_newFunctionEnv_cells hk (kindsX hkind _) fun env' he s' x => ?_
  subst he
  refine ⟨(T.nolimit.keeps F.keep).keeps x.toInCall.keep, codeAny_func ?_⟩
  obtain ⟨h₁, tk, rfl, _⟩ := x.done
  have hk₁ := x.toInCall.keep
  obtain ⟨cells, NC, Y⟩ := Cl.news (h₀ := s.heap) (Nat.le_refl _) fun n c hm => ⟨x.cell n c (lookup_of_mem_nodup (cellsFrom_names scope.names 0 (s.heap.objs.size + 1) [] [] rfl ▸ hnd) hm), x.above n c hm⟩
  exact wpAny_mono (h _ s.heap.objs.size h₁ tk cells (fun b o hb e => hideAll_get _ e hb) FG ⟨x.toInCall.ns, fun b o e => hk₁ b o (of_hideAll _ e), Nat.le_of_eq (hideAll_size _ _)⟩
    (cells_news (tk := tk) N hk₁ NC) Y BG (X₀.keeps st) (T.keeps st) (fun p hp => Heap.lt_size (N p hp).1)) (fun fl s' hl => lv _ _ hl.toK) fun _ _ y => y
theorem code_defNC (hA : A.frames = some (env :: outer)) (hf : env.frame = some L) (hke : env.scope.kind = .function) (B : Below A₀ base outer h₀) (F : Fr h₀ L s.heap m) (X₀ : K.In h₀) (N : News h₀ L s.heap news) (T : Top p loose mean mg mb h₀)
    (ho : K.lookup f = some ⟨oc, od, .func (fnOf name qual params body scope dV kV doc pm an cdv ct), osl⟩) (hcd : codeIn K cdv qual = true) (hroom : A.depth < recursionLimit)
    (hbind : BindsTo s (fnOf name qual params body scope dV kV doc pm an cdv ct) args binds) (hkind : (binds.all fun y => scope.names.lookup y.1 == some .local || scope.names.lookup y.1 == some .cell) = true)
    (hnd : ((cellsFrom 0 scope.names []).map (·.1)).Nodup)
    (hco : scope.isCoroutine = false) (hgen : scope.isGenerator = false) (hk : scope.kind = .function)
    (h : ∀ g L' h₁ tk cells, Kept s.heap g (news.map (·.1)) → Fr h₀ L g m → Fr g L' h₁ (bindL (envOfC qual scope L' f cdv).kindOf binds fun _ => none) → News g L' h₁ (cells ++ news) →
      CellsAre (bindC (envOfC qual scope L' f cdv).kindOf binds fun _ => none) (cellsFrom (L' + 1) scope.names []) cells → Below A base (env :: outer) g → K.In g → Top p loose mean mg mb g → (∀ p ∈ news, p.1 < L') →
      wpC (model prog w) (A.deeper (envOfC qual scope L' f cdv)) (execs body (envOfC qual scope L' f cdv))
        (fun fl s' => LeaveM h₀ L m s.heap (news.map (·.1)) g R (match fl with | .ret v => v | _ => .none) s') noE
        { s with heap := h₁, toks := tk })
    : codeC (model prog w) A (.call (.ref f) args) R s := by
  obtain ⟨FG, BG, st, lv⟩ := groundX (R := R) B F N hA hf hke
  refine codeC_call_function (fd := fnOf name qual params body scope dV kV doc pm an cdv ct) hroom ((X₀.keeps F.keep) _ _ ho) rfl hco hgen rfl (codeRec_of (X₀.keeps F.keep) hcd) (hbind _ _ _ _ ?_)
  refine wpAny_newFunctionEnv_cells hk (kindsX hkind _) fun env' he s' x => ?_
  subst he
  refine ⟨(T.nolimit.keeps F.keep).keeps x.toInCall.keep, codeC_func ?_⟩
  obtain ⟨h₁, tk, rfl, _⟩ := x.done
  have hk₁ := x.toInCall.keep
  obtain ⟨cells, NC, Y⟩ := Cl.news (h₀ := s.heap) (Nat.le_refl _) fun n c hm => ⟨x.cell n c (lookup_of_mem_nodup (cellsFrom_names scope.names 0 (s.heap.objs.size + 1) [] [] rfl ▸ hnd) hm), x.above n c hm⟩
  exact wpC_mono (h _ s.heap.objs.size h₁ tk cells (fun b o hb e => hideAll_get _ e hb) FG ⟨x.toInCall.ns, fun b o e => hk₁ b o (of_hideAll _ e), Nat.le_of_eq (hideAll_size _ _)⟩
    (cells_news (tk := tk) N hk₁ NC) Y BG (X₀.keeps st) (T.keeps st) (fun p hp => Heap.lt_size (N p hp).1)) (fun fl s' hl => lv _ _ hl.toK) fun _ _ y => y.elim
end
end Mine
namespace Mine
theorem Kept.made {s h1 h2 : Heap} {x dx : Addr} {l : List Addr} (K1 : Kept s h1 []) (hx : s.get? x = none) (hd : s.get? dx = none) (K2 : Kept h1 h2 (x :: dx :: l)) : Kept s h2 l := fun b o hb e => by
  refine K2 b o (fun q => ?_) (K1 b o (by simp) e)
  rcases List.mem_cons.mp q with rfl | q
  · rw [hx] at e; cases e
  · rcases List.mem_cons.mp q with rfl | q
    · rw [hd] at e; cases e
    · exact hb q
theorem Fresh.made {s h1 : Heap} {x dx : Addr} {l : List Addr} {news : List (Addr × Obj)} (K1 : Kept s h1 []) (hx : s.get? x = none) (hd : s.get? dx = none) (R : Fresh h1 (x :: dx :: l) news) : Fresh s l news := fun q hq => by
  rcases R q hq with h | h
  · rcases List.mem_cons.mp h with h | h
    · right; rw [h]; exact hx
    · rcases List.mem_cons.mp h with h | h
      · right; rw [h]; exact hd
      · exact .inl h
  · right
    cases e : s.get? q.1 with
    | none => rfl
    | some o => have := K1 _ _ (by simp) e; rw [h] at this; cases this
section
variable {prog : Program} {w : World} {A : Around} {E : Value → Shared → Prop} {Q : Value → Shared → Prop} {K : Frag} {C x : Addr} {s : Shared} {h₀ : Heap} {L : Addr} {m : Str → Option Value} {news : List (Addr × Obj)} {R : Result → Shared → Prop}
theorem callA_cls {rest : List Value} {fI : Addr} (F : Fr h₀ L s.heap m) (X₀ : K.In h₀) (N : News h₀ L s.heap news) (hm : makesIn K C = true)
    (hi : findIn K (.ref C) "__init__" = some (some (.ref fI))) (hf : isFn K (.ref fI) = true)
    (h : ∀ x dx h', Fr h₀ L h' m → News h₀ L h' ((x, instObj C dx) :: (dx, emptyDict) :: news) → (∀ p ∈ news, p.1 < dx) → (∀ p ∈ (dx, emptyDict) :: news, p.1 < x) → Kept s.heap h' [] → s.heap.get? x = none → s.heap.get? dx = none →
      codeAny (model prog w) (A.under (.builtin "type.__call__" ⟨.ref C :: rest, []⟩)) (.call (.ref fI) ⟨.ref x :: rest, []⟩) (InitBack x (back Q E)) { s with heap := h' }) :
    wpAny (model prog w) A (call (.ref C) rest) Q E s := by
  have X := X₀.keeps F.keep
  obtain ⟨hh, g, d, t, os⟩ := s
  refine wpAny_call (make_core (makes_of X hm) (looks_findIn X hi) (fun self => bind_fn X self (beq_iff_eq.mp hf)) (.inl rfl) ?_)
  have hN := (N.push F emptyDict).push (F.push _) (instObj C hh.objs.size)
  rw [Heap.size_push] at hN
  exact h _ hh.objs.size _ ((F.push _).push _) hN (fun p hp => Heap.lt_size (N p hp).1) (fun p hp => by rcases List.mem_cons.mp hp with rfl | hp; exact Nat.lt_succ_self _; exact Nat.lt_succ_of_lt (Heap.lt_size (N p hp).1)) (fun b o _ e => Heap.get?_push_of_some _ (Heap.get?_push_of_some _ e)) (Heap.get?_none_of_le (Nat.le_succ _)) (Heap.get?_none_of_le (Nat.le_refl _))
theorem callC_cls {rest : List Value} {fI : Addr} (F : Fr h₀ L s.heap m) (X₀ : K.In h₀) (N : News h₀ L s.heap news) (hm : makesIn K C = true)
    (hi : findIn K (.ref C) "__init__" = some (some (.ref fI))) (hf : isFn K (.ref fI) = true)
    (h : ∀ x dx h', Fr h₀ L h' m → News h₀ L h' ((x, instObj C dx) :: (dx, emptyDict) :: news) → (∀ p ∈ news, p.1 < dx) → (∀ p ∈ (dx, emptyDict) :: news, p.1 < x) → Kept s.heap h' [] → s.heap.get? x = none → s.heap.get? dx = none →
      codeC (model prog w) (A.under (.builtin "type.__call__" ⟨.ref C :: rest, []⟩)) (.call (.ref fI) ⟨.ref x :: rest, []⟩) (InitBack x (back Q E)) { s with heap := h' }) :
    wpC (model prog w) A (call (.ref C) rest) Q E s := by
  have X := X₀.keeps F.keep
  obtain ⟨hh, g, d, t, os⟩ := s
  refine wpC_call (make_coreC (makes_of X hm) (looks_findIn X hi) (fun self => bind_fn X self (beq_iff_eq.mp hf)) rfl ?_)
  have hN := (N.push F emptyDict).push (F.push _) (instObj C hh.objs.size)
  rw [Heap.size_push] at hN
  exact h _ hh.objs.size _ ((F.push _).push _) hN (fun p hp => Heap.lt_size (N p hp).1) (fun p hp => by rcases List.mem_cons.mp hp with rfl | hp; exact Nat.lt_succ_self _; exact Nat.lt_succ_of_lt (Heap.lt_size (N p hp).1)) (fun b o _ e => Heap.get?_push_of_some _ (Heap.get?_push_of_some _ e)) (Heap.get?_none_of_le (Nat.le_succ _)) (Heap.get?_none_of_le (Nat.le_refl _))
end
end Mine
namespace Mine
section
variable {prog : Program} {w : World} {A : Around} {E : Value → Shared → Prop} {Q : Value → Shared → Prop} {s : Shared} {h₀ : Heap} {L : Addr} {m : Str → Option Value} {news : List (Addr × Obj)} {env : Env}
theorem newBa_N {o : Array UInt8} {h' : Heap} (F : Fr h₀ L s.heap m) (N : News h₀ L s.heap news) (k : NewBa s o h') : Fr h₀ L h' m ∧ News h₀ L h' ((s.heap.objs.size, ba o) :: news) := by
  obtain ⟨k1, k2, _⟩ := k
  obtain ⟨oL, a1, a2, hL, a3⟩ := F.ns
  refine ⟨⟨⟨oL, a1, a2, k1 _ _ hL, a3⟩, fun b o e => k1 b o (F.keep b o e), F.above⟩, fun p hp => ?_⟩
  rcases List.mem_cons.mp hp with rfl | hp
  · refine ⟨k2, Nat.ne_of_gt (Heap.lt_size hL), ?_⟩
    cases q : h₀.get? s.heap.objs.size with
    | none => rfl
    | some o' => exact absurd (Heap.lt_size (F.keep _ _ q)) (Nat.lt_irrefl _)
  · exact ⟨k1 _ _ (N p hp).1, (N p hp).2⟩
theorem ba0_N (hg : A.guards = some []) (F : Fr h₀ L s.heap m) (N : News h₀ L s.heap news)
    (k : ∀ x h', Fr h₀ L h' m → News h₀ L h' ((x, ba #[]) :: news) → (∀ p ∈ news, p.1 < x) → Q (.ref x) { s with heap := h' }) : wpC (model prog w) A (call (.type "bytearray") []) Q E s :=
  call_ba0 hg fun h' nb => let ⟨F', N'⟩ := newBa_N F N nb; k _ h' F' N' fun p hp => Heap.lt_size (N p hp).1
theorem ba1_N {o : Array UInt8} {t : Tok} (hg : A.guards = some []) (hz : o.size ≤ sizeLine) (F : Fr h₀ L s.heap m) (N : News h₀ L s.heap news)
    (k : ∀ x h', Fr h₀ L h' m → News h₀ L h' ((x, ba o) :: news) → (∀ p ∈ news, p.1 < x) → Q (.ref x) { s with heap := h' }) : wpC (model prog w) A (call (.type "bytearray") [.bytes o t]) Q E s :=
  call_ba1 hg hz fun h' nb => let ⟨F', N'⟩ := newBa_N F N nb; k _ h' F' N' fun p hp => Heap.lt_size (N p hp).1
theorem callWith_ba0 {pos : Pos} (h : wpC (model prog w) A (call (.type "bytearray") []) Q E s) : wpC (model prog w) A (callWith pos (.type "bytearray") [] (backTo pos (starEach [] env)) []) Q E s :=
  callWithC_type rfl (wpC.any (PySem.evalArgs_none ⟨rfl, h⟩))
theorem callWith_ba1 {pos : Pos} {e : Expr} (h : wpAny (model prog w) A (eval e env) (fun v s₁ => wpC (model prog w) A (call (.type "bytearray") [v]) Q E s₁) E s) (he : starEach [e] env = [(false, eval e env)] := by k_dflt exact rfl) :
    wpC (model prog w) A (callWith pos (.type "bytearray") [] (backTo pos (starEach [e] env)) []) Q E s := by
  rw [he]
  refine callWithC_type rfl (evalArgsC_plain (wpC.any (spliced_cons ?_)))
  show wpAny _ _ (eval e env) _ _ _
  exact wpAny_mono h (fun v s₁ h₁ => spliced_nil ⟨rfl, h₁⟩) fun _ _ x => x
end
end Mine
namespace Mine
section
variable {M : Model} {A : Around} {E : Value → Shared → Prop} {s : Shared} {env : Env} {K : Frag} {h₀ : Heap} {L : Addr} {m : Str → Option Value}
theorem cwK {f : Value} {pos : Pos} {first : List Value} {e : Expr} {rest : List Expr} {Q : Value → Shared → Prop} (_X : K.In h₀) (hk : keepIn K f = true)
    (h : wpC M A (spliced (backTo pos (starEach (e :: rest) env))) (fun vs s₁ => K.In s₁.heap ∧ wpC M A (call f (first ++ vs)) Q E s₁) E s)
    (he : starEach (e :: rest) env = (false, eval e env) :: starEach rest env := by k_dflt exact rfl) (hplain : (backTo pos (starEach rest env)).any (·.1) = false := by k_dflt exact rfl) :
    wpC M A (callWith pos f first (backTo pos (starEach (e :: rest) env)) []) Q E s := callWithC_K hk h he hplain
theorem cwK0 {f : Value} {pos : Pos} {first : List Value} {Q : Value → Shared → Prop} (F : Fr h₀ L s.heap m) (X : K.In h₀) (hk : keepIn K f = true)
    (h : wpC M A (call f (first ++ [])) Q E s) : wpC M A (callWith pos f first (backTo pos (starEach [] env)) []) Q E s := callWithC_K0 (X.keeps F.keep) hk h
end
end Mine
end
section
open PySem PySem.W PyProof.Rows PySem.Spec PySem.Calls
namespace Mine
section
variable {prog : Program} {w : World} {A : Around} {s : Shared} {h₀ : Heap} {L : Addr} {m₀ : Str → Option Value} {news₀ : List (Addr × Obj)} {env : Env} {target : Expr} {body : List Stmt} {l : Addr} {vs : List Value} {R : Result → Shared → Prop}
theorem it_next {h h' : Heap} {m : Str → Option Value} {n : List (Addr × Obj)} {it : Addr} {io : Obj} (F : Fr h₀ L h m) (N : News h₀ L h ((it, io) :: n)) (hne : ∀ q ∈ n, q.1 ≠ it) (k : ∀ x q, x ≠ it → h.get? x = some q → h'.get? x = some q) :
    Fr h₀ L h' m ∧ News h₀ L h' n := by
  have hit := N _ (.head _)
  exact ⟨fr_but F hit.2.1 hit.2.2 k, fun q hq => ⟨k _ _ (hne q hq) (N q (.tail _ hq)).1, (N q (.tail _ hq)).2⟩⟩
/-- what a turn leaves, a calm loop -/
def TurnC (s : Shared) (h₀ : Heap) (L : Addr) (it : Addr) (io : Obj) (J : (Str → Option Value) → List (Addr × Obj) → Prop) (R : Result → Shared → Prop) (f : Flow) (s₃ : Shared) : Prop := match f with
  | .next | .cont => ∃ m' n' h' tk', s₃ = { s with heap := h', toks := tk' } ∧ Fr h₀ L h' m' ∧ News h₀ L h' ((it, io) :: n') ∧ J m' n'
  | .brk => R (.ok .next) s₃
  | .ret v => R (.ok (.ret v)) s₃
theorem forC (J : Addr → Nat → (Str → Option Value) → List (Addr × Obj) → Prop) (hh : A.handled = none) (F : Fr h₀ L s.heap m₀) (N : News h₀ L s.heap news₀) (hls : s.heap.IsList l vs.toArray)
    (hl : ∀ it i m n h, J it i m n → Fr h₀ L h m → News h₀ L h n → h.IsList l vs.toArray) (hne : ∀ it i m n, J it i m n → ∀ q ∈ n, q.1 ≠ it)
    (hgo : ∀ (it : Addr) (i : Nat) (v : Value) (s : Shared) (Q : Unit → Shared → Prop), v ∈ vs → s.heap.IsListIter it l i → Q () s → wpAny (model prog w) A (letOwnedTupleGo target (.ref it) v) Q noE s)
    (h0 : ∀ it, (∀ q ∈ news₀, q.1 < it) → J it 0 m₀ news₀)
    (turn : ∀ it i v m₁ n₁ h tk io, (∀ q ∈ news₀, q.1 < it) → vs[i]? = some v → J it i m₁ n₁ → Fr h₀ L h m₁ → News h₀ L h ((it, io) :: n₁) →
      wpAny (model prog w) A (assign target env v) (fun _ s₂ => wpC (model prog w) A (execs body env) (TurnC s h₀ L it io (J it (i + 1)) R) noE s₂) noE { s with heap := h, toks := tk })
    (done : ∀ it m₁ n₁ h tk, (∀ q ∈ news₀, q.1 < it) → J it vs.length m₁ n₁ → Fr h₀ L h m₁ → News h₀ L h n₁ → R (.ok .next) { s with heap := h, toks := tk }) :
    wpAny (model prog w) A (pyIter (.ref l)) (fun it s₂ => codeC (model prog w) A (.forLoop target it body [] env) R s₂) noE s := by
  refine wpAny_pyIter_list hls ?_
  have hlt : ∀ q ∈ news₀, q.1 < s.heap.objs.size := fun q hq => Heap.lt_size (N q hq).1
  refine codeC_forLoop (fun n s' => ∃ i m₁ n₁ h tk io, n = vs.length - i ∧ i ≤ vs.length ∧ s' = { s with heap := h, toks := tk } ∧ Fr h₀ L h m₁ ∧ News h₀ L h ((s.heap.objs.size, io) :: n₁) ∧ h.IsListIter s.heap.objs.size l i ∧ J s.heap.objs.size i m₁ n₁)
    ?_ vs.length ⟨0, m₀, news₀, _, s.toks, _, rfl, Nat.zero_le _, rfl, F.push _, N.push F _, ⟨_, Heap.get?_push_size _ rfl, rfl, rfl⟩, h0 _ hlt⟩
  rintro n s' ⟨i, m₁, n₁, h, tk, io, rfl, hi, rfl, F₁, N₁, hit, hJ⟩
  have hl₁ : h.IsList l vs.toArray := hl _ _ _ _ _ hJ F₁ fun q hq => N₁ q (.tail _ hq)
  have hne₁ := hne _ _ _ _ hJ
  cases hx : vs[i]? with
  | none =>
    have hi' : i = vs.length := by have := List.getElem?_eq_none_iff.mp hx; omega
    refine wpAny_pyNext_list_end (s := { s with heap := h, toks := tk }) hh hit hl₁ (by simpa using hx) fun h' he => ?_
    obtain ⟨F₂, N₂⟩ := it_next F₁ N₁ hne₁ he
    exact done _ m₁ n₁ h' tk hlt (hi' ▸ hJ) F₂ N₂
  | some v =>
    have hi' : i < vs.length := by
      rcases Nat.lt_or_ge i vs.length with h | h
      · exact h
      · rw [List.getElem?_eq_none_iff.mpr h] at hx; cases hx
    refine wpAny_pyNext_list_item (s := { s with heap := h, toks := tk }) hit hl₁ (x := v) (by simpa using hx) fun h' hit' hs => ?_
    obtain ⟨F₂, N₂⟩ := it_next F₁ N₁ hne₁ hs.extBut
    obtain ⟨io', hio, hio2⟩ := id hit'
    have N₃ : News h₀ L h' ((s.heap.objs.size, io') :: n₁) := fun q hq => by
      rcases List.mem_cons.mp hq with rfl | hq
      · exact ⟨hio, (N₁ (s.heap.objs.size, io) (.head _)).2⟩
      · exact N₂ q hq
    refine hgo _ (i + 1) v _ _ (List.mem_of_getElem? hx) hit' ?_
    refine wpAny_mono (turn _ i v m₁ n₁ h' tk io' hlt hx hJ F₂ N₃) (fun _ s₂ h₂ => wpC_mono h₂ (fun f s₃ h₃ => ?_) fun _ _ x => x) fun _ _ x => x
    have next : (∃ m' n' h'' tk', s₃ = { s with heap := h'', toks := tk' } ∧ Fr h₀ L h'' m' ∧ News h₀ L h'' ((s.heap.objs.size, io') :: n') ∧ J s.heap.objs.size (i + 1) m' n') →
        ∃ m, m < vs.length - i ∧ ∃ i₁ m₁ n₁ h tk io, m = vs.length - i₁ ∧ i₁ ≤ vs.length ∧ s₃ = { s with heap := h, toks := tk } ∧ Fr h₀ L h m₁ ∧ News h₀ L h ((s.heap.objs.size, io) :: n₁) ∧ h.IsListIter s.heap.objs.size l i₁ ∧ J s.heap.objs.size i₁ m₁ n₁ := by
      rintro ⟨m', n', h'', tk', rfl, F', N', hJ'⟩
      exact ⟨vs.length - (i + 1), by omega, i + 1, m', n', h'', tk', io', rfl, hi', rfl, F', N', ⟨io', (N' _ (.head _)).1, hio2⟩, hJ'⟩
    cases f with
    | next => exact next h₃
    | cont => exact next h₃
    | brk => exact h₃
    | ret v => exact h₃
theorem forA (J : Addr → Nat → (Str → Option Value) → List (Addr × Obj) → Prop) {E : Value → Shared → Prop} (hh : A.handled = none) (F : Fr h₀ L s.heap m₀) (N : News h₀ L s.heap news₀) (hls : s.heap.IsList l vs.toArray)
    (hl : ∀ it i m n h, J it i m n → Fr h₀ L h m → News h₀ L h n → h.IsList l vs.toArray) (hne : ∀ it i m n, J it i m n → ∀ q ∈ n, q.1 ≠ it)
    (hgo : ∀ (it : Addr) (i : Nat) (v : Value) (s : Shared) (Q : Unit → Shared → Prop) (E : Value → Shared → Prop), v ∈ vs → s.heap.IsListIter it l i → Q () s → wpAny (model prog w) A (letOwnedTupleGo target (.ref it) v) Q E s)
    (h0 : ∀ it, (∀ q ∈ news₀, q.1 < it) → J it 0 m₀ news₀)
    (turn : ∀ it i v m₁ n₁ h tk io, (∀ q ∈ news₀, q.1 < it) → vs[i]? = some v → J it i m₁ n₁ → Fr h₀ L h m₁ → News h₀ L h ((it, io) :: n₁) →
      wpAny (model prog w) A (assign target env v) (fun _ s₂ => wpAny (model prog w) A (execs body env) (TurnC s h₀ L it io (J it (i + 1)) R) noE s₂) noE { s with heap := h, toks := tk })
    (done : ∀ it m₁ n₁ h tk, (∀ q ∈ news₀, q.1 < it) → J it vs.length m₁ n₁ → Fr h₀ L h m₁ → News h₀ L h n₁ → R (.ok .next) { s with heap := h, toks := tk }) :
    wpAny (model prog w) A (pyIter (.ref l)) (fun it s₂ => codeAny (model prog w) A (.forLoop target it body [] env) R s₂) E s := by
  refine wpAny_pyIter_list hls ?_
  have hlt : ∀ q ∈ news₀, q.1 < s.heap.objs.size := fun q hq => Heap.lt_size (N q hq).1
  refine codeAny_forLoop_any (fun n s' => ∃ i m₁ n₁ h tk io, n = vs.length - i ∧ i ≤ vs.length ∧ s' = { s with heap := h, toks := tk } ∧ Fr h₀ L h m₁ ∧ News h₀ L h ((s.heap.objs.size, io) :: n₁) ∧ h.IsListIter s.heap.objs.size l i ∧ J s.heap.objs.size i m₁ n₁)
    ?_ vs.length ⟨0, m₀, news₀, _, s.toks, _, rfl, Nat.zero_le _, rfl, F.push _, N.push F _, ⟨_, Heap.get?_push_size _ rfl, rfl, rfl⟩, h0 _ hlt⟩
  rintro n s' ⟨i, m₁, n₁, h, tk, io, rfl, hi, rfl, F₁, N₁, hit, hJ⟩
  have hl₁ : h.IsList l vs.toArray := hl _ _ _ _ _ hJ F₁ fun q hq => N₁ q (.tail _ hq)
  have hne₁ := hne _ _ _ _ hJ
  cases hx : vs[i]? with
  | none =>
    have hi' : i = vs.length := by have := List.getElem?_eq_none_iff.mp hx; omega
    refine wpAny_pyNext_list_end (s := { s with heap := h, toks := tk }) hh hit hl₁ (by simpa using hx) fun h' he => ?_
    obtain ⟨F₂, N₂⟩ := it_next F₁ N₁ hne₁ he
    exact wpAny_execs_nil (done _ m₁ n₁ h' tk hlt (hi' ▸ hJ) F₂ N₂)
  | some v =>
    have hi' : i < vs.length := by
      rcases Nat.lt_or_ge i vs.length with h | h
      · exact h
      · rw [List.getElem?_eq_none_iff.mpr h] at hx; cases hx
    refine wpAny_pyNext_list_item (s := { s with heap := h, toks := tk }) hit hl₁ (x := v) (by simpa using hx) fun h' hit' hs => ?_
    obtain ⟨F₂, N₂⟩ := it_next F₁ N₁ hne₁ hs.extBut
    obtain ⟨io', hio, hio2⟩ := id hit'
    have N₃ : News h₀ L h' ((s.heap.objs.size, io') :: n₁) := fun q hq => by
      rcases List.mem_cons.mp hq with rfl | hq
      · exact ⟨hio, (N₁ (s.heap.objs.size, io) (.head _)).2⟩
      · exact N₂ q hq
    refine hgo _ (i + 1) v _ _ _ (List.mem_of_getElem? hx) hit' ?_
    refine wpAny_mono (turn _ i v m₁ n₁ h' tk io' hlt hx hJ F₂ N₃) (fun _ s₂ h₂ => wpAny_mono h₂ (fun f s₃ h₃ => ?_) fun _ _ x => x.elim) fun _ _ x => x.elim
    have next : (∃ m' n' h'' tk', s₃ = { s with heap := h'', toks := tk' } ∧ Fr h₀ L h'' m' ∧ News h₀ L h'' ((s.heap.objs.size, io') :: n') ∧ J s.heap.objs.size (i + 1) m' n') →
        ∃ m, m < vs.length - i ∧ ∃ i₁ m₁ n₁ h tk io, m = vs.length - i₁ ∧ i₁ ≤ vs.length ∧ s₃ = { s with heap := h, toks := tk } ∧ Fr h₀ L h m₁ ∧ News h₀ L h ((s.heap.objs.size, io) :: n₁) ∧ h.IsListIter s.heap.objs.size l i₁ ∧ J s.heap.objs.size i₁ m₁ n₁ := by
      rintro ⟨m', n', h'', tk', rfl, F', N', hJ'⟩
      exact ⟨vs.length - (i + 1), by omega, i + 1, m', n', h'', tk', io', rfl, hi', rfl, F', N', ⟨io', (N' _ (.head _)).1, hio2⟩, hJ'⟩
    cases f with
    | next => exact next h₃
    | cont => exact next h₃
    | brk => exact h₃
    | ret v => exact h₃
end
end Mine
namespace Mine
theorem picked_to (b : Array UInt8) (n : Nat) : KBy.picked b none (some (n : Int)) = b.extract 0 n := by
  unfold KBy.picked
  rw [sliceBounds_plain]
  have e2 : ((some (n : Int)).elim b.size (clipAt b.size) : Nat) = min n b.size := by
    show clipAt b.size (n : Int) = _
    rw [clipAt_nat]
  rw [e2]
  show PySem.Builtin.Bytes.sliced b ((0 : Nat) : Int) _ 1 = _
  unfold PySem.Builtin.Bytes.sliced
  rw [sliceRange_one, pick_run]
  apply Array.ext'
  simp only [List.drop_zero, Nat.sub_zero, Array.toList_extract, List.extract_eq_take_drop]
  rcases Nat.le_total n b.size with h | h
  · rw [Nat.min_eq_left h]
  · rw [Nat.min_eq_right h, List.take_of_length_le (by simp), List.take_of_length_le (by simpa using h)]
theorem picked_le (b : Array UInt8) (lo hi : Option Int) : (KBy.picked b lo hi).size ≤ b.size := KBc.size_picked_le b lo hi
end Mine
namespace Mine
section
variable {prog : Program} {w : World} {A : Around} {E : Value → Shared → Prop} {s : Shared} {value slice : PySem.Expr} {b : Array UInt8} {t ti : Tok} {h₀ : Heap} {L : Addr} {m : PySem.Str → Option Value} {news : List (Addr × Obj)} {Q : Value → Shared → Prop} {i : Int}
theorem slice_to (hF : Fr h₀ L s.heap m) (hN : News h₀ L s.heap news) (hz : b.size ≤ 16777216) (h0 : 0 ≤ i)
    (h : ∀ h' t' k, Fr h₀ L h' m → News h₀ L h' news → (b.extract 0 i.toNat).size ≤ b.size → Q (.bytes (b.extract 0 i.toNat) t') { s with heap := h', toks := k })
    (hs : subscripted slice false (.bytes b t) (.ref s.heap.objs.size) = operate [.ref s.heap.objs.size, .bytes b t] (getItem (.bytes b t) (.ref s.heap.objs.size)) := by with_unfolding_all rfl)
    (ht : ∀ r, letTemporaryGo value (.bytes b t) r = pure () := by intro _; with_unfolding_all rfl) :
    wpAny (model prog w) A (subscriptTail value slice (.bytes b t) (.ref s.heap.objs.size)) Q E { s with heap := s.heap.push { cls := .type "slice", data := .fields #[.none, .int i ti, .none] } } := by
  refine KBc.slice_K hF hN rfl .none (.int i ti) (by rw [KBw.ints_length]; exact hz) (fun h' t' k F' N' _ => ?_) hs ht
  have e : KBy.picked b none (some i) = b.extract 0 i.toNat := by rw [← picked_to, Int.toNat_of_nonneg h0]
  have hl := picked_le b none (some i)
  rw [e] at hl ⊢
  exact h h' t' k F' N' hl
end
end Mine
end
section
open PySem PySem.W PyProof.Rows PyProof.V PySem.Spec PySem.Calls
namespace Mine
section
variable {prog : Program} {w : World} {A : Around} {E : Value → Shared → Prop} {Q : Value → Shared → Prop} {s : Shared} {h₀ : Heap} {L d : Addr} {m : Str → Option Value} {news : List (Addr × Obj)} {o : Obj} {name : Str} {v : Value}
theorem sorted_one (hh : A.handled = none) (F : Fr h₀ L s.heap m) (N : News h₀ L s.heap news) (hm : (d, o) ∈ news) (hd : o.IsDictOf (PySem.strKind prog w) [(name, v)]) (lo : (d == sysModules) = false)
    (h : ∀ (B : Addr) h' tk t, Fr h₀ L h' m → News h₀ L h' ((B, listOf #[.str name t] 0) :: news) → (∀ q ∈ news, q.1 < B) →
      wpAny (model prog w) A.in1 (call (.builtin "list.sort") [.ref B]) (fun _ s' => Q (.ref B) s') E { s with heap := h', toks := tk }) :
    wpAny (model prog w) A (call (.builtin "sorted") [.ref d]) Q E s := by
  obtain ⟨ep, hat⟩ := (kda_dict N hm hd).dictAt
  refine kdu_sorted (kdl_dict (knd := PySem.strKind prog w) (kvs := [(name, v)]) (ep := ep) lo) hh F N hat (kdl_size (by show (1 : Nat) ≤ 16777216; omega)) fun B h' tk vs F' N' l1 hl hv => ?_
  match vs, hl with
  | [x], _ =>
    obtain ⟨k, y, hk, hx⟩ := hv 0 x rfl
    have hx' := kdl_flat_str hx
    obtain ⟨rfl, rfl⟩ : name = k ∧ v = y := by
      have := Option.some.inj hk
      exact ⟨congrArg Prod.fst this, congrArg Prod.snd this⟩
    obtain ⟨t, rfl⟩ := Flat.str_inv hx'
    exact h B h' tk t F' N' l1
end
end Mine
namespace Mine
section
variable {prog : Program} {w : World} {A : Around} {E : Value → Shared → Prop} {s : Shared} {h₀ : Heap} {L : Addr} {m : Str → Option Value} {news : List (Addr × Obj)}
theorem list_sort_one {a : Addr} {x : Value} {n : Nat} {P : PySem.Fin → Shared → Prop} (ho : s.heap.get? a = some (seqObj "list" [x].toArray n))
    (h : P (.done (.ret .none)) { s with heap := sortedHeap s.heap a [x] #[x] }) : wpAny (model prog w) A (Builtin.«list.sort» ⟨[.ref a], []⟩) P E s := by
  rw [list_sort_plain]
  have ha : a < s.heap.objs.size := Heap.lt_size ho
  refine wpAny_bind (listItems_at ho rfl ?_)
  refine wpAny_bind (listUpdate_at ho rfl ?_)
  obtain ⟨e1, ho1⟩ : ∃ e1, (s.heap.update a (Obj.mapSeq fun _ => #[])).get? a = some (seqObj "list" #[] e1) := ⟨_, get?_update_seq ho (fun _ => #[])⟩
  refine wpAny_bind (seqEpoch_at ho1 rfl ?_)
  refine wpAny_bind (wpAny_newTuple ?_)
  refine wpAny_bind (wpAny_newList ?_)
  refine wpAny_holding ?_
  have ho6 : (((s.heap.update a (Obj.mapSeq fun _ => #[])).push (seqObj "tuple" [x].toArray 0)).push (seqObj "list" #[] 0)).get? a = some (seqObj "list" #[] e1) := by
    rw [Heap.get?_push_ne _ _ _ (by rw [size_push', Heap.size_update]; exact Nat.ne_of_lt (Nat.lt_succ_of_lt ha)), Heap.get?_push_ne _ _ _ (by rw [Heap.size_update]; exact Nat.ne_of_lt ha)]
    exact ho1
  show wpAny (model prog w) A _ P E { s with heap := ((s.heap.update a (Obj.mapSeq fun _ => #[])).push (seqObj "tuple" [x].toArray 0)).push (seqObj "list" #[] 0) }
  dsimp only
  have h2 : [x].toArray.size < 2 := by show 1 < 2; omega
  have he : Array.map (fun z => z.2) (arrOf (SortSt.mk' general' (#[x].zip #[x]) #[] 7 none)) = #[x] := by first | rfl | (with_unfolding_all rfl)
  rw [if_pos h2, if_pos h2]
  refine wpAny_bind (wpAny_pure ?_)
  rw [StateT.run_pure]
  refine wpAny_bind (wpAny_pure ?_)
  dsimp only
  refine wpAny_bind (seqEpoch_at ho6 rfl ?_)
  refine wpAny_bind (listUpdate_at ho6 rfl ?_ (hsz2 := by rw [sizeLine_eq]; refine Nat.le_trans (Nat.le_of_eq (congrArg Array.size he)) ?_; show 1 ≤ _; omega))
  simp only [bne_self_eq_false, Bool.false_eq_true, if_false]
  refine wpAny_pure ?_
  rw [he]
  exact h
end
end Mine
namespace Mine
section
variable {prog : Program} {w : World} {A : Around} {E : Value → Shared → Prop} {s : Shared} {h₀ : Heap} {L D : Addr} {m : Str → Option Value} {news : List (Addr × Obj)} {g : Obj → List (Addr × Obj)} {x : Value} {n : Nat} {Q : Value → Shared → Prop}
theorem sort_one (F : Fr h₀ L s.heap m) (N : News h₀ L s.heap news) (U : UpdF D (listOf #[x] n) news g) (h : ∀ h' k, Fr h₀ L h' m → News h₀ L h' (g (listOf #[x] k)) → Q .none { s with heap := h' }) :
    wpAny (model prog w) A (call (.builtin "list.sort") [.ref D]) Q E s := by
  have ho : s.heap.get? D = some (seqObj "list" [x].toArray n) := N.get (UpdF.mem U)
  have ha : D < s.heap.objs.size := Heap.lt_size ho
  refine wpAny_call_entry PyProof.Rows.slot_list_sort ⟨_, ho, rfl⟩ PyProof.Rows.entry_list_sort (list_sort_one (n := n) ho ⟨.none, rfl, ?_⟩) (PyProof.Rows.args_list_sort _)
  obtain ⟨e1, ho1⟩ : ∃ e1, (s.heap.update D (Obj.mapSeq fun _ => #[])).get? D = some (seqObj "list" #[] e1) := ⟨_, get?_update_seq ho (fun _ => #[])⟩
  have ho6 : (((s.heap.update D (Obj.mapSeq fun _ => #[])).push (seqObj "tuple" [x].toArray 0)).push (seqObj "list" #[] 0)).get? D = some (seqObj "list" #[] e1) := by
    rw [Heap.get?_push_ne _ _ _ (by rw [size_push', Heap.size_update]; exact Nat.ne_of_lt (Nat.lt_succ_of_lt ha)), Heap.get?_push_ne _ _ _ (by rw [Heap.size_update]; exact Nat.ne_of_lt ha)]
    exact ho1
  obtain ⟨e2, ho7⟩ : ∃ e2, (sortedHeap s.heap D [x] #[x]).get? D = some (seqObj "list" #[x] e2) := ⟨_, get?_update_seq ho6 (fun _ => #[x])⟩
  have keep : ∀ b q, b ≠ D → s.heap.get? b = some q → (sortedHeap s.heap D [x] #[x]).get? b = some q := fun b q hb e => by
    unfold sortedHeap
    rw [Heap.get?_update_ne _ _ _ _ hb]
    exact Heap.get?_push_of_some _ (Heap.get?_push_of_some _ ((Heap.get?_update_ne _ _ _ _ hb).trans e))
  obtain ⟨F', N'⟩ := upd1 F N U keep ho7
  exact h _ _ F' N'
end
end Mine
namespace Mine
section
variable {prog : Program} {w : World} {A : Around} {s : Shared} {h₀ : Heap} {L : Addr} {m₀ : Str → Option Value} {news₀ : List (Addr × Obj)} {env : Env} {target : Expr} {body : List Stmt} {l : Addr} {x : Value} {R : Result → Shared → Prop}
/-- a loop over one item -/
theorem forC1 (P : Addr → (Str → Option Value) → List (Addr × Obj) → Prop) (hh : A.handled = none) (F : Fr h₀ L s.heap m₀) (N : News h₀ L s.heap news₀) (hls : ∃ k, (l, listOf #[x] k) ∈ news₀)
    (hl : ∀ it m n, P it m n → ∃ k, (l, listOf #[x] k) ∈ n) (hne : ∀ it m n, P it m n → ∀ q ∈ n, q.1 ≠ it)
    (hgo : ∀ (it : Addr) (i : Nat) (v : Value) (s : Shared) (Q : Unit → Shared → Prop), v ∈ [x] → s.heap.IsListIter it l i → Q () s → wpAny (model prog w) A (letOwnedTupleGo target (.ref it) v) Q noE s)
    (turn : ∀ it h tk io, (∀ q ∈ news₀, q.1 < it) → Fr h₀ L h m₀ → News h₀ L h ((it, io) :: news₀) →
      wpAny (model prog w) A (assign target env x) (fun _ s₂ => wpC (model prog w) A (execs body env) (TurnC s h₀ L it io (P it) R) noE s₂) noE { s with heap := h, toks := tk })
    (done : ∀ it m₁ n₁ h tk, (∀ q ∈ news₀, q.1 < it) → P it m₁ n₁ → Fr h₀ L h m₁ → News h₀ L h n₁ → R (.ok .next) { s with heap := h, toks := tk }) :
    wpAny (model prog w) A (pyIter (.ref l)) (fun it s₂ => codeC (model prog w) A (.forLoop target it body [] env) R s₂) noE s := by
  have isl : ∀ {m n h}, Fr h₀ L h m → News h₀ L h n → (∃ k, (l, listOf #[x] k) ∈ n) → h.IsList l [x].toArray := fun _ Nn ⟨k, hk⟩ => ⟨_, (Nn _ hk).1, rfl, _, rfl⟩
  refine forC (vs := [x]) (fun it i m n => (i = 0 ∧ m = m₀ ∧ n = news₀ ∧ ∀ q ∈ n, q.1 < it) ∨ (i = 1 ∧ P it m n)) hh F N (isl F N hls) ?_ ?_ hgo ?_ ?_ ?_
  · rintro it i m n h (⟨_, rfl, rfl, _⟩ | ⟨_, hP⟩) F' N'
    · exact isl F' N' hls
    · exact isl F' N' (hl _ _ _ hP)
  · rintro it i m n (⟨_, _, _, hlt⟩ | ⟨_, hP⟩) q hq
    · exact Nat.ne_of_lt (hlt q hq)
    · exact hne _ _ _ hP q hq
  · exact fun it hit => .inl ⟨rfl, rfl, rfl, hit⟩
  · rintro it i v m₁ n₁ h tk io hit hv hJ Fh Nh
    match i, hv with
    | 0, hv =>
      obtain rfl : x = v := Option.some.inj hv
      rcases hJ with ⟨_, rfl, rfl, _⟩ | ⟨e, _⟩
      · refine wpAny_mono (turn it h tk io hit Fh Nh) (fun _ s₂ h₂ => wpC_mono h₂ (fun f s₃ h₃ => ?_) fun _ _ x => x) fun _ _ x => x
        cases f with
        | next => obtain ⟨a, b, c, d, e, f, g, p⟩ := h₃; exact ⟨a, b, c, d, e, f, g, .inr ⟨rfl, p⟩⟩
        | cont => obtain ⟨a, b, c, d, e, f, g, p⟩ := h₃; exact ⟨a, b, c, d, e, f, g, .inr ⟨rfl, p⟩⟩
        | brk => exact h₃
        | ret v => exact h₃
      · cases e
  · rintro it m₁ n₁ h tk hit (⟨e, _⟩ | ⟨_, hP⟩) Fh Nh
    · cases e
    · exact done it m₁ n₁ h tk hit hP Fh Nh
end
end Mine
end
section
open PySem PySem.W PyProof.Rows PySem.Spec PySem.Calls
namespace Mine
theorem calm_caller : Calm ⟨.builtin "claim.caller" {}, none, none, [], none⟩ := ⟨by decide +kernel, fun x hx => nomatch hx⟩
/-- the claim's caller, over calm stacks -/
theorem calls_calm {c : ClaimW} {tree : List Value → Sem Fin} {w : World} {s : Shared} {free : Addr → Prop} {gens : Prop} {kept : Heap → Prop} (hz : s.asleep) (hgens : s.gens = #[])
    (hspec : ∀ args, c.pre args = true → WData.layableAll args = true → ∀ ord : List DictEntry → List DictEntry, (∀ l, (ord l).Perm l) →
      ∃ vs s₁, layAllW c.records (classAt s.heap) w.params ord args s = some (vs, s₁) ∧
        wpC (model c.prog w) callerA (tree vs) (fun fin s' => ∃ f, fin = .done f ∧ ((c.Ends s args vs s₁ (.ok f) s' ∧ s'.os = s.os ∧ kept s'.heap) ∧ leftWithCleanup s'.gens = false))
          (fun e s' => (c.Ends s args vs s₁ (.error e) s' ∧ s'.os = s.os ∧ kept s'.heap) ∧ leftWithCleanup s'.gens = false) s₁) :
    c.CallFrom (fun vs => ⟨tree vs, .builtin "claim.caller" {}, default, []⟩) w free gens kept s := by
  intro args hpre hlay ord hord
  obtain ⟨vs, s₁, hlaid, hcode⟩ := hspec args hpre hlay ord hord
  obtain ⟨l1, _, _, l4⟩ := layAllW_rest _ _ _ hlaid
  have hwp : Sem.wp (model c.prog w) ⟨.builtin "claim.caller" {}, none, none, [], none⟩ (tree vs)
      (Sem.finPost (model c.prog w) ⟨.builtin "claim.caller" {}, none, none, [], none⟩ (fun r s' => (c.Ends s args vs s₁ r s' ∧ s'.os = s.os ∧ kept s'.heap) ∧ leftWithCleanup s'.gens = false))
      (fun e _ s' => (c.Ends s args vs s₁ (.error e) s' ∧ s'.os = s.os ∧ kept s'.heap) ∧ leftWithCleanup s'.gens = false) default s₁ :=
    Sem.wp_mono _ _ _ (fun fin p' s' h' => by obtain ⟨f, rfl, hf⟩ := h'; exact hf) (fun _ _ _ h' => h') default s₁ (hcode _ default caller_in calm_caller)
  obtain ⟨n, r, a, b, hs, hn, hfo, hE, hos, hk⟩ := wp_halts_full (M := model c.prog w) (R := fun r s' => c.Ends s args vs s₁ r s' ∧ s'.os = s.os ∧ kept s'.heap) (Shared.asleep_of_life l4 hz) hwp
  obtain ⟨eh, _, _, eo, _⟩ := Shared.forget_eq hfo
  have hE := hE.congr eh
  have hk : kept b.heap := by rw [eh]; exact hk
  have hl : b.heap.life = s.heap.life := (runN_life _ _ _ hn).trans l4
  refine ⟨vs, s₁, hlaid, n, _, b, hs, ?_, fun _ i x hx => ?_, hk, by rw [hl], Shared.rest_eq (eo.trans hos)⟩
  · rcases hE with ⟨v, rfl, x1, x2, x3, x4, x5⟩ | ⟨e, ob, cls, rfl, x1, x2, x3, x4, x5⟩
    · exact .inl ⟨v, rfl, x1, x2, x3, fun b o y _ => x4 b o y, x5⟩
    · exact .inr ⟨e, ob, cls, rfl, x1, x2, x3, x4, fun b o y _ => x5 b o y⟩
  · rw [hgens] at hx; simp at hx
/-- a walk of the law's call, over calm stacks -/
abbrev WalkC (q : Program) (loose : List Str) (XP : (Str → Option Value) → Heap → Prop) (YP : World → Heap → Prop) (r : RowW) (d : DefRec) (kwd : List (Str × Expr)) : Prop :=
  ∀ (w : World) (s₀ s₁ : Shared) (mg mb : Str → Option Value), Ground q loose r.records XP w s₀ mg mb s₁.heap → YP w s₁.heap → ∀ (a : Addr) (o : Obj) (pm cd doc dV kV : Value), s₁.heap.get? a = some o →
    o.data = .func { docDef d.name d.params d.body d.scope pm cd doc with defaults := dV, kwdefaults := kV } → s₁.heap.CodeRec cd d.name → Dflts mg s₁.heap d.params kwd dV kV → mg d.name = some (.ref a) → s₁.gens = #[] →
    ∀ (args : List WData) (vals : List Value) (as : List Addr), r.claim.pre args = true → WData.layableAll args = true → ReadsAllW r.records (classAt s₀.heap) s₁.heap vals args as → WellAll w.params s₁.heap vals args → (∀ a ∈ as, (a == sysModules) = false) →
      wpC (model r.prog w) callerA (PySem.call (.ref a) vals) (fun v s' => GoodWG r.claim (classAt s₀.heap) (ExcName.means s₀.heap) args s₁ (.ok (.ret v)) s')
        (fun e s' => GoodWG r.claim (classAt s₀.heap) (ExcName.means s₀.heap) args s₁ (.error e) s') s₁
theorem holds_calm {r : OpenRow} {q : Program} {loose : List Str} {lv : List (Str × WData)} (H : Hook) {d : DefRec} {kwd : List (Str × Expr)} {N : Nat}
    (left : LeftO r.prog q loose (fun s => xlAt q lv s && recOk r.toRowW.records s) H.obs H.val N)
    (hdef : defOf q r.name = some (d, kwd)) (hp : r.prog.theDef r.name = some (d.params, d.body, d.scope)) (hk : kwWritten? d.params.kwonlyargs d.params.kw_defaults = some kwd) (hwr : (!r.writes || r.records.isEmpty) = true)
    (k1 : r.wellSaid = true) (ok : (chainsOk q && opensWell r.prog && (frees r.toRowW && r.within.isEmpty)) = true) (hb : r.prog.bare) (hw : r.toRowW.promised)
    (call : WalkC q loose (XL q lv) H.says r.toRowW d kwd) : r.Holds := by
  obtain ⟨ok, k5⟩ := Bool.and_eq_true_iff.mp ok
  obtain ⟨hch, o1⟩ := Bool.and_eq_true_iff.mp ok
  obtain ⟨k5, k6⟩ := Bool.and_eq_true_iff.mp k5
  obtain ⟨hsame, hu, ha, hap, hm⟩ := frees_parts k5
  have B := fun w => left.behind (XP := fun mg h => XL q lv mg h ∧ RecFacts r.toRowW.records h) (fun s hs => ⟨xl_of s (Bool.and_eq_true_iff.mp hs).1, recFacts_of (Bool.and_eq_true_iff.mp hs).2⟩) hch w
  refine ⟨k1, hw, ⟨hb, o1, by show r.toRowW.makers.map _ = []; rw [hm]; rfl⟩, hw.witness, fun w => ⟨(B w).1, fun s' hs' => ?_⟩⟩
  obtain ⟨s₀, hf, hg0, s, hT, hz, hgens, hg, ⟨g1, g2, g3, g4, g5, g6, ⟨gx, RF⟩, g7, g8, g9, g10, g11⟩, y⟩ := (B w).2 s' hs'
  have G0 : Ground q loose [] (XL q lv) w s (s.heap.nsMap mainGlobals) (s.heap.nsMap builtinsNs) s.heap := ⟨g1, g2, g3, g4, g5, g6, gx, g7, g8, g9, g10, g11⟩
  have G := RF.ground G0
  have hgens : s.gens = #[] := Array.eq_empty_of_size_eq_zero (beq_iff_eq.mp hgens)
  refine ⟨s₀, hf, hg0, s, hT, fun n hn => ?_, RF.1, RF.2.1, ?_⟩
  · obtain rfl : n = r.name := by split at hn <;> simp_all
    exact pinned_of_view hg G0 hdef hp hk
  · refine calls_calm (c := r.toRowW.claim) hz hgens fun args hpre hlay ord hord => ?_
    obtain ⟨⟨vs, s₁⟩, hlaid⟩ := Option.isSome_iff_exists.mp (layAllW_isSome (P := w.params) (ord := ord) G.has args r.toRowW.args s (pre_splitW hpre).1)
    have keeps := layAllW_keeps _ _ _ hlaid
    have hal := layAllW_rest _ _ _ hlaid
    obtain ⟨as, hrd, hin, hold⟩ := reads_layAllW hord _ _ _ hlaid hlay s₁.heap (fun _ _ e => e)
    have L : Laid r.toRowW.records w s s₁ args vs as := ⟨⟨ord, hord, hlaid⟩, hrd, hin, hold, keeps, hal.1.trans hgens, hal.2.2.1⟩
    have G₁ := G.keeps XL.keeps keeps
    obtain ⟨a, o, pm, cd, doc, dV, kV, h1, h2, h3, h4, h5⟩ := G₁.fn hdef
    have hi := ident_freeW hu ha hap
    have hwi : r.toRowW.claim.within = [] := List.isEmpty_iff.mp k6
    have hc := call w s s₁ _ _ G₁ (H.keeps _ _ _ (H.of w s y) keeps) a o pm cd doc dV kV h2 h3 h4 h5 (defOf_name hdef ▸ h1) L.gens args vs as hpre hlay L.reads L.well (L.low G.low)
    refine ⟨vs, s₁, hlaid, wpC_bindA (wpAny_nsGet G₁.T.g ?_)⟩
    rw [h1]
    exact wpC_bind (wpC_mono hc (fun v s' g => wpC_pure ⟨_, rfl, have z := g.laid (c := r.toRowW.claim) hsame hwi hi L; ⟨⟨z.1, z.2.1, fun q => ⟨namesKept_of hT hg _ keeps g.2.1.old, noTable hwr q⟩⟩, leftWithCleanup_false_of_bare z.2.2⟩⟩) fun e s' g => have z := g.laid (c := r.toRowW.claim) hsame hwi hi L; ⟨⟨z.1, z.2.1, fun q => ⟨namesKept_of hT hg _ keeps g.2.1.old, noTable hwr q⟩⟩, leftWithCleanup_false_of_bare z.2.2⟩)
end Mine
end
section
open PySem PySem.W PyProof.Rows PySem.Spec PySem.Calls
namespace Mine
section
variable {M : Model} {A : Around} {E : Value → Shared → Prop} {s : Shared} {env : Env}
theorem wpC_Compare1 {l op r pos} {Q : Value → Shared → Prop}
    (h : wpC M A (eval l env) (fun a s₁ => wpC M A (eval r env) (fun b s₂ => wpAny M A (compareOp op a b) Q E s₂) E s₁) E s)
    (hm : behindInMarks op r = false := by with_unfolding_all rfl) : wpC M A (eval (.Compare l [op] [r] pos) env) Q E s := by
  rw [eval_Compare1, markedBehindIn_of_false hm]
  exact wpC_bind (wpC_mono h (fun a s₁ h₁ => wpC_bind (wpC_holding (wpC_mono h₁ (fun b s₂ h₂ => wpC_bindA (wpAny_standAt (wpC_operate (wpC.any h₂)))) fun _ _ x => x))) fun _ _ x => x)
theorem wpC_isTrue_Compare1 {l op r pos whole} {Q : Bool → Shared → Prop}
    (h : wpC M A (eval l env) (fun a s₁ => wpC M A (eval r env) (fun b s₂ => wpAny M A (compareOp op a b) (fun c s₃ => wpAny M A (truthy c) Q E s₃) E s₂) E s₁) E s)
    (hm : behindInMarks op r = false := by with_unfolding_all rfl) : wpC M A (isTrue (.Compare l [op] [r] pos) env whole) Q E s := by
  rw [isTrue_Compare1, markedBehindIn_of_false hm]
  exact wpC_bind (wpC_mono h (fun a s₁ h₁ => wpC_bind (wpC_holding (wpC_mono h₁ (fun b s₂ h₂ => wpC_bindA (wpAny_standAt (wpC_bind (wpC_operate (wpC.any (wpAny_mono h₂ (fun c s₃ h₃ => wpC_holding (wpC.any h₃)) fun _ _ x => x)))))) fun _ _ x => x))) fun _ _ x => x)
theorem wpC_isTrue_or {x rest pos whole} {Q : Bool → Shared → Prop}
    (h : wpC M A (isTrue x env (eval x env)) (fun c s' => if c then Q true s' else wpC M A (isTrue (.BoolOp .Or rest pos) env whole) Q E s') E s) :
    wpC M A (isTrue (.BoolOp .Or (x :: rest) pos) env whole) Q E s := by
  show wpC M A (do
    match BoolOp.Or, ← isTrue x env (eval x env) with
    | .And, false => pure false
    | .Or, true => pure true
    | _, _ => allTrue .Or rest env) Q E s
  refine wpC_bind (wpC_mono h (fun c s' h' => ?_) fun _ _ x => x)
  cases c with
  | false => exact h'
  | true => exact wpC_pure h'
theorem wpC_isTrue_or_nil {pos whole} {Q : Bool → Shared → Prop} (h : Q false s) : wpC M A (isTrue (.BoolOp .Or [] pos) env whole) Q E s := wpC_pure (a := false) h
theorem wpC_isTrue_not {x pos whole} {Q : Bool → Shared → Prop} (h : wpC M A (isTrue x env (eval x env)) (fun c s' => Q (!c) s') E s) :
    wpC M A (isTrue (.UnaryOp .Not x pos) env whole) Q E s := by
  show wpC M A (do return !(← isTrue x env (eval x env))) Q E s
  exact wpC_bind (wpC_mono h (fun c s' h' => wpC_pure h') fun _ _ x => x)
theorem wpC_isTrue_plain {e : Expr} {whole : Sem Value} {Q : Bool → Shared → Prop} (h : wpC M A whole (fun v s₁ => wpAny M A (truthy v) Q E s₁) E s)
    (he : isTrue e env whole = (do let v ← whole; standAt e.pos; holding [v] (truthy v)) := by k_dflt exact rfl) : wpC M A (isTrue e env whole) Q E s := by
  rw [he]
  exact wpC_bind (wpC_mono h (fun v s₁ h₁ => wpC_bindA (wpAny_standAt (wpC_holding (wpC.any h₁)))) fun _ _ x => x)
theorem wpC_Tuple {elts : List Expr} {k : Nat} {pos : Pos} {Q : Value → Shared → Prop}
    (h : wpC M A (spliced (backTo pos (starEach elts env))) (fun vs s₁ => wpAny M A (newTuple vs) Q E s₁) E s) : wpC M A (eval (.Tuple elts k pos) env) Q E s := by
  show wpC M A (do standAt pos; newTuple (← spliced (backTo pos (starEach elts env)))) Q E s
  exact wpC_bindA (wpAny_standAt (wpC_bind (wpC_mono h (fun vs s₁ h₁ => wpC.any h₁) fun _ _ x => x)))
theorem wpC_AssignSwapped {elts k tpos value pos} {names : List Str} {Q : Flow → Shared → Prop}
    (h : wpC M A (eval value env) (fun v s₁ => wpAny M A (unpackItems v names.length none) (fun items s₂ =>
      wpAny M A (assignInOrder (names.reverse.map fun n => bindName env n) items.reverse) (fun _ => Q .next) E s₂) E s₁) E s)
    (hs : swapsWithSole [.Tuple elts k tpos] value pos.line env = pure false := by k_dflt exact rfl)
    (hw : swappedStores [.Tuple elts k tpos] value env = pure (some names) := by k_dflt exact rfl) :
    wpC M A (exec (.Assign [.Tuple elts k tpos] value pos) env) Q E s := by
  rw [exec_Assign_arm]
  refine wpC_bindA (wpAny_standAt ?_)
  rw [hs]
  refine wpC_bindA (wpAny_pure ?_)
  rw [if_neg (by decide)]
  refine wpC_bind (wpC_mono h (fun v s₁ h₁ => wpC.any ?_) fun _ _ x => x)
  rw [hw]
  refine wpAny_bind (wpAny_pure ?_)
  show wpAny M A (do rule "assign.swapped-stores"; let items ← unpackItems v names.length none; assignInOrder (names.reverse.map fun n => bindName env n) items.reverse; pure .next) Q E s₁
  exact wpAny_bind (wpAny_rule (wpAny_bind (wpAny_mono h₁ (fun items s₂ h₂ => wpAny_bind (wpAny_mono h₂ (fun _ _ x => wpAny_pure x) fun _ _ x => x)) fun _ _ x => x)))
end
end Mine
end
section
open PySem PySem.W PyProof.Rows PySem.Spec PySem.Calls
namespace Mine
section
variable {prog : Program} {w : World} {s : Shared} {p : Program} {loose : List Str} {mean : ExcName → Option Value} {mg mb : Str → Option Value}
  {R : Result → Shared → Prop} {o : Obj} {name qual : Str} {params : Arguments} {body : List Stmt} {scope : Scope} {dV kV doc pm cdv ct : Value} {an : Option Addr} {f : Addr} {args : Args} {binds : List (Str × Value)}
/-- the claim's own call: a def with cells, from the claim's caller -/
theorem code_top (ho : s.heap.get? f = some o) (hd : o.data = .func (fnOf name qual params body scope dV kV doc pm an cdv ct)) (hcd : s.heap.CodeRec cdv qual) (T : Top p loose mean mg mb s.heap)
    (hbind : BindsTo s (fnOf name qual params body scope dV kV doc pm an cdv ct) args binds) (hkind : (binds.all fun y => scope.names.lookup y.1 == some .local || scope.names.lookup y.1 == some .cell) = true)
    (hnd : ((cellsFrom 0 scope.names []).map (·.1)).Nodup)
    (h : ∀ L' h₁ tk cells, Fr s.heap L' h₁ (bindL (envOfC qual scope L' f cdv).kindOf binds fun _ => none) → News s.heap L' h₁ cells →
      CellsAre (bindC (envOfC qual scope L' f cdv).kindOf binds fun _ => none) (cellsFrom (L' + 1) scope.names []) cells → Below callerA s.heap [] s.heap →
      wpC (model prog w) (callerA.deeper (envOfC qual scope L' f cdv)) (execs body (envOfC qual scope L' f cdv))
        (fun fl s' => R (.ok (.ret (match fl with | .ret v => v | _ => .none))) s') noE
        { s with heap := h₁, toks := tk })
    (hco : scope.isCoroutine = false) (hgen : scope.isGenerator = false) (hk : scope.kind = .function) : codeC (model prog w) callerA (.call (.ref f) args) R s := by
  refine codeC_call_function (fd := fnOf name qual params body scope dV kV doc pm an cdv ct) (by decide) ho hd hco hgen rfl hcd (hbind _ _ _ _ ?_)
  refine wpAny_newFunctionEnv_cells hk (kindsX hkind _) fun env' he s' x => ?_
  subst he
  refine ⟨T.nolimit.keeps x.toInCall.keep, codeC_func ?_⟩
  obtain ⟨h₁, tk, rfl, _⟩ := x.done
  obtain ⟨cells, NC, Y⟩ := Cl.news (h₀ := s.heap) (Nat.le_refl _) fun n c hm => ⟨x.cell n c (lookup_of_mem_nodup (cellsFrom_names scope.names 0 (s.heap.objs.size + 1) [] [] rfl ▸ hnd) hm), x.above n c hm⟩
  exact h s.heap.objs.size h₁ tk cells ⟨x.toInCall.ns, x.toInCall.keep, Nat.le_refl _⟩ NC Y (below_caller _)
end
end Mine
end
section
open PySem PySem.W PyProof.Rows PySem.Spec PySem.Calls
namespace Mine
abbrev pwE : Program := (OpenRow.toRowW (OpenLaw.row Challenge.rw_xm0759_01)).prog
def qE : Program := view pwE [0, 2, 3, 4, 6, 7, 9, 10, 11, 12, 13, 15, 16, 17, 18, 19, 20, 21, 22, 23, 24, 25]
abbrev envA : Env := { scope := pwE.main.scope, locals := mainNs, globals := mainNs, cells := [], code := .ref 13, frame := some 14 }
abbrev cA : Code := .body (behindTheImports pwE) envA
abbrev p0 : Pos := ⟨0, 0, 0, 0⟩
abbrev pN : Pos := ⟨277, 0, 289, 15⟩
def o11 : Obj := { cls := .type "tuple", data := .seq #[] }
def o12 : Obj := { cls := .none, data := .fields #[] }
def o13 : Obj := { cls := .type "code", data := .fields #[.str (Str.ofString "<module>") 182, .str (Str.ofString "<module>") 183, .str (Str.ofString "/claim/cut.py") 184, .int 1 0, .int 0 0, .int 0 0, .int 0 0, .int 0 0, .ref 11, .bool false, .int 181 0, .ref 12, .none, .none, .none, .none, .int 185 0, .int 1 0, .str (Str.ofString "/claim/cut.py") 186] }
def o14 : Obj := { cls := .type "frame", slots := #[some (.ref 13), some (.ref 3), some (.ref 3), none, some (.str (Str.ofString "__main__") 164), none, some (.ref 0)] }
noncomputable def heapA : Params → Heap := fun P => { objs := #[boot_o_0 P, boot_o_1 P, boot_o_2 P, boot_o_3 P, boot_o_4 P, boot_o_5 P, boot_o_6 P, boot_o_7 P, boot_o_8 P, boot_o_9 P, boot_o_10 P, o11, o12, o13, o14] }
open BT in
noncomputable def treeA : Params → BT := fun P => node (boot_o_0 P)
    (node (boot_o_1 P) (node (boot_o_3 P) (node (boot_o_7 P) nil nil) (node o11 nil nil)) (node (boot_o_5 P) (node (boot_o_9 P) nil nil) (node o13 nil nil)))
    (node (boot_o_2 P) (node (boot_o_4 P) (node (boot_o_8 P) nil nil) (node o12 nil nil)) (node (boot_o_6 P) (node (boot_o_10 P) nil nil) (node o14 nil nil)))
noncomputable abbrev sT (w : World) (os : OsState) : SharedT := { tree := treeA w.params, n := 15, life := {}, gens := #[], drawn := {}, toks := 187, os := os }
theorem pre_run (w : World) (os : OsState) : topGo treeTable pwE w 11 (some (.ref 6)) 12 ⟨boot_heap w.params, #[], boot_drawn, boot_toks, os⟩ (topStub pwE) =
    some (⟨heapA w.params, #[], {}, 187, os⟩, ⟨denote treeTable cA, cA, p0, [topFrame p0]⟩) := by
  rw [PySem.W.Fast.te15667345088766844465, PySem.W.Fast.te14364793385576792824, PySem.W.Fast.te11892475500146522536]
  kernel_rfl
theorem block_run (w : World) (os : OsState) : segRun treeTable pwE w 11 (some (.ref 6)) 1 1 ⟨heapA w.params, #[], {}, 187, os⟩ (blockOf (behindTheImports pwE) envA cA p0 [topFrame p0]) = some (.next, (sT w os).abs, cA, p0) := by
  rw [PySem.W.Fast.te14374325043358763698, PySem.W.Fast.te14364793385576792824]
  kernel_rfl
theorem fin_run (w : World) (s : Shared) : topRun treeTable pwE w 11 (some (.ref 6)) 2 s ⟨doneF .next, cA, pN, [topFrame p0]⟩ = some s := by
  kernel_rfl
theorem size_ok (w : World) : ((boot_heap w.params).isNs mainGlobals && (#[] : Array GenState).size == 0, (boot_heap w.params).objs.size, (boot_heap w.params).nsMap mainGlobals "__annotations__") = (true, 11, some (.ref 6)) := by
  kernel_rfl
theorem open_ok (w : World) : (fencedOpening treeTable pwE w 6312).map (fun s => (s.heap, s.gens, s.drawn, s.toks)) = some (boot_heap w.params, #[], boot_drawn, boot_toks) :=
  boot_open (by kernel_rfl) (by decide) (fun s => by kernel_rfl) w
theorem openEnds_of {tb : String → Option Builtin} {p : Program} {w : World} {N : Nat} {s s' : Shared} (e : fencedOpening tb p w N = some s) (t : topFrom tb p w N s = some s') : openEnds tb p w N = some s' :=
  Option.bind_eq_some_iff.mpr ⟨s, e, t⟩
def getT (s : SharedT) (a : Addr) : Option Obj := match Nat.blt a s.n with
  | true => alive ((s.tree.get a).getD default)
  | false => none
theorem absget (s : SharedT) (a : Addr) : s.abs.heap.get? a = getT s a := by
  unfold getT
  cases h : Nat.blt a s.n with
  | true =>
    have lt : a < s.n := Nat.le_of_ble_eq_true h
    show (absHeap s.tree s.n s.life).get? a = _
    unfold Heap.get?
    rw [absHeap_at, if_pos lt]
    show (match some ((s.tree.get a).getD default) with | some ⟨_, _, .freed, _⟩ => none | o => o) = alive ((s.tree.get a).getD default)
    obtain ⟨c, d, dt, sl⟩ := (s.tree.get a).getD default
    cases dt <;> rfl
  | false =>
    have lt : ¬ a < s.n := fun q => by rw [show Nat.blt a s.n = true from Nat.ble_eq_true_of_le q] at h; cases h
    exact abs_get_none lt
theorem obs_T {K : Params → Frag} {as : List Addr} {e : ∀ P, as = (K P).map (·.1)} (s : SharedT) : (kHook K as e).obs s.abs = as.map (getT s) := List.map_congr_left fun a _ => absget s a
/-- the whole top, in one run -/
theorem left_one {q : Program} {loose : List Str} {Xt : Shared → Bool} {α : Type} {Yf : Shared → α} {Ya : World → α} {YT : SharedT → α} (hY : ∀ s, Yf s.abs = YT s)
    (run : ∀ (w : World) (os : OsState), (segRunT treeTable pwE w 11 (some (.ref 6)) 1 3094 (sT w os) (piecesOf (behindTheImports pwE) envA cA p0 [topFrame p0])).map
      (fun x => (x.1, x.2.2, (staticsOk (importedModules pwE.main.body) (boot_heap w.params) x.2.1.abs.heap && namesBound pwE x.2.1.abs.heap && gensDone x.2.1.abs && laidKept (boot_heap w.params) x.2.1.abs.heap),
        openSeen q loose (importedModules pwE.main.body) Xt true x.2.1.abs, YT x.2.1)) = some (.next, (cA, pN), true, openGood q loose, Ya w)) : LeftO pwE q loose Xt Yf Ya 6312 := fun w => by
  obtain ⟨⟨h, gs, d, k, os⟩, e, e'⟩ := Option.map_eq_some_iff.mp (open_ok w)
  obtain ⟨rfl, rfl, rfl, rfl⟩ : h = boot_heap w.params ∧ gs = #[] ∧ d = boot_drawn ∧ k = boot_toks := by simpa using e'
  obtain ⟨⟨f, s, c, p⟩, r, l⟩ := Option.map_eq_some_iff.mp (run w os)
  obtain ⟨rfl, l⟩ := Prod.mk.inj l
  obtain ⟨lc, l⟩ := Prod.mk.inj l
  obtain ⟨l1, l⟩ := Prod.mk.inj l
  obtain ⟨l2, l3⟩ := Prod.mk.inj l
  obtain ⟨rfl, rfl⟩ := Prod.mk.inj lc
  obtain ⟨z1, z⟩ := Prod.mk.inj (size_ok w)
  obtain ⟨z2, z3⟩ := Prod.mk.inj z
  have ra := piece_app (rest := []) (N := 2) (r := s.abs) (segRun_of r) (piece_nil (fin_run w s.abs))
  rw [List.append_nil] at ra
  have rt := topRun_mono 3203 _ _ _ _ (go_top (pre_run w os) (piece_block (block_run w os) ra))
  have t : topFrom treeTable pwE w 6312 ⟨boot_heap w.params, #[], boot_drawn, boot_toks, os⟩ = some s.abs := by
    unfold topFrom
    dsimp only
    rw [z1, z2, z3]
    refine Option.bind_eq_some_iff.mpr ⟨s.abs, rt, ?_⟩
    rw [l1]
  rw [openEnds_of e t]
  exact congrArg some (Prod.ext l2 ((hY _).trans l3))
end Mine
end
section
open PySem PySem.W PyProof.Rows PySem.Spec PySem.Calls
set_option maxHeartbeats 8000000
namespace Mine
theorem said1 : namesResolve (Challenge.rw_xm0759_01).row.prog = true := by kernel_rfl
theorem said2 : (namesMeet (Challenge.rw_xm0759_01).row.prog (Challenge.rw_xm0759_01).row.prog.main.body fun _ n => attrL n) = true := by kernel_rfl
theorem said3 : looksOpen (Challenge.rw_xm0759_01).row.prog = true := by
  unfold looksOpen
  rw [said1, said2]
  kernel_rfl
theorem said_ok : (Challenge.rw_xm0759_01).wellSaid = true := by
  unfold OpenLaw.wellSaid OpenRow.wellSaid OpenRow.partSaid
  rw [said3]
  kernel_rfl
local macro_rules | `(tactic| o_law) => `(tactic| refine holds_law said_ok fun said => ?_)
local macro_rules | `(tactic| o_head $H) => do
  let (hw, hc) := (Lean.mkIdent `hw, Lean.mkIdent `hc)
  `(tactic| (refine holds_calm (r := OpenLaw.row Challenge.rw_xm0759_01) (q := qE) (loose := [Str.ofString "LockTable"]) (lv := []) $H (N := 6312) (left_one obs_T fun w os => ?run) (by rfl) (by rfl) (by rfl) (by rfl) (by first | assumption | decide +kernel) (by decide +kernel) ⟨rfl, rfl, rfl, rfl, rfl, by decide +kernel⟩ ?$hw ?$hc
             case run => (rw [PySem.W.Fast.te10110043849684766642, PySem.W.Fast.te14364793385576792824, PySem.W.Fast.te5923862056798008813, PySem.W.Fast.te4187177175401517315]; kernel_rfl)))
open_top hd for PySem.Challenge.rw_xm0759_01
end Mine
end
section
open PySem PySem.W PyProof.Rows PySem.Spec PySem.Calls
namespace Mine
theorem rmX (j : Nat) {x a n R : Nat} (h : a + n < R) (e : x = a + j := by k_dflt exact rfl) (hk : j ≤ n := by decide) : x < R := Nat.lt_of_le_of_lt (e ▸ Nat.add_le_add_left hk a) h
theorem rmY (j : Nat) {x k a n R : Nat} (h : a + n < R) (e : x = a + j := by k_dflt exact rfl) (hk : j + k ≤ n := by decide) : x + k < R :=
  Nat.lt_of_le_of_lt (by rw [e, Nat.add_assoc]; exact Nat.add_le_add_left hk a) h
end Mine
namespace Mine
abbrev addrs (news : List (Addr × Obj)) : List Addr := news.map (·.1)
/-- a contract of a def of the program's: over calm stacks -/
def ConC (w : World) (p : Program) (loose : List Str) (mean : ExcName → Option Value) (mg mb : Str → Option Value) (f : Addr) (vs : List Value) (news : List (Addr × Obj)) (d u : Nat) (pre : Heap → Prop) (post : Heap → Heap → Value → List (Addr × Obj) → Prop) : Prop :=
  ∀ (dp un : Nat) (cn : Str) (cs : Scope) (a : Addr) (ccd : Value) (cl : List (Str × Addr)) (outer : List Env) (A₀ : Around) (base h₀ : Heap) (L : Addr) (m : Str → Option Value) (s : Shared) (Q E : Value → Shared → Prop),
    Below A₀ base outer h₀ → Fr h₀ L s.heap m → (hd.heap_1 w.params).In h₀ → News h₀ L s.heap news → Top p loose mean mg mb h₀ → cs.kind = .function → pre s.heap → dp + d < recursionLimit → un + u < cLine →
    (∀ v news' h' tk', Fr h₀ L h' m → News h₀ L h' news' → Kept s.heap h' (addrs news) → Fresh s.heap (addrs news) news' → post s.heap h' v news' → Q v { s with heap := h', toks := tk' }) →
    wpC (model PySem.Challenge.rw_xm0759_01.row.toRowW.prog w) (ktrTop dp un (some []) cn cs L a ccd cl outer) (call (.ref f) vs) Q E s
/-- a contract of a def of the program's: over any stack -/
def ConA (w : World) (p : Program) (loose : List Str) (mean : ExcName → Option Value) (mg mb : Str → Option Value) (f : Addr) (vs : List Value) (news : List (Addr × Obj)) (d u : Nat) (pre : Heap → Prop) (post : Heap → Heap → Value → List (Addr × Obj) → Prop) : Prop :=
  ∀ (dp un : Nat) (cn : Str) (cs : Scope) (a : Addr) (ccd : Value) (cl : List (Str × Addr)) (outer : List Env) (A₀ : Around) (base h₀ : Heap) (L : Addr) (m : Str → Option Value) (s : Shared) (Q E : Value → Shared → Prop),
    Below A₀ base outer h₀ → Fr h₀ L s.heap m → (hd.heap_1 w.params).In h₀ → News h₀ L s.heap news → Top p loose mean mg mb h₀ → cs.kind = .function → pre s.heap → dp + d < recursionLimit → un + u < cLine →
    (∀ v news' h' tk', Fr h₀ L h' m → News h₀ L h' news' → Kept s.heap h' (addrs news) → Fresh s.heap (addrs news) news' → post s.heap h' v news' → Q v { s with heap := h', toks := tk' }) →
    wpAny (model PySem.Challenge.rw_xm0759_01.row.toRowW.prog w) (ktrTop dp un (some []) cn cs L a ccd cl outer) (call (.ref f) vs) Q E s
def padTo (b : Array UInt8) (n : Nat) : Array UInt8 := b ++ Array.replicate (n - b.size) 0
def putO (b : Array UInt8) (n : Nat) (o : Array UInt8) : Array UInt8 := putAt (padTo b n) n o
def cutO (b : Array UInt8) (n : Nat) : Array UInt8 := if n < b.size then (b.toList.take n).toArray else padTo b n
/-- nothing asked of the heap -/
abbrev anyH : Heap → Prop := fun _ => True
section
variable {w : World} {p : Program} {loose : List Str} {mean : ExcName → Option Value} {mg mb : Str → Option Value} {f : Addr} {vs : List Value} {news : List (Addr × Obj)} {d u : Nat} {pre : Heap → Prop} {post : Heap → Heap → Value → List (Addr × Obj) → Prop}
  {dp un : Nat} {cn : Str} {cs : Scope} {a : Addr} {ccd : Value} {cl : List (Str × Addr)} {outer : List Env} {A₀ : Around} {base h₀ : Heap} {L : Addr} {m : Str → Option Value} {s : Shared} {Q E : Value → Shared → Prop}
/-- a calm contract used -/
theorem useC {all rest : List (Addr × Obj)} (H : ConC w p loose mean mg mb f vs news d u pre post) (B : Below A₀ base outer h₀) (F : Fr h₀ L s.heap m) (X : (hd.heap_1 w.params).In h₀) (N : News h₀ L s.heap all) (T : Top p loose mean mg mb h₀) (hk : cs.kind = .function)
    (hp : pre s.heap) (hd : dp + d < recursionLimit) (hu : un + u < cLine) (h1 : ∀ q ∈ news, q ∈ all) (h2 : ∀ q ∈ rest, q ∈ all ∧ q.1 ∉ addrs news)
    (k : ∀ v news' h' tk', Fr h₀ L h' m → News h₀ L h' (news' ++ rest) → (∀ q ∈ news', q.1 ∈ addrs news ∨ s.heap.get? q.1 = none) → Kept s.heap h' (addrs news) → post s.heap h' v news' → Q v { s with heap := h', toks := tk' }) :
    wpC (model PySem.Challenge.rw_xm0759_01.row.toRowW.prog w) (ktrTop dp un (some []) cn cs L a ccd cl outer) (call (.ref f) vs) Q E s :=
  H dp un cn cs a ccd cl outer A₀ base h₀ L m s Q E B F X (fun q hq => N q (h1 q hq)) T hk hp hd hu fun v news' h' tk' F' N' K' R' P' => k v news' h' tk' F' (fun q hq => by
    rcases List.mem_append.mp hq with hq | hq
    · exact N' q hq
    · exact ⟨K' _ _ (h2 q hq).2 (N q (h2 q hq).1).1, (N q (h2 q hq).1).2⟩) R' K' P'
theorem useA {all rest : List (Addr × Obj)} (H : ConA w p loose mean mg mb f vs news d u pre post) (B : Below A₀ base outer h₀) (F : Fr h₀ L s.heap m) (X : (hd.heap_1 w.params).In h₀) (N : News h₀ L s.heap all) (T : Top p loose mean mg mb h₀) (hk : cs.kind = .function)
    (hp : pre s.heap) (hd : dp + d < recursionLimit) (hu : un + u < cLine) (h1 : ∀ q ∈ news, q ∈ all) (h2 : ∀ q ∈ rest, q ∈ all ∧ q.1 ∉ addrs news)
    (k : ∀ v news' h' tk', Fr h₀ L h' m → News h₀ L h' (news' ++ rest) → (∀ q ∈ news', q.1 ∈ addrs news ∨ s.heap.get? q.1 = none) → Kept s.heap h' (addrs news) → post s.heap h' v news' → Q v { s with heap := h', toks := tk' }) :
    wpAny (model PySem.Challenge.rw_xm0759_01.row.toRowW.prog w) (ktrTop dp un (some []) cn cs L a ccd cl outer) (call (.ref f) vs) Q E s :=
  H dp un cn cs a ccd cl outer A₀ base h₀ L m s Q E B F X (fun q hq => N q (h1 q hq)) T hk hp hd hu fun v news' h' tk' F' N' K' R' P' => k v news' h' tk' F' (fun q hq => by
    rcases List.mem_append.mp hq with hq | hq
    · exact N' q hq
    · exact ⟨K' _ _ (h2 q hq).2 (N q (h2 q hq).1).1, (N q (h2 q hq).1).2⟩) R' K' P'
end
end Mine
namespace Mine
section
variable {w : World} {p : Program} {loose : List Str} {mean : ExcName → Option Value} {mg mb : Str → Option Value} {f : Addr} {vs : List Value} {news : List (Addr × Obj)} {d u : Nat} {pre : Heap → Prop} {post : Heap → Heap → Value → List (Addr × Obj) → Prop}
  {dp un : Nat} {cn : Str} {cs : Scope} {a : Addr} {ccd : Value} {cl : List (Str × Addr)} {outer : List Env} {A₀ : Around} {base h₀ : Heap} {L c : Addr} {m : Str → Option Value} {s : Shared} {Q E : Value → Shared → Prop} {o : Obj} {g : Obj → List (Addr × Obj)} {P : Value → Obj → Prop}
theorem useA1 (H : ConA w p loose mean mg mb f vs [(c, o)] d u pre (fun _ _ v news' => ∃ o', news' = [(c, o')] ∧ P v o')) (B : Below A₀ base outer h₀) (F : Fr h₀ L s.heap m) (X : (hd.heap_1 w.params).In h₀) (N : News h₀ L s.heap news) (T : Top p loose mean mg mb h₀) (hk : cs.kind = .function)
    (hp : pre s.heap) (hd : dp + d < recursionLimit) (hu : un + u < cLine) (U : UpdF c o news g)
    (k : ∀ v o' h' tk', Fr h₀ L h' m → News h₀ L h' (g o') → Kept s.heap h' [c] → P v o' → Q v { s with heap := h', toks := tk' }) :
    wpAny (model PySem.Challenge.rw_xm0759_01.row.toRowW.prog w) (ktrTop dp un (some []) cn cs L a ccd cl outer) (call (.ref f) vs) Q E s :=
  H dp un cn cs a ccd cl outer A₀ base h₀ L m s Q E B F X (fun q hq => by rcases List.mem_singleton.mp hq with rfl; exact N _ (UpdF.mem U)) T hk hp hd hu fun v news' h' tk' F' N' K' R' P' => by
    obtain ⟨o', rfl, hP⟩ := P'
    exact k v o' h' tk' F' (news_upd1 N U K'.but (N' _ (List.mem_singleton.mpr rfl)).1) K' hP
theorem useC1 (H : ConC w p loose mean mg mb f vs [(c, o)] d u pre (fun _ _ v news' => ∃ o', news' = [(c, o')] ∧ P v o')) (B : Below A₀ base outer h₀) (F : Fr h₀ L s.heap m) (X : (hd.heap_1 w.params).In h₀) (N : News h₀ L s.heap news) (T : Top p loose mean mg mb h₀) (hk : cs.kind = .function)
    (hp : pre s.heap) (hd : dp + d < recursionLimit) (hu : un + u < cLine) (U : UpdF c o news g)
    (k : ∀ v o' h' tk', Fr h₀ L h' m → News h₀ L h' (g o') → Kept s.heap h' [c] → P v o' → Q v { s with heap := h', toks := tk' }) :
    wpC (model PySem.Challenge.rw_xm0759_01.row.toRowW.prog w) (ktrTop dp un (some []) cn cs L a ccd cl outer) (call (.ref f) vs) Q E s :=
  H dp un cn cs a ccd cl outer A₀ base h₀ L m s Q E B F X (fun q hq => by rcases List.mem_singleton.mp hq with rfl; exact N _ (UpdF.mem U)) T hk hp hd hu fun v news' h' tk' F' N' K' R' P' => by
    obtain ⟨o', rfl, hP⟩ := P'
    exact k v o' h' tk' F' (news_upd1 N U K'.but (N' _ (List.mem_singleton.mpr rfl)).1) K' hP
end
/-- the numbers that a script's cell gives: two ints, at least 0 -/
def Src (o : Obj) : Prop := ∃ x y t1 t2 n, o = listOf #[.int x t1, .int y t2] n ∧ 0 ≤ x ∧ 0 ≤ y ∧ y < 2147483647
end Mine
namespace Mine
theorem intBits_fmod (a n : Int) (h : 0 < n) (hn : n ≤ 4611686018427387904) : Builtin.Int.intBits (Int.fmod a n) ≤ 64 :=
  PySem.intBits_le_64 (by have := fmod_lo a h; omega) (by have := fmod_hi a h; omega)
end Mine
namespace Mine
/-- a change of a file -/
structure Ch where
  cut : Bool
  pl : Nat
  os : Array UInt8
theorem neCh : Nonempty Ch := ⟨⟨true, 0, #[]⟩⟩
structure Ch.Ok (c : Ch) : Prop where
  pl : c.pl ≤ 16
  no : c.cut = true → c.os = #[]
  some : c.cut = false → 1 ≤ c.os.size
  most : c.os.size ≤ 9
def tupOf (vs : Array Value) : Obj := { cls := .type "tuple", data := .seq vs }
/-- the tuple of a change, by the word that it has for a cut -/
def TupO (word : Str) (c : Ch) (o : Obj) : Prop := ∃ t1 t2 t3, o = tupOf #[.str (if c.cut then word else Str.ofString "write") t1, .int (c.pl : Nat) t2, .bytes c.os t3]
end Mine
namespace Mine
theorem Fresh.sub {h : Heap} {l : List Addr} {n n' : List (Addr × Obj)} (R : Fresh h l n) (hs : n'.Sublist n) : Fresh h l n' := fun q hq => R q (hs.subset hq)
theorem newsSub {h₀ h : Heap} {L : Addr} {n n' : List (Addr × Obj)} (N : News h₀ L h n) (hs : n'.Sublist n) : News h₀ L h n' := fun q hq => N q (hs.subset hq)
end Mine
namespace Mine
theorem sub13 {α : Type} {x y z : α} : List.Sublist [x, z] [x, y, z] := .cons_cons _ (.cons _ (.cons_cons _ .slnil))
theorem sub14 {α : Type} {x y z u : α} : List.Sublist [x, u] [x, y, z, u] := .cons_cons _ (.cons _ (.cons _ (.cons_cons _ .slnil)))
end Mine
namespace Mine
def ent (w : World) (name : Str) (v : Value) (t : Tok) : DictEntry := { hash := PyData.keyHash w.params name, key := .str name t, val := v }
/-- a disk's dict: no room, no crash ahead -/
def DiskD (w : World) (sec : Int) (fd : Addr) (o : Obj) : Prop := ∃ ts st tst sh lk t1 t2 t3 t4 t5 t6 t7, o = dictOf [ent w (Str.ofString "sector") (.int sec ts) t1, ent w (Str.ofString "room") .none t2, ent w (Str.ofString "files") (.ref fd) t3,
  ent w (Str.ofString "steps") (.int st tst) t4, ent w (Str.ofString "crash_at") .none t5, ent w (Str.ofString "shared") sh t6, ent w (Str.ofString "locks") lk t7] 7
/-- a file's dict -/
def FileD (w : World) (D : Addr) (sy : Array UInt8) (pl nw : Addr) (o : Obj) : Prop := ∃ tn ty t1 t2 t3 t4 t5, o = dictOf [ent w (Str.ofString "disk") (.ref D) t1, ent w (Str.ofString "name") (.str (Str.ofString "a") tn) t2,
  ent w (Str.ofString "synced") (.bytes sy ty) t3, ent w (Str.ofString "pending") (.ref pl) t4, ent w (Str.ofString "now") (.ref nw) t5] 5
end Mine
namespace Mine
theorem nod7 {a b c d e f g : Nat} (h : (a ≠ b ∧ a ≠ c ∧ a ≠ d ∧ a ≠ e ∧ a ≠ f ∧ a ≠ g) ∧ (b ≠ c ∧ b ≠ d ∧ b ≠ e ∧ b ≠ f ∧ b ≠ g) ∧ (c ≠ d ∧ c ≠ e ∧ c ≠ f ∧ c ≠ g) ∧ (d ≠ e ∧ d ≠ f ∧ d ≠ g) ∧ (e ≠ f ∧ e ≠ g) ∧ f ≠ g) : [a, b, c, d, e, f, g].Nodup := by
  simp only [List.nodup_cons, List.mem_cons, List.not_mem_nil, or_false, not_or, List.nodup_nil, and_true, not_false_eq_true]
  exact h
theorem nod7' {a b c d e f g : Nat} (h : [a, b, c, d, e, f, g].Nodup) : (a ≠ b ∧ a ≠ c ∧ a ≠ d ∧ a ≠ e ∧ a ≠ f ∧ a ≠ g) ∧ (b ≠ c ∧ b ≠ d ∧ b ≠ e ∧ b ≠ f ∧ b ≠ g) ∧ (c ≠ d ∧ c ≠ e ∧ c ≠ f ∧ c ≠ g) ∧ (d ≠ e ∧ d ≠ f ∧ d ≠ g) ∧ (e ≠ f ∧ e ≠ g) ∧ f ≠ g := by
  simpa only [List.nodup_cons, List.mem_cons, List.not_mem_nil, or_false, not_or, List.nodup_nil, and_true, not_false_eq_true] using h
/-- two places that are not one, out of omega's sight -/
structure Nq (a b : Nat) : Prop where
  ne : a ≠ b
theorem nq7 {a b c d e f g : Nat} (h : [a, b, c, d, e, f, g].Nodup) : (Nq a b ∧ Nq a c ∧ Nq a d ∧ Nq a e ∧ Nq a f ∧ Nq a g) ∧ (Nq b c ∧ Nq b d ∧ Nq b e ∧ Nq b f ∧ Nq b g) ∧ (Nq c d ∧ Nq c e ∧ Nq c f ∧ Nq c g) ∧ (Nq d e ∧ Nq d f ∧ Nq d g) ∧ (Nq e f ∧ Nq e g) ∧ Nq f g := by
  obtain ⟨⟨h1, h2, h3, h4, h5, h6⟩, ⟨i1, i2, i3, i4, i5⟩, ⟨j1, j2, j3, j4⟩, ⟨k1, k2, k3⟩, ⟨l1, l2⟩, m⟩ := nod7' h
  exact ⟨⟨⟨h1⟩, ⟨h2⟩, ⟨h3⟩, ⟨h4⟩, ⟨h5⟩, ⟨h6⟩⟩, ⟨⟨i1⟩, ⟨i2⟩, ⟨i3⟩, ⟨i4⟩, ⟨i5⟩⟩, ⟨⟨j1⟩, ⟨j2⟩, ⟨j3⟩, ⟨j4⟩⟩, ⟨⟨k1⟩, ⟨k2⟩, ⟨k3⟩⟩, ⟨⟨l1⟩, ⟨l2⟩⟩, ⟨m⟩⟩
abbrev strK (w : World) := PySem.strKind PySem.Challenge.rw_xm0759_01.row.prog w
/-- where a disk of one file lies: now, pending, the file, its dict, files, the disk, its dict -/
structure DS where
  nw : Nat
  pl : Nat
  f : Nat
  fdx : Nat
  fd : Nat
  D : Nat
  dx : Nat
theorem neDS : Nonempty DS := ⟨⟨0, 0, 0, 0, 0, 0, 0⟩⟩
def DS.all (A : DS) : List Nat := [A.nw, A.pl, A.f, A.fdx, A.fd, A.D, A.dx]
/-- a disk of one file in the ledger -/
def DiskIs (w : World) (A : DS) (sec : Int) (sy now : Array UInt8) (items : List Value) (l : List (Addr × Obj)) : Prop :=
  ∃ n ofx ofd od, l = [(A.nw, ba now), (A.pl, listOf items.toArray n), (A.f, instObj 266 A.fdx), (A.fdx, ofx), (A.fd, ofd), (A.D, instObj 372 A.dx), (A.dx, od)] ∧ FileD w A.D sy A.pl A.nw ofx ∧
    ofd.IsDictOf (strK w) [(Str.ofString "a", .ref A.f)] ∧ (A.fd == sysModules) = false ∧ DiskD w sec A.fd od ∧ A.all.Nodup
end Mine
namespace Mine
/-- the dict of a list of choices -/
def ChoiceD (w : World) (nl : Addr) (told : Nat) (o : Obj) : Prop := ∃ tt t1 t2, o = dictOf [ent w (Str.ofString "numbers") (.ref nl) t1, ent w (Str.ofString "told") (.int (told : Nat) tt) t2] 2
/-- the number told at a step: they come in turn -/
def num (ns : List Int) (i : Nat) : Int := if ns = [] then 0 else ns.getD (i % ns.length) 0
end Mine
namespace Mine
inductive Pick (q : Addr × Obj) : List (Addr × Obj) → List (Addr × Obj) → Prop
  | head {r} : Pick q (q :: r) r
  | tail {p r r'} : Pick q r r' → Pick q (p :: r) (p :: r')
inductive Part : List (Addr × Obj) → List (Addr × Obj) → List (Addr × Obj) → Prop
  | nil {r} : Part [] r r
  | cons {q n all all' rest} : Pick q all all' → Part n all' rest → Part (q :: n) all rest
theorem Pick.sub {q : Addr × Obj} {a r : List (Addr × Obj)} (h : Pick q a r) : q ∈ a ∧ ∀ x ∈ r, x ∈ a := by
  induction h with
  | head => exact ⟨.head _, fun x hx => .tail _ hx⟩
  | tail _ ih => exact ⟨.tail _ ih.1, fun x hx => by rcases List.mem_cons.mp hx with rfl | hx; exact .head _; exact .tail _ (ih.2 x hx)⟩
theorem Part.sub {n a r : List (Addr × Obj)} (h : Part n a r) : (∀ x ∈ n, x ∈ a) ∧ ∀ x ∈ r, x ∈ a := by
  induction h with
  | nil => exact ⟨fun _ h => (nomatch h), fun _ h => h⟩
  | cons p _ ih => exact ⟨fun x hx => by rcases List.mem_cons.mp hx with rfl | hx; exact p.sub.1; exact p.sub.2 _ (ih.1 x hx), fun x hx => p.sub.2 _ (ih.2 x hx)⟩
def AllNot (l : List Addr) (rest : List (Addr × Obj)) : Prop := ∀ q ∈ rest, ∀ a ∈ l, q.1 ≠ a
section
variable {w : World} {p : Program} {loose : List Str} {mean : ExcName → Option Value} {mg mb : Str → Option Value} {f : Addr} {vs : List Value} {news : List (Addr × Obj)} {d u : Nat} {pre : Heap → Prop} {post : Heap → Heap → Value → List (Addr × Obj) → Prop}
  {dp un : Nat} {cn : Str} {cs : Scope} {a : Addr} {ccd : Value} {cl : List (Str × Addr)} {outer : List Env} {A₀ : Around} {base h₀ : Heap} {L : Addr} {m : Str → Option Value} {s : Shared} {Q E : Value → Shared → Prop}
theorem usePA {all rest : List (Addr × Obj)} (H : ConA w p loose mean mg mb f vs news d u pre post) (B : Below A₀ base outer h₀) (F : Fr h₀ L s.heap m) (X : (hd.heap_1 w.params).In h₀) (N : News h₀ L s.heap all) (T : Top p loose mean mg mb h₀) (hk : cs.kind = .function)
    (P : Part news all rest) (O : AllNot (addrs news) rest) (hp : pre s.heap) (hd : dp + d < recursionLimit) (hu : un + u < cLine)
    (k : ∀ v news' h' tk', Fr h₀ L h' m → News h₀ L h' (news' ++ rest) → (∀ q ∈ news', q.1 ∈ addrs news ∨ s.heap.get? q.1 = none) → Kept s.heap h' (addrs news) → post s.heap h' v news' → Q v { s with heap := h', toks := tk' }) :
    wpAny (model PySem.Challenge.rw_xm0759_01.row.toRowW.prog w) (ktrTop dp un (some []) cn cs L a ccd cl outer) (call (.ref f) vs) Q E s :=
  useA H B F X N T hk hp hd hu P.sub.1 (fun q hq => ⟨P.sub.2 q hq, fun h => O q hq _ h rfl⟩) k
theorem usePC {all rest : List (Addr × Obj)} (H : ConC w p loose mean mg mb f vs news d u pre post) (B : Below A₀ base outer h₀) (F : Fr h₀ L s.heap m) (X : (hd.heap_1 w.params).In h₀) (N : News h₀ L s.heap all) (T : Top p loose mean mg mb h₀) (hk : cs.kind = .function)
    (P : Part news all rest) (O : AllNot (addrs news) rest) (hp : pre s.heap) (hd : dp + d < recursionLimit) (hu : un + u < cLine)
    (k : ∀ v news' h' tk', Fr h₀ L h' m → News h₀ L h' (news' ++ rest) → (∀ q ∈ news', q.1 ∈ addrs news ∨ s.heap.get? q.1 = none) → Kept s.heap h' (addrs news) → post s.heap h' v news' → Q v { s with heap := h', toks := tk' }) :
    wpC (model PySem.Challenge.rw_xm0759_01.row.toRowW.prog w) (ktrTop dp un (some []) cn cs L a ccd cl outer) (call (.ref f) vs) Q E s :=
  useC H B F X N T hk hp hd hu P.sub.1 (fun q hq => ⟨P.sub.2 q hq, fun h => O q hq _ h rfl⟩) k
end
/-- locals of a loop: those named are anything, the others as they were -/
def over (m₀ u : Str → Option Value) : List Str → Str → Option Value
  | [], z => m₀ z
  | x :: r, z => if z = x then u z else over m₀ u r z
def OffV (vars : List Str) (m m' : Str → Option Value) : Prop := ∀ z, z ∉ vars → m' z = m z
theorem over_off {m₀ u : Str → Option Value} : ∀ {vars : List Str} {z : Str}, z ∉ vars → over m₀ u vars z = m₀ z
  | [], _, _ => rfl
  | x :: r, z, h => by
    unfold over
    rw [if_neg (fun (e : z = x) => h (by rw [e]; exact List.mem_cons_self))]
    exact over_off fun q => h (.tail _ q)
theorem over_on {m₀ u : Str → Option Value} : ∀ {vars : List Str} {z : Str}, z ∈ vars → over m₀ u vars z = u z
  | x :: r, z, h => by
    unfold over
    by_cases e : z = x
    · rw [if_pos e]
    · rw [if_neg e]
      rcases List.mem_cons.mp h with h | h
      · exact absurd h e
      · exact over_on h
theorem OffV.eq {vars : List Str} {m₀ m : Str → Option Value} (h : OffV vars m₀ m) : m = over m₀ m vars := by
  funext z
  by_cases hz : z ∈ vars
  · rw [over_on hz]
  · rw [over_off hz, h z hz]
theorem OffV.over {vars : List Str} {m₀ u : Str → Option Value} : OffV vars m₀ (over m₀ u vars) := fun _ h => over_off h
theorem OffV.refl {vars : List Str} {m : Str → Option Value} : OffV vars m m := fun _ _ => rfl
theorem OffV.step {vars : List Str} {m₀ m : Str → Option Value} {x : Str} {v : Option Value} (h : OffV vars m₀ m) (hx : x ∈ vars) : OffV vars m₀ (fun y => if y = x then v else m y) := fun z hz => by
  show (if z = x then v else m z) = m₀ z
  rw [if_neg (fun (e : z = x) => hz (by rw [e]; exact hx))]; exact h z hz
theorem TurnC.nx {s : Shared} {h₀ : Heap} {L it : Addr} {io : Obj} {J : (Str → Option Value) → List (Addr × Obj) → Prop} {R : Result → Shared → Prop} {m' : Str → Option Value} {n' : List (Addr × Obj)} {h' : Heap} {tk' : Nat} (F : Fr h₀ L h' m') (N : News h₀ L h' ((it, io) :: n')) (j : J m' n') :
    TurnC s h₀ L it io J R .next { s with heap := h', toks := tk' } := ⟨m', n', h', tk', rfl, F, N, j⟩
theorem TurnC.ct {s : Shared} {h₀ : Heap} {L it : Addr} {io : Obj} {J : (Str → Option Value) → List (Addr × Obj) → Prop} {R : Result → Shared → Prop} {m' : Str → Option Value} {n' : List (Addr × Obj)} {h' : Heap} {tk' : Nat} (F : Fr h₀ L h' m') (N : News h₀ L h' ((it, io) :: n')) (j : J m' n') :
    TurnC s h₀ L it io J R .cont { s with heap := h', toks := tk' } := ⟨m', n', h', tk', rfl, F, N, j⟩
/-- the tuples of changes, at hand in a heap -/
def ChsIn (h : Heap) (word : Str) (items : List Value) (cs : List Ch) (not : List Addr) : Prop :=
  items.length = cs.length ∧ ∀ (i : Nat) (v : Value) (c : Ch), items[i]? = some v → cs[i]? = some c → ∃ t ot, v = .ref t ∧ t ∉ not ∧ h.get? t = some ot ∧ TupO word c ot ∧ c.Ok
theorem ChsIn.kept {h h' : Heap} {word : Str} {items : List Value} {cs : List Ch} {not : List Addr} (C : ChsIn h word items cs not) (k : Kept h h' not) : ChsIn h' word items cs not :=
  ⟨C.1, fun i v c h1 h2 => let ⟨t, ot, a, b, c', d⟩ := C.2 i v c h1 h2; ⟨t, ot, a, b, k _ _ b c', d⟩⟩
theorem ChsIn.pick {h : Heap} {word : Str} {items : List Value} {cs : List Ch} {not : List Addr} {i : Nat} (C : ChsIn h word items cs not) (hi : i < cs.length) :
    ∃ t cut pl os ta tb tc, items[i]? = some (.ref t) ∧ cs[i]? = some ⟨cut, pl, os⟩ ∧ h.get? t = some (tupOf #[.str (if cut then word else Str.ofString "write") ta, .int (pl : Nat) tb, .bytes os tc]) ∧ Ch.Ok ⟨cut, pl, os⟩ := by
  have hx := List.getElem?_eq_getElem (C.1.symm ▸ hi : i < items.length)
  obtain ⟨t, ot, e, _, hot, ⟨ta, tb, tc, rfl⟩, hok⟩ := C.2 i _ _ hx (List.getElem?_eq_getElem hi)
  exact ⟨t, _, _, _, ta, tb, tc, hx.trans (congrArg some e), List.getElem?_eq_getElem hi, hot, hok⟩
theorem ChsIn.pickv {h : Heap} {word : Str} {items : List Value} {cs : List Ch} {not : List Addr} {i : Nat} {v : Value} (C : ChsIn h word items cs not) (hv : items[i]? = some v) :
    ∃ t cut pl os ta tb tc, v = .ref t ∧ cs[i]? = some ⟨cut, pl, os⟩ ∧ h.get? t = some (tupOf #[.str (if cut then word else Str.ofString "write") ta, .int (pl : Nat) tb, .bytes os tc]) ∧ Ch.Ok ⟨cut, pl, os⟩ := by
  obtain ⟨t, cut, pl, os, ta, tb, tc, hx, r⟩ := C.pick (C.1 ▸ (List.getElem?_eq_some_iff.mp hv).1)
  exact ⟨t, cut, pl, os, ta, tb, tc, Option.some.inj (hv.symm.trans hx), r⟩
/-- what a crash leaves of a change -/
def leftOne (sec : Nat) (k : Int) (c : Ch) : Option Ch :=
  if k % 2 = 1 then some c
  else if k % 4 = 2 ∧ c.cut = false then
    (if (c.os.extract 0 ((k / 4 % (((c.os.size + sec - 1) / sec : Nat) : Int)) * sec).toNat).size = 0 then none
      else some { c with os := c.os.extract 0 ((k / 4 % (((c.os.size + sec - 1) / sec : Nat) : Int)) * sec).toNat })
  else none
def leftFrom (sec : Nat) (ns : List Int) : Nat → List Ch → List Ch
  | _, [] => []
  | i, c :: r => (leftOne sec (num ns i) c).toList ++ leftFrom sec ns (i + 1) r
theorem leftFrom_app (sec : Nat) (ns : List Int) (a b : List Ch) : ∀ i, leftFrom sec ns i (a ++ b) = leftFrom sec ns i a ++ leftFrom sec ns (i + a.length) b := by
  induction a with
  | nil => intro i; simp [leftFrom]
  | cons c r ih => intro i; simp only [List.cons_append, leftFrom, ih, List.append_assoc, List.length_cons]; rw [show i + 1 + r.length = i + (r.length + 1) by omega]
theorem leftFrom_take (sec : Nat) (ns : List Int) {cs : List Ch} {i : Nat} {c : Ch} (h : cs[i]? = some c) : leftFrom sec ns 0 (cs.take (i + 1)) = leftFrom sec ns 0 (cs.take i) ++ (leftOne sec (num ns i) c).toList := by
  rw [List.take_add_one, h, leftFrom_app]
  have hi : i < cs.length := by
    rcases Nat.lt_or_ge i cs.length with h' | h'
    · exact h'
    · rw [List.getElem?_eq_none_iff.mpr h'] at h; cases h
  simp only [Option.toList, leftFrom, List.length_take, List.append_nil, Nat.zero_add, Nat.min_eq_left (Nat.le_of_lt hi)]
def apply1 (b : Array UInt8) (c : Ch) : Array UInt8 := if c.cut then cutO b c.pl else putO b c.pl c.os
def applyAll (b : Array UInt8) (l : List Ch) : Array UInt8 := l.foldl apply1 b
theorem size_padTo (b : Array UInt8) (n : Nat) : (padTo b n).size = b.size + (n - b.size) := by unfold padTo; simp
theorem size_putO (b : Array UInt8) (n : Nat) (o : Array UInt8) : (putO b n o).size = min n (b.size + (n - b.size)) + o.size + (b.size + (n - b.size) - (n + o.size)) := by unfold putO; rw [size_putAt, size_padTo]
theorem size_cutO (b : Array UInt8) (n : Nat) : (cutO b n).size = n := by
  unfold cutO
  split
  · simp; omega
  · rw [size_padTo]; omega
theorem apply1_size {b : Array UInt8} {c : Ch} (hb : b.size ≤ 25) (hc : c.Ok) : (apply1 b c).size ≤ 25 := by
  have h1 := hc.pl
  have h2 := hc.most
  unfold apply1
  split
  · rw [size_cutO]; omega
  · rw [size_putO]; omega
end Mine
namespace Mine
theorem reord8 {h₀ h : Heap} {L : Addr} {c d n i x p f g : Addr × Obj} (N : News h₀ L h [c, d, n, i, x, p, f, g]) : News h₀ L h [i, x, p, f, g, c, d, n] := fun q hq => N q (by
  simp only [List.mem_cons, List.not_mem_nil, or_false] at hq ⊢
  rcases hq with h | h | h | h | h | h | h | h <;> simp [h])
theorem applyAll_app (b : Array UInt8) (l r : List Ch) : applyAll b (l ++ r) = applyAll (applyAll b l) r := List.foldl_append ..
theorem numEq {ns : List Int} {i told : Nat} (h : ns ≠ [] → told = i) : num ns told = num ns i := by
  by_cases e : ns = []
  · unfold num; rw [if_pos e, if_pos e]
  · rw [h e]
theorem num_in {ns : List Int} (h : ∀ z ∈ ns, 0 ≤ z ∧ z < 40) (i : Nat) : 0 ≤ num ns i ∧ num ns i < 40 := by
  unfold num
  split
  · omega
  · rename_i hne
    have hl : 0 < ns.length := List.length_pos_iff.mpr hne
    have hi := Nat.mod_lt i hl
    rw [List.getD_eq_getElem?_getD, List.getElem?_eq_getElem hi]
    exact h _ (List.getElem_mem hi)
end Mine
namespace Mine
theorem secs_eq (n sec : Nat) (h1 : 1 ≤ n) (hs : 1 ≤ sec) : (if ((n : Int) + sec - 1).fdiv sec > 1 then ((n : Int) + sec - 1).fdiv sec else 1) = (((n + sec - 1) / sec : Nat) : Int) := by
  have e : ((n : Int) + sec - 1).fdiv sec = (((n + sec - 1) / sec : Nat) : Int) := by
    rw [Int.fdiv_eq_ediv_of_nonneg _ (by omega), Int.natCast_ediv]
    congr 1
    omega
  have hp : 1 ≤ (n + sec - 1) / sec := (Nat.one_le_div_iff (by omega)).mpr (by omega)
  rw [e]
  split
  · rfl
  · omega
theorem hi_eq (k : Int) (n sec : Nat) (hk : 0 ≤ k) (h1 : 1 ≤ n) (hs : 1 ≤ sec) :
    (k.fdiv 4).fmod (if ((n : Int) + sec - 1).fdiv sec > 1 then ((n : Int) + sec - 1).fdiv sec else 1) * sec = (k / 4 % (((n + sec - 1) / sec : Nat) : Int)) * sec := by
  rw [secs_eq n sec h1 hs, Int.fdiv_eq_ediv_of_nonneg _ (by omega), Int.fmod_eq_emod_of_nonneg _ (Int.natCast_nonneg _)]
theorem hi_nonneg (k : Int) (n sec : Nat) (hk : 0 ≤ k) (h1 : 1 ≤ n) (hs : 1 ≤ sec) :
    0 ≤ (k.fdiv 4).fmod (if ((n : Int) + sec - 1).fdiv sec > 1 then ((n : Int) + sec - 1).fdiv sec else 1) * sec := by
  rw [hi_eq k n sec hk h1 hs]
  have hp : 1 ≤ (n + sec - 1) / sec := (Nat.one_le_div_iff (by omega)).mpr (by omega)
  exact Int.mul_nonneg (Int.emod_nonneg _ (by omega)) (by omega)
theorem left_lost {sec : Nat} {k : Int} {c : Ch} (h : k.fmod 4 = 0) : leftOne sec k c = none := by
  rw [Int.fmod_eq_emod_of_nonneg _ (by omega)] at h
  unfold leftOne
  rw [if_neg (by omega), if_neg (by omega)]
theorem left_kept {sec : Nat} {k : Int} {c : Ch} (h0 : k.fmod 4 ≠ 0) (h : k.fmod 4 ≠ 2) : leftOne sec k c = some c := by
  rw [Int.fmod_eq_emod_of_nonneg _ (by omega)] at h h0
  unfold leftOne
  rw [if_pos (by omega)]
theorem left_cut {sec : Nat} {k : Int} {c : Ch} (h : k.fmod 4 = 2) (hc : c.cut = true) : leftOne sec k c = none := by
  rw [Int.fmod_eq_emod_of_nonneg _ (by omega)] at h
  unfold leftOne
  rw [if_neg (by omega), if_neg (by rw [hc]; simp)]
theorem left_torn {sec : Nat} {k : Int} {pl : Nat} {os : Array UInt8} (hk : 0 ≤ k) (h1 : 1 ≤ os.size) (hs : 1 ≤ sec) (h : k.fmod 4 = 2) :
    leftOne sec k ⟨false, pl, os⟩ = (if (os.extract 0 ((k.fdiv 4).fmod (if ((os.size : Int) + sec - 1).fdiv sec > 1 then ((os.size : Int) + sec - 1).fdiv sec else 1) * sec).toNat).size = 0 then none
      else some ⟨false, pl, os.extract 0 ((k.fdiv 4).fmod (if ((os.size : Int) + sec - 1).fdiv sec > 1 then ((os.size : Int) + sec - 1).fdiv sec else 1) * sec).toNat⟩) := by
  rw [hi_eq k os.size sec hk h1 hs]
  rw [Int.fmod_eq_emod_of_nonneg _ (by omega)] at h
  unfold leftOne
  rw [if_neg (by omega), if_pos ⟨h, rfl⟩]
theorem applyAll_one (b : Array UInt8) (c : Ch) : applyAll b [c] = apply1 b c := rfl
/-- a step of the changes left -/
theorem left_step {sec : Nat} {ns : List Int} {chs : List Ch} {i told : Nat} {c : Ch} {sy b : Array UInt8} (hc : chs[i]? = some c) (hb : b = applyAll sy (leftFrom sec ns 0 (chs.take i))) (ht : ns ≠ [] → told = i) :
    applyAll sy (leftFrom sec ns 0 (chs.take (i + 1))) = applyAll b (leftOne sec (num ns told) c).toList := by
  rw [leftFrom_take sec ns hc, applyAll_app, ← hb, numEq ht]
end Mine
namespace Mine
/-- places that a heap held -/
structure Old (h : Heap) (l : List Nat) : Prop where
  has : ∀ a ∈ l, ∃ o, h.get? a = some o
/-- a place that a heap did not hold -/
structure Gone (h : Heap) (a : Nat) : Prop where
  no : h.get? a = none
theorem Old.of {h₀ h : Heap} {L : Addr} {all : List (Addr × Obj)} (N : News h₀ L h all) : Old h (addrs all) := ⟨fun a ha => by
  obtain ⟨q, hq, rfl⟩ := List.mem_map.mp ha
  exact ⟨_, (N q hq).1⟩⟩
theorem Gone.ne {h : Heap} {a b : Nat} {l : List Nat} (G : Gone h a) (O : Old h l) (m : b ∈ l) : a ≠ b := fun e => by
  obtain ⟨o, ho⟩ := O.has b m
  rw [← e, G.no] at ho; cases ho
theorem Gone.ne' {h : Heap} {a b : Nat} {l : List Nat} (G : Gone h a) (O : Old h l) (m : b ∈ l) : b ≠ a := Ne.symm (G.ne O m)
theorem gone_of {h : Heap} {l : List Addr} {a : Addr} (r : a ∈ l ∨ h.get? a = none) (n : a ∉ l) : Gone h a := ⟨r.resolve_left n⟩
end Mine
namespace Mine
theorem ChsIn.led {g h : Heap} {L : Addr} {m : Str → Option Value} {word : Str} {items : List Value} {cs : List Ch} {not not' : List Addr} {all : List (Addr × Obj)} (C : ChsIn g word items cs not) (F : Fr g L h m) (N : News g L h all) (hs : ∀ a ∈ not', ∃ o, (a, o) ∈ all) : ChsIn h word items cs not' :=
  ⟨C.1, fun i v c h1 h2 => let ⟨t, ot, a, _, c', d⟩ := C.2 i v c h1 h2; ⟨t, ot, a, (fun ht => by
    obtain ⟨o, ho⟩ := hs t ht
    have h9 := (N _ ho).2.2
    rw [c'] at h9; cases h9), F.keep _ _ c', d⟩⟩
theorem gone4 {h : Heap} {nw pl f fdx fd D dx : Nat} {a b c d e f' g : Obj} (hnd : [nw, pl, f, fdx, fd, D, dx].Nodup) (R : ∀ q ∈ [(nw, a), (pl, b), (f, c), (fdx, d), (fd, e), (D, f'), (dx, g)], q.1 ∈ [fd, D, dx] ∨ h.get? q.1 = none) :
    Gone h nw ∧ Gone h pl ∧ Gone h f ∧ Gone h fdx := by
  obtain ⟨⟨h1, h2, h3, h4, h5, h6⟩, ⟨i1, i2, i3, i4, i5⟩, ⟨j1, j2, j3, j4⟩, ⟨k1, k2, k3⟩, _⟩ := nod7' hnd
  refine ⟨⟨(R _ (.head _)).resolve_left fun q => ?_⟩, ⟨(R _ (.tail _ (.head _))).resolve_left fun q => ?_⟩, ⟨(R _ (.tail _ (.tail _ (.head _)))).resolve_left fun q => ?_⟩, ⟨(R _ (.tail _ (.tail _ (.tail _ (.head _))))).resolve_left fun q => ?_⟩⟩ <;>
    simp only [List.mem_cons, List.not_mem_nil, or_false] at q <;> rcases q with q | q | q <;> contradiction
end Mine
end
section
open PySem PySem.W PyProof.Rows PySem.Spec PySem.Calls
namespace Mine
def Halt (p : Prop) : Prop := p
theorem halt {p : Prop} (h : Halt p) : p := h
section
variable {prog : Program} {w : World} {A : Around} {s : Shared} {h₀ : Heap} {L : Addr} {m₀ : Str → Option Value} {news₀ : List (Addr × Obj)} {env : Env} {target : Expr} {body : List Stmt} {l : Addr} {vs : List Value} {x : Value} {R : Result → Shared → Prop}
theorem forCV (vars : List Str) (J : Addr → Nat → List (Addr × Obj) → Prop) (hh : A.handled = none) (F : Fr h₀ L s.heap m₀) (N : News h₀ L s.heap news₀) (hls : s.heap.IsList l vs.toArray)
    (hl : ∀ it i m n h, J it i n → Fr h₀ L h m → News h₀ L h n → h.IsList l vs.toArray) (hne : ∀ it i n, J it i n → ∀ q ∈ n, q.1 ≠ it)
    (hgo : ∀ (it : Addr) (i : Nat) (v : Value) (s : Shared) (Q : Unit → Shared → Prop), v ∈ vs → s.heap.IsListIter it l i → Q () s → wpAny (model prog w) A (letOwnedTupleGo target (.ref it) v) Q noE s)
    (h0 : ∀ it, (∀ q ∈ news₀, q.1 < it) → J it 0 news₀)
    (turn : ∀ it i v u n₁ h tk io, (∀ q ∈ news₀, q.1 < it) → vs[i]? = some v → J it i n₁ → Fr h₀ L h (over m₀ u vars) → News h₀ L h ((it, io) :: n₁) →
      wpAny (model prog w) A (assign target env v) (fun _ s₂ => wpC (model prog w) A (execs body env) (TurnC s h₀ L it io (fun m n => OffV vars m₀ m ∧ J it (i + 1) n) R) noE s₂) noE { s with heap := h, toks := tk })
    (done : ∀ it u n₁ h tk, (∀ q ∈ news₀, q.1 < it) → J it vs.length n₁ → Fr h₀ L h (over m₀ u vars) → News h₀ L h n₁ → R (.ok .next) { s with heap := h, toks := tk }) :
    wpAny (model prog w) A (pyIter (.ref l)) (fun it s₂ => codeC (model prog w) A (.forLoop target it body [] env) R s₂) noE s :=
  forC (fun it i m n => OffV vars m₀ m ∧ J it i n) hh F N hls (fun it i m n h j => hl it i m n h j.2) (fun it i m n j => hne it i n j.2) hgo (fun it hit => ⟨OffV.refl, h0 it hit⟩)
    (fun it i v m₁ n₁ h tk io hit hv j Fh Nh => turn it i v m₁ n₁ h tk io hit hv j.2 (j.1.eq ▸ Fh) Nh)
    (fun it m₁ n₁ h tk hit j Fh Nh => done it m₁ n₁ h tk hit j.2 (j.1.eq ▸ Fh) Nh)
theorem forAV (vars : List Str) (J : Addr → Nat → List (Addr × Obj) → Prop) {E : Value → Shared → Prop} (hh : A.handled = none) (F : Fr h₀ L s.heap m₀) (N : News h₀ L s.heap news₀) (hls : s.heap.IsList l vs.toArray)
    (hl : ∀ it i m n h, J it i n → Fr h₀ L h m → News h₀ L h n → h.IsList l vs.toArray) (hne : ∀ it i n, J it i n → ∀ q ∈ n, q.1 ≠ it)
    (hgo : ∀ (it : Addr) (i : Nat) (v : Value) (s : Shared) (Q : Unit → Shared → Prop) (E : Value → Shared → Prop), v ∈ vs → s.heap.IsListIter it l i → Q () s → wpAny (model prog w) A (letOwnedTupleGo target (.ref it) v) Q E s)
    (h0 : ∀ it, (∀ q ∈ news₀, q.1 < it) → J it 0 news₀)
    (turn : ∀ it i v u n₁ h tk io, (∀ q ∈ news₀, q.1 < it) → vs[i]? = some v → J it i n₁ → Fr h₀ L h (over m₀ u vars) → News h₀ L h ((it, io) :: n₁) →
      wpAny (model prog w) A (assign target env v) (fun _ s₂ => wpAny (model prog w) A (execs body env) (TurnC s h₀ L it io (fun m n => OffV vars m₀ m ∧ J it (i + 1) n) R) noE s₂) noE { s with heap := h, toks := tk })
    (done : ∀ it u n₁ h tk, (∀ q ∈ news₀, q.1 < it) → J it vs.length n₁ → Fr h₀ L h (over m₀ u vars) → News h₀ L h n₁ → R (.ok .next) { s with heap := h, toks := tk }) :
    wpAny (model prog w) A (pyIter (.ref l)) (fun it s₂ => codeAny (model prog w) A (.forLoop target it body [] env) R s₂) E s :=
  forA (fun it i m n => OffV vars m₀ m ∧ J it i n) hh F N hls (fun it i m n h j => hl it i m n h j.2) (fun it i m n j => hne it i n j.2) hgo (fun it hit => ⟨OffV.refl, h0 it hit⟩)
    (fun it i v m₁ n₁ h tk io hit hv j Fh Nh => turn it i v m₁ n₁ h tk io hit hv j.2 (j.1.eq ▸ Fh) Nh)
    (fun it m₁ n₁ h tk hit j Fh Nh => done it m₁ n₁ h tk hit j.2 (j.1.eq ▸ Fh) Nh)
theorem forC1V (vars : List Str) (P : Addr → List (Addr × Obj) → Prop) (hh : A.handled = none) (F : Fr h₀ L s.heap m₀) (N : News h₀ L s.heap news₀) (hls : ∃ k, (l, listOf #[x] k) ∈ news₀)
    (hl : ∀ it n, P it n → ∃ k, (l, listOf #[x] k) ∈ n) (hne : ∀ it n, P it n → ∀ q ∈ n, q.1 ≠ it)
    (hgo : ∀ (it : Addr) (i : Nat) (v : Value) (s : Shared) (Q : Unit → Shared → Prop), v ∈ [x] → s.heap.IsListIter it l i → Q () s → wpAny (model prog w) A (letOwnedTupleGo target (.ref it) v) Q noE s)
    (turn : ∀ it h tk io, (∀ q ∈ news₀, q.1 < it) → Fr h₀ L h m₀ → News h₀ L h ((it, io) :: news₀) →
      wpAny (model prog w) A (assign target env x) (fun _ s₂ => wpC (model prog w) A (execs body env) (TurnC s h₀ L it io (fun m n => OffV vars m₀ m ∧ P it n) R) noE s₂) noE { s with heap := h, toks := tk })
    (done : ∀ it u n₁ h tk, (∀ q ∈ news₀, q.1 < it) → P it n₁ → Fr h₀ L h (over m₀ u vars) → News h₀ L h n₁ → R (.ok .next) { s with heap := h, toks := tk }) :
    wpAny (model prog w) A (pyIter (.ref l)) (fun it s₂ => codeC (model prog w) A (.forLoop target it body [] env) R s₂) noE s :=
  forC1 (fun it m n => OffV vars m₀ m ∧ P it n) hh F N hls (fun it m n j => hl it n j.2) (fun it m n j => hne it n j.2) hgo turn
    (fun it m₁ n₁ h tk hit j Fh Nh => done it m₁ n₁ h tk hit j.2 (j.1.eq ▸ Fh) Nh)
/-- a ledger's part -/
theorem newsAll {h : Heap} {n n' : List (Addr × Obj)} (N : News h₀ L h n) (hs : ∀ q ∈ n', q ∈ n) : News h₀ L h n' := fun q hq => N q (hs q hq)
theorem Gone.off {h : Heap} {a : Nat} {l sub : List Nat} (G : Gone h a) (O : Old h l) (hs : ∀ b ∈ sub, b ∈ l) : a ∉ sub := fun q => G.ne O (hs a q) rfl
theorem led_has {all : List (Addr × Obj)} {a : Addr} {o : Obj} (h : (a, o) ∈ all) : ∃ o, (a, o) ∈ all := ⟨o, h⟩
theorem off7 {A : DS} {sub : List Nat} (h1 : A.nw ∉ sub) (h2 : A.pl ∉ sub) (h3 : A.f ∉ sub) (h4 : A.fdx ∉ sub) (h5 : A.fd ∉ sub) (h6 : A.D ∉ sub) (h7 : A.dx ∉ sub) : ∀ a ∈ A.all, a ∉ sub := by
  intro a ha
  simp only [DS.all, List.mem_cons, List.not_mem_nil, or_false] at ha
  rcases ha with rfl | rfl | rfl | rfl | rfl | rfl | rfl <;> assumption
end
end Mine
namespace Mine
section
variable {prog : Program} {w : World} {A : Around} {E : Value → Shared → Prop} {s : Shared} {value slice : PySem.Expr} {b : Array UInt8} {h₀ : Heap} {L a : Addr} {m : PySem.Str → Option Value} {news : List (Addr × Obj)} {Q : Value → Shared → Prop}
theorem slice_ba {hi : Int} {t1 t2 : Tok} (hF : Fr h₀ L s.heap m) (hN : News h₀ L s.heap news) (hm : (a, ba b) ∈ news) (hb : (b.size : Int) ≤ hi) (hz : b.size ≤ sizeLine)
    (h : ∀ x h', Fr h₀ L h' m → News h₀ L h' ((x, ba b) :: news) → (∀ q ∈ news, q.1 < x) → Q (.ref x) { s with heap := h' })
    (hs : subscripted slice false (.ref a) (.ref s.heap.objs.size) = operate [.ref s.heap.objs.size, .ref a] (getItem (.ref a) (.ref s.heap.objs.size)) := by with_unfolding_all rfl) :
    wpAny (model prog w) A (subscriptTail value slice (.ref a) (.ref s.heap.objs.size)) Q E { s with heap := s.heap.push { cls := .type "slice", data := .fields #[.int 0 t1, .int hi t2, .none] } } := by
  have ha := hN.get hm
  have hp : (s.heap.push { cls := .type "slice", data := .fields #[.int 0 t1, .int hi t2, .none] }).get? a = some (ba b) := Heap.get?_push_of_some _ ha
  refine tail_any (typeIs_ba hp) B.slot_getitem.lookup ?_ hs
  refine get_slice_all (s := { s with heap := s.heap.push _ }) hp (Heap.IsSliceOf.new _ _ _ _) hb hz ?_
  have F1 := hF.push ({ cls := .type "slice", data := .fields #[.int 0 t1, .int hi t2, .none] } : Obj)
  have N1 := News.pushKeep hN ({ cls := .type "slice", data := .fields #[.int 0 t1, .int hi t2, .none] } : Obj)
  exact h _ _ (F1.push (ba b)) (News.push F1 N1 (ba b)) fun q hq => Nat.lt_of_lt_of_le (Heap.lt_size (hN q hq).1) (by rw [Heap.size_push]; exact Nat.le_succ _)
end
end Mine
namespace Mine
theorem memS {x n p f g d D e : Addr × Obj} : ∀ q ∈ [n, x, f, g, d, D, e], q ∈ [x, n, p, f, g, d, D, e] := by
  intro q hq
  simp only [List.mem_cons, List.not_mem_nil, or_false] at hq ⊢
  rcases hq with h | h | h | h | h | h | h <;> simp [h]
end Mine
end
section
open PySem PySem.W PyProof.Rows PySem.Spec PySem.Calls
namespace Mine
section
variable {prog : Program} {w : World} {A : Around} {s : Shared} {h₀ : Heap} {L : Addr} {m₀ : Str → Option Value} {news₀ : List (Addr × Obj)} {env : Env} {target : Expr} {body : List Stmt} {r : Addr} {a b : Int} {t u v : Tok} {R : Result → Shared → Prop}
theorem forRA (vars : List Str) (cnt : Nat) (J : Addr → Nat → List (Addr × Obj) → Prop) {E : Value → Shared → Prop} (hh : A.handled = none) (F : Fr h₀ L s.heap m₀) (N : News h₀ L s.heap news₀) (hr : IsRange s.heap r a b 1 t u v) (hsm : Builtin.Range.small a b 1 = true) (hc : Builtin.Range.rangeSize a b 1 = cnt)
    (hne : ∀ it i n, J it i n → ∀ q ∈ n, q.1 ≠ it)
    (hgo : ∀ (it : Addr) (x : Int) (tx : Tok) (s : Shared) (Q : Unit → Shared → Prop) (E : Value → Shared → Prop), Q () s → wpAny (model prog w) A (letOwnedTupleGo target (.ref it) (.int x tx)) Q E s)
    (h0 : ∀ it, (∀ q ∈ news₀, q.1 < it) → J it 0 news₀)
    (turn : ∀ it i tx u n₁ h tk io, (∀ q ∈ news₀, q.1 < it) → i < cnt → J it i n₁ → Fr h₀ L h (over m₀ u vars) → News h₀ L h ((it, io) :: n₁) →
      wpAny (model prog w) A (assign target env (.int (a + i) tx)) (fun _ s₂ => wpAny (model prog w) A (execs body env) (TurnC s h₀ L it io (fun m n => OffV vars m₀ m ∧ J it (i + 1) n) R) noE s₂) noE { s with heap := h, toks := tk })
    (done : ∀ it u n₁ h tk, (∀ q ∈ news₀, q.1 < it) → J it cnt n₁ → Fr h₀ L h (over m₀ u vars) → News h₀ L h n₁ → R (.ok .next) { s with heap := h, toks := tk }) :
    wpAny (model prog w) A (pyIter (.ref r)) (fun it s₂ => codeAny (model prog w) A (.forLoop target it body [] env) R s₂) E s := by
  refine wpAny_pyIter_range hr hsm ?_
  have hlt : ∀ q ∈ news₀, q.1 < s.heap.objs.size := fun q hq => Heap.lt_size (N q hq).1
  refine codeAny_forLoop_any (fun n s' => ∃ i m₁ n₁ h tk io, n = cnt - i ∧ i ≤ cnt ∧ s' = { s with heap := h, toks := tk } ∧ Fr h₀ L h m₁ ∧ News h₀ L h ((s.heap.objs.size, io) :: n₁) ∧ IsRangeIter h s.heap.objs.size (a + i) ((cnt : Int) - i) 1 ∧ OffV vars m₀ m₁ ∧ J s.heap.objs.size i n₁)
    ?_ cnt ⟨0, m₀, news₀, _, s.toks, _, rfl, Nat.zero_le _, rfl, F.push _, N.push F _, ?_, OffV.refl, h0 _ hlt⟩
  · rintro n s' ⟨i, m₁, n₁, h, tk, io, rfl, hi, rfl, F₁, N₁, hit, hO, hJ⟩
    have hne₁ := hne _ _ _ hJ
    rcases Nat.lt_or_ge i cnt with hlt' | hge
    · refine wpAny_pyNext_range_item (s := { s with heap := h, toks := tk }) hit (by omega) fun h' hit' hs => ?_
      obtain ⟨F₂, N₂⟩ := it_next F₁ N₁ hne₁ hs.extBut
      have N₃ : News h₀ L h' ((s.heap.objs.size, _) :: n₁) := fun q hq => by
        rcases List.mem_cons.mp hq with rfl | hq
        · exact ⟨hit', (N₁ (s.heap.objs.size, io) (.head _)).2⟩
        · exact N₂ q hq
      refine hgo _ _ _ _ _ _ ?_
      refine wpAny_mono (turn _ i _ m₁ n₁ h' _ _ hlt hlt' hJ (hO.eq ▸ F₂) N₃) (fun _ s₂ h₂ => wpAny_mono h₂ (fun f s₃ h₃ => ?_) fun _ _ x => x.elim) fun _ _ x => x.elim
      have next : (∃ m' n' h'' tk', s₃ = { s with heap := h'', toks := tk' } ∧ Fr h₀ L h'' m' ∧ News h₀ L h'' ((s.heap.objs.size, { cls := .type "range_iterator", dict := none, data := .fields #[rawInt (a + i + 1), rawInt ((cnt : Int) - i - 1), rawInt 1], slots := #[] }) :: n') ∧ OffV vars m₀ m' ∧ J s.heap.objs.size (i + 1) n') →
          ∃ m, m < cnt - i ∧ ∃ i₁ m₁ n₁ h tk io, m = cnt - i₁ ∧ i₁ ≤ cnt ∧ s₃ = { s with heap := h, toks := tk } ∧ Fr h₀ L h m₁ ∧ News h₀ L h ((s.heap.objs.size, io) :: n₁) ∧ IsRangeIter h s.heap.objs.size (a + i₁) ((cnt : Int) - i₁) 1 ∧ OffV vars m₀ m₁ ∧ J s.heap.objs.size i₁ n₁ := by
        rintro ⟨m', n', h'', tk', rfl, F', N', hO', hJ'⟩
        refine ⟨cnt - (i + 1), by omega, i + 1, m', n', h'', tk', _, rfl, hlt', rfl, F', N', ?_, hO', hJ'⟩
        have e := (N' _ (.head _)).1
        have e1 : a + ((i + 1 : Nat) : Int) = a + i + 1 := by omega
        have e2 : (cnt : Int) - ((i + 1 : Nat) : Int) = (cnt : Int) - i - 1 := by omega
        rw [e1, e2]; exact e
      cases f with
      | next => exact next h₃
      | cont => exact next h₃
      | brk => exact h₃
      | ret v => exact h₃
    · obtain rfl : i = cnt := Nat.le_antisymm hi hge
      refine wpAny_pyNext_range_end (s := { s with heap := h, toks := tk }) hh hit (by omega) fun h' he => ?_
      obtain ⟨F₂, N₂⟩ := it_next F₁ N₁ hne₁ he
      exact wpAny_execs_nil (done _ m₁ n₁ h' tk hlt hJ (hO.eq ▸ F₂) N₂)
  · rw [hc]
    simp only [Int.natCast_zero, Int.add_zero, Int.sub_zero]
    exact Heap.get?_push_size _ rfl
end
end Mine
namespace Mine
/-- the octet at a place, the last change first -/
def octR (sy : Array UInt8) (place : Nat) : List Ch → Int
  | [] => if place < sy.size then (KBw.bInts sy).getD place 0 else 0
  | c :: r => if c.cut = true ∧ c.pl ≤ place then 0 else if c.cut = false ∧ c.pl ≤ place ∧ place < c.pl + c.os.size then (KBw.bInts c.os).getD (place - c.pl) 0 else octR sy place r
end Mine
namespace Mine
section
variable {prog : Program} {w : World} {A : Around} {E : Value → Shared → Prop} {s : Shared} {value slice : PySem.Expr} {g : Heap} {L l : Addr} {m : PySem.Str → Option Value} {items : List Value} {Q : Value → Shared → Prop}
theorem isList_kept {h h' : Heap} {a : Addr} {xs : Array Value} {l : List Addr} (I : h.IsList a xs) (K : Kept h h' l) (ha : a ∉ l) : h'.IsList a xs := by
  obtain ⟨o, ho, r⟩ := I
  exact ⟨o, K _ _ ha ho, r⟩
theorem len_lst (F : Fr g L s.heap m) (hL : g.IsList l items.toArray) (hn : items.length ≤ 1000) (h : Q (.int (items.length : Nat) (s.toks + 1)) { s with toks := s.toks + 1 + 1 }) :
    wpAny (model prog w) A (call (.builtin "len") [.ref l]) Q E s := by
  refine PyProof.Rows.len_list (hL.at fun o e => F.keep l o e) (by simp only [List.size_toArray]; omega) ?_
  simpa using h
theorem item_lst {k : Int} {u : Tok} {v : Value} (F : Fr g L s.heap m) (hL : g.IsList l items.toArray) (h0 : 0 ≤ k) (h1 : k ≤ 1000) (hx : items[k.toNat]? = some v) (h : Q v s)
    (hs : subscripted slice false (.ref l) (.int k u) = operate [.ref l, .int k u] (getItem (.ref l) (.int k u)) := by with_unfolding_all rfl) (hg : ∀ r, letTemporaryGo value (.ref l) r = pure () := by intro _; with_unfolding_all rfl) :
    wpAny (model prog w) A (subscriptTail value slice (.ref l) (.int k u)) Q E s :=
  PyProof.Rows.item_list (hL.at fun o e => F.keep l o e) h0 (by omega) (by simpa using hx) h hs hg
end
end Mine
namespace Mine
theorem rangeSize_up (a b : Int) : Builtin.Range.rangeSize a b 1 = ((b - a).toNat : Int) := by
  unfold Builtin.Range.rangeSize
  simp only [show ((1 : Int) > 0) by decide, if_true, Int.ediv_one]
  split <;> omega
theorem small_up {a b : Int} (ha : -1000000 ≤ a) (ha' : a < 1000000) (hb : -1000000 ≤ b) (hb' : b < 1000000) : Builtin.Range.small a b 1 = true := by
  unfold Builtin.Range.small
  rw [rangeSize_up]
  simp only [Builtin.Range.rangeFitsLong, Bool.and_eq_true, Bool.or_eq_true, decide_eq_true_eq, beq_iff_eq, show ((1 : Int) > 0) by decide, if_true]
  omega
section
variable {prog : Program} {w : World} {A : Around} {E : Value → Shared → Prop} {s : Shared} {value slice : PySem.Expr} {b : Array UInt8} {t ui : Tok} {i : Int} {Q : Value → Shared → Prop}
theorem item_by (hz : b.size ≤ 1000) (h0 : 0 ≤ i) (h1 : i < (b.size : Int))
    (h : ∀ t' k, 0 ≤ (KBw.bInts b).getD i.toNat 0 → (KBw.bInts b).getD i.toNat 0 < 256 → Q (.int ((KBw.bInts b).getD i.toNat 0) t') { s with toks := k })
    (hs : subscripted slice false (.bytes b t) (.int i ui) = operate [.bytes b t, .int i ui] (getItem (.bytes b t) (.int i ui)) := by with_unfolding_all rfl)
    (ht : ∀ r, letTemporaryGo value (.bytes b t) r = pure () := by intro _; with_unfolding_all rfl) : wpAny (model prog w) A (subscriptTail value slice (.bytes b t) (.int i ui)) Q E s :=
  KBw.item_K rfl (by rw [KBw.ints_length]; omega) h0 (by rw [KBw.ints_length]; exact h1) h hs ht
end
end Mine
namespace Mine
theorem TurnC.rt {s : Shared} {h₀ : Heap} {L it : Addr} {io : Obj} {J : (Str → Option Value) → List (Addr × Obj) → Prop} {R : Result → Shared → Prop} {v : Value} {s₃ : Shared} (h : R (.ok (.ret v)) s₃) : TurnC s h₀ L it io J R (.ret v) s₃ := h
end Mine
namespace Mine
theorem OffV.key {k : Str} {vars : List Str} {m₀ inner : Str → Option Value} {v : Option Value} (h : OffV (k :: vars) m₀ inner) : OffV vars (fun y => if y = k then v else m₀ y) (fun y => if y = k then v else inner y) := fun z hz => by
  by_cases e : z = k
  · simp only [e, if_true]
  · show (if z = k then v else inner z) = if z = k then v else m₀ z
    rw [if_neg e, if_neg e]
    exact h z fun q => by rcases List.mem_cons.mp q with q | q; exact e q; exact hz q
theorem OffV.under {k : Str} {vars : List Str} {m₀ u : Str → Option Value} {v : Option Value} : OffV (k :: vars) m₀ (Mine.over (fun y => if y = k then v else m₀ y) u vars) := fun z hz => by
  rw [over_off fun q => hz (.tail _ q)]
  exact if_neg fun e => hz (by rw [e]; exact .head _)
/-- the size that changes leave -/
def szAll (n : Nat) (l : List Ch) : Nat := l.foldl (fun n c => if c.cut then c.pl else max n (c.pl + c.os.size)) n
theorem szAll_take {n : Nat} {chs : List Ch} {i : Nat} {c : Ch} (h : chs[i]? = some c) : szAll n (chs.take (i + 1)) = (if c.cut then c.pl else max (szAll n (chs.take i)) (c.pl + c.os.size)) := by
  unfold szAll
  rw [List.take_add_one, h, List.foldl_append]
  rfl
theorem szAll_le {l : List Ch} (hl : ∀ c ∈ l, c.Ok) : ∀ {n : Nat}, n ≤ 25 → szAll n l ≤ 25 := by
  induction l with
  | nil => exact fun h => h
  | cons c r ih =>
    intro n hn
    have hc := hl c (.head _)
    have h1 := hc.pl
    have h2 := hc.most
    refine ih (fun x hx => hl x (.tail _ hx)) ?_
    dsimp only
    split
    · omega
    · exact Nat.max_le.mpr ⟨hn, by omega⟩
end Mine
namespace Mine
section
variable {prog : Program} {w : World} {A : Around} {s : Shared} {h₀ : Heap} {L : Addr} {m₀ : Str → Option Value} {news₀ : List (Addr × Obj)} {env : Env} {target : Expr} {body : List Stmt} {l : Addr} {vs : List Value} {R : Result → Shared → Prop} {v₀ : Value}
/-- a loop over a list that stores one name of its own -/
theorem forAK (k : Str) (vars : List Str) (val : Nat → Value → Prop) (J : Addr → Nat → List (Addr × Obj) → Prop) {E : Value → Shared → Prop} (hh : A.handled = none) (F : Fr h₀ L s.heap (fun y => if y = k then some v₀ else m₀ y)) (N : News h₀ L s.heap news₀) (hls : s.heap.IsList l vs.toArray)
    (hl : ∀ it i m n h, J it i n → Fr h₀ L h m → News h₀ L h n → h.IsList l vs.toArray) (hne : ∀ it i n, J it i n → ∀ q ∈ n, q.1 ≠ it)
    (hgo : ∀ (it : Addr) (i : Nat) (v : Value) (s : Shared) (Q : Unit → Shared → Prop) (E : Value → Shared → Prop), v ∈ vs → s.heap.IsListIter it l i → Q () s → wpAny (model prog w) A (letOwnedTupleGo target (.ref it) v) Q E s)
    (h0 : ∀ it, (∀ q ∈ news₀, q.1 < it) → J it 0 news₀) (hv : val 0 v₀)
    (turn : ∀ it i v u n₁ h tk io x, (∀ q ∈ news₀, q.1 < it) → vs[i]? = some v → J it i n₁ → val i x → Fr h₀ L h (over (fun y => if y = k then some x else m₀ y) u vars) → News h₀ L h ((it, io) :: n₁) →
      wpAny (model prog w) A (assign target env v) (fun _ s₂ => wpAny (model prog w) A (execs body env) (TurnC s h₀ L it io (fun m n => (∃ x', val (i + 1) x' ∧ OffV vars (fun y => if y = k then some x' else m₀ y) m) ∧ J it (i + 1) n) R) noE s₂) noE { s with heap := h, toks := tk })
    (done : ∀ it u n₁ h tk x, (∀ q ∈ news₀, q.1 < it) → J it vs.length n₁ → val vs.length x → Fr h₀ L h (over (fun y => if y = k then some x else m₀ y) u vars) → News h₀ L h n₁ → R (.ok .next) { s with heap := h, toks := tk }) :
    wpAny (model prog w) A (pyIter (.ref l)) (fun it s₂ => codeAny (model prog w) A (.forLoop target it body [] env) R s₂) E s :=
  forA (fun it i m n => (∃ x, val i x ∧ OffV vars (fun y => if y = k then some x else m₀ y) m) ∧ J it i n) hh F N hls (fun it i m n h j => hl it i m n h j.2) (fun it i m n j => hne it i n j.2) hgo (fun it hit => ⟨⟨_, hv, OffV.refl⟩, h0 it hit⟩)
    (fun it i v m₁ n₁ h tk io hit hx j Fh Nh => by obtain ⟨⟨x, hx', ho⟩, j⟩ := j; exact turn it i v m₁ n₁ h tk io x hit hx j hx' (ho.eq ▸ Fh) Nh)
    (fun it m₁ n₁ h tk hit j Fh Nh => by obtain ⟨⟨x, hx', ho⟩, j⟩ := j; exact done it m₁ n₁ h tk x hit j hx' (ho.eq ▸ Fh) Nh)
end
end Mine
namespace Mine
section
variable {prog : Program} {w : World} {A : Around} {s : Shared} {h₀ : Heap} {L : Addr} {m₀ : Str → Option Value} {news₀ : List (Addr × Obj)} {env : Env} {target : Expr} {body : List Stmt} {l : Addr} {vs : List Value} {R : Result → Shared → Prop} {v₀ : Value}
/-- the same, the ledger as it was -/
theorem forAK0 (k : Str) (vars : List Str) (val : Nat → Value → Prop) {E : Value → Shared → Prop} (hh : A.handled = none) (F : Fr h₀ L s.heap (fun y => if y = k then some v₀ else m₀ y)) (N : News h₀ L s.heap news₀) (hl : h₀.IsList l vs.toArray)
    (hgo : ∀ v ∈ vs, ∃ t, v = .ref t) (htup : ∃ es n pos, target = .Tuple es n pos) (hv : val 0 v₀)
    (turn : ∀ it i v u h tk io x, (∀ q ∈ news₀, q.1 < it) → vs[i]? = some v → val i x → Fr h₀ L h (over (fun y => if y = k then some x else m₀ y) u vars) → News h₀ L h ((it, io) :: news₀) →
      wpAny (model prog w) A (assign target env v) (fun _ s₂ => wpAny (model prog w) A (execs body env) (TurnC s h₀ L it io (fun m n => (∃ x', val (i + 1) x' ∧ OffV vars (fun y => if y = k then some x' else m₀ y) m) ∧ n = news₀) R) noE s₂) noE { s with heap := h, toks := tk })
    (done : ∀ u h tk x, val vs.length x → Fr h₀ L h (over (fun y => if y = k then some x else m₀ y) u vars) → News h₀ L h news₀ → R (.ok .next) { s with heap := h, toks := tk }) :
    wpAny (model prog w) A (pyIter (.ref l)) (fun it s₂ => codeAny (model prog w) A (.forLoop target it body [] env) R s₂) E s := by
  obtain ⟨es, n, pos, rfl⟩ := htup
  refine forAK k vars val (fun it i n => n = news₀ ∧ ∀ q ∈ news₀, q.1 < it) hh F N (hl.at fun o e => F.keep l o e) (fun it i m n h _ Fh _ => hl.at fun o e => Fh.keep l o e) ?_ ?_ (fun it hit => ⟨rfl, hit⟩) hv ?_ ?_
  · rintro it i n ⟨rfl, hlt⟩ q hq
    exact Nat.ne_of_lt (hlt q hq)
  · intro it i v s Q E hvv hit hq
    obtain ⟨t, rfl⟩ := hgo v hvv
    exact wpAny_letOwnedTupleGo_listiter hit hq
  · rintro it i v u n₁ h tk io x hit hx ⟨rfl, _⟩ hvx Fh Nh
    refine wpAny_mono (turn it i v u h tk io x hit hx hvx Fh Nh) (fun _ s₂ h₂ => wpAny_mono h₂ (fun f s₃ h₃ => ?_) fun _ _ x => x) fun _ _ x => x
    cases f with
    | next => obtain ⟨a, b, c, d, e, f, g, p, q⟩ := h₃; exact ⟨a, b, c, d, e, f, g, p, q, hit⟩
    | cont => obtain ⟨a, b, c, d, e, f, g, p, q⟩ := h₃; exact ⟨a, b, c, d, e, f, g, p, q, hit⟩
    | brk => exact h₃
    | ret v => exact h₃
  · rintro it u n₁ h tk x hit ⟨rfl, _⟩ hvx Fh Nh
    exact done u h tk x hvx Fh Nh
end
end Mine
namespace Mine
theorem ints_snoc {y : Int} {t : Tok} {vs : List Value} {ns : List Int} (h : IntsAre vs ns) : IntsAre (vs ++ [.int y t]) (ns ++ [y]) := h.append (.cons y t .nil)
section
variable {prog : Program} {w : World} {A : Around} {h₀ : Heap} {L : Addr} {m : Str → Option Value} {env : Env} {elt : Expr} {x : Str} {scope : Scope} {cl : List (Str × Addr)} {s : Shared} {S : List (Addr × Obj) → Prop} {P : Nat → Value → Prop} {Fin : List Value → List (Addr × Obj) → Prop} {news : List (Addr × Obj)}
/-- a comprehension by an invariant over its list and the ledger -/
theorem comp_J {n : Nat} (J : Nat → List Value → List (Addr × Obj) → Prop) (h0 : J 0 [] news)
    (turn : ∀ i v I oI C oC D m₂ ys nw h tk (E' : Value → Shared → Prop), i < n → P i v → J i ys nw → LCg.NsObj oC m₂ → m₂ x = some v → Fr h₀ L h m → News h₀ L h ((I, oI) :: (C, oC) :: (D, LCg.lst ys) :: nw) → LCg.Off3 I C D nw → ((@Ne Nat I C) ∧ (@Ne Nat I D) ∧ (@Ne Nat C D)) →
      wpAny (model prog w) A (eval elt (compEnvC scope cl C env)) (LCg.CompEnd h₀ L m { s with heap := h, toks := tk } I oI C oC D (LCg.lst ys) S (fun y nw' => J (i + 1) (ys ++ [y]) nw')) E' { s with heap := h, toks := tk })
    (fin : ∀ ys nw, J n ys nw → Fin ys nw) : LCg.CompRest prog w A h₀ L m env elt x scope cl s S P Fin n 0 [] news := by
  have key : ∀ (j i : Nat) (ys : List Value) (nw : List (Addr × Obj)), i + j = n → J i ys nw → LCg.CompRest prog w A h₀ L m env elt x scope cl s S P Fin j i ys nw := by
    intro j
    induction j with
    | zero =>
      intro i ys nw hi hy
      obtain rfl : i = n := by omega
      exact LCg.CompRest.zero (fin ys nw hy)
    | succ j ih =>
      intro i ys nw hi hy
      refine LCg.CompRest.succ ?_
      intro v I oI C oC D m₂ h tk E' hv hC hx F N off ne
      refine wpAny_mono (turn i v I oI C oC D m₂ ys nw h tk E' (by omega) hv hy hC hx F N off ne) (fun y s₂ hq => ?_) fun _ _ e => e
      obtain ⟨h', tk', nw', e, F', N', off', hS, hj⟩ := hq
      exact ⟨h', tk', nw', e, F', N', off', hS, ih (i + 1) _ _ (by omega) hj⟩
  exact key n 0 [] news (by omega) h0
end
theorem octR_in (sy : Array UInt8) (place : Nat) : ∀ l : List Ch, 0 ≤ octR sy place l ∧ octR sy place l < 256
  | [] => by
    unfold octR
    split
    · exact KBw.getD_in fun k hk => KBw.ints_in hk
    · decide
  | c :: r => by
    unfold octR
    split
    · decide
    · split
      · exact KBw.getD_in fun k hk => KBw.ints_in hk
      · exact octR_in sy place r
/-- the octets due, place by place -/
def dueO (sy : Array UInt8) (chs : List Ch) : Array UInt8 := byteArr ((List.range (szAll sy.size chs)).map fun j => octR sy j chs.reverse)
end Mine
namespace Mine
/-- the tuples of changes, in the old heap or in the ledger -/
def ChsG (g : Heap) (tups : List (Addr × Obj)) (word : Str) (items : List Value) (cs : List Ch) : Prop :=
  items.length = cs.length ∧ ∀ (i : Nat) (v : Value) (c : Ch), items[i]? = some v → cs[i]? = some c → ∃ t ot, v = .ref t ∧ (g.get? t = some ot ∨ (t, ot) ∈ tups) ∧ TupO word c ot ∧ c.Ok
theorem ChsG.snoc {g : Heap} {tups tups' : List (Addr × Obj)} {word : Str} {items : List Value} {cs : List Ch} {t : Addr} {ot : Obj} {c : Ch} (C : ChsG g tups word items cs) (hs : ∀ q ∈ tups, q ∈ tups') (ht : g.get? t = some ot ∨ (t, ot) ∈ tups') (hw : TupO word c ot) (ok : c.Ok) :
    ChsG g tups' word (items ++ [.ref t]) (cs ++ [c]) := by
  refine ⟨by simp [C.1], fun i v c' h1 h2 => ?_⟩
  rcases Nat.lt_or_ge i items.length with h | h
  · rw [List.getElem?_append_left h] at h1
    rw [List.getElem?_append_left (C.1 ▸ h)] at h2
    obtain ⟨t', ot', a, b, d⟩ := C.2 i v c' h1 h2
    exact ⟨t', ot', a, b.imp id (hs _), d⟩
  · rw [List.getElem?_append_right h] at h1
    rw [List.getElem?_append_right (C.1 ▸ h), ← C.1] at h2
    rcases hi : i - items.length with _ | n
    · rw [hi] at h1 h2
      obtain rfl := Option.some.inj h1
      obtain rfl := Option.some.inj h2
      exact ⟨t, ot, rfl, ht, hw, ok⟩
    · rw [hi] at h1; simp at h1
theorem ChsG.grow {g : Heap} {tups tups' : List (Addr × Obj)} {word : Str} {items : List Value} {cs : List Ch} (C : ChsG g tups word items cs) (hs : ∀ q ∈ tups, q ∈ tups') : ChsG g tups' word items cs :=
  ⟨C.1, fun i v c h1 h2 => let ⟨t, ot, a, b, d⟩ := C.2 i v c h1 h2; ⟨t, ot, a, b.imp id (hs _), d⟩⟩
/-- a ledger's tuples, at hand in the heap -/
theorem ChsG.here {g h : Heap} {L : Addr} {m : Str → Option Value} {tups all : List (Addr × Obj)} {word : Str} {items : List Value} {cs : List Ch} {not : List Addr} (C : ChsG g tups word items cs) (F : Fr g L h m) (N : News g L h all) (hs : ∀ q ∈ tups, q ∈ all) (hn : ∀ a ∈ not, (∃ o, (a, o) ∈ all) ∧ ∀ q ∈ tups, q.1 ≠ a) : ChsIn h word items cs not :=
  ⟨C.1, fun i v c h1 h2 => by
    obtain ⟨t, ot, rfl, hb, d⟩ := C.2 i v c h1 h2
    rcases hb with hb | hb
    · refine ⟨t, ot, rfl, fun ht => ?_, F.keep _ _ hb, d⟩
      obtain ⟨⟨o, ho⟩, _⟩ := hn t ht
      rw [(N _ ho).2.2] at hb
      cases hb
    · exact ⟨t, ot, rfl, fun ht => (hn t ht).2 _ hb rfl, (N _ (hs _ hb)).1, d⟩⟩
theorem leftOne_ok {sec : Nat} {k : Int} {c c' : Ch} (ok : c.Ok) (h : leftOne sec k c = some c') : c'.Ok := by
  unfold leftOne at h
  split at h
  · obtain rfl := Option.some.inj h; exact ok
  · split at h
    · rename_i hh
      split at h
      · cases h
      · rename_i hs
        obtain rfl := Option.some.inj h
        refine ⟨ok.pl, fun e => ?_, fun _ => Nat.pos_of_ne_zero hs, ?_⟩
        · rw [hh.2] at e; cases e
        · have := ok.most
          simp only [Array.size_extract]
          omega
    · cases h
end Mine
namespace Mine
theorem secs_eq' (n sec : Nat) (h1 : 1 ≤ n) (hs : 1 ≤ sec) : ((n : Int) + sec - 1).fdiv sec = (((n + sec - 1) / sec : Nat) : Int) := by
  rw [Int.fdiv_eq_ediv_of_nonneg _ (by omega), Int.natCast_ediv]
  congr 1
  omega
theorem secs_pos (n sec : Nat) (h1 : 1 ≤ n) (hs : 1 ≤ sec) : 1 ≤ ((n : Int) + sec - 1).fdiv sec := by
  rw [secs_eq' n sec h1 hs]
  have hp : 1 ≤ (n + sec - 1) / sec := (Nat.one_le_div_iff (by omega)).mpr (by omega)
  omega
theorem hi_nonneg' (k : Int) (n sec : Nat) (hk : 0 ≤ k) (h1 : 1 ≤ n) (hs : 1 ≤ sec) : 0 ≤ (k.fdiv 4).fmod (((n : Int) + sec - 1).fdiv sec) * sec := by
  have hp := secs_pos n sec h1 hs
  exact Int.mul_nonneg (fmod_lo _ (by omega)) (by omega)
theorem left_odd {sec : Nat} {k : Int} {c : Ch} (hk : 0 ≤ k) (h : k.fmod 2 = 1) : leftOne sec k c = some c := by
  rw [Int.fmod_eq_emod_of_nonneg _ (by omega)] at h
  unfold leftOne
  rw [if_pos h]
theorem left_even {sec : Nat} {k : Int} {c : Ch} (hk : 0 ≤ k) (h : k.fmod 2 ≠ 1) (h4 : k.fmod 4 ≠ 2) : leftOne sec k c = none := by
  rw [Int.fmod_eq_emod_of_nonneg _ (by omega)] at h h4
  unfold leftOne
  rw [if_neg h, if_neg (fun e => h4 e.1)]
theorem left_torn' {sec : Nat} {k : Int} {pl : Nat} {os : Array UInt8} (hk : 0 ≤ k) (h1 : 1 ≤ os.size) (hs : 1 ≤ sec) (h : k.fmod 4 = 2) :
    leftOne sec k ⟨false, pl, os⟩ = (if (os.extract 0 ((k.fdiv 4).fmod (((os.size : Int) + sec - 1).fdiv sec) * sec).toNat).size = 0 then none
      else some ⟨false, pl, os.extract 0 ((k.fdiv 4).fmod (((os.size : Int) + sec - 1).fdiv sec) * sec).toNat⟩) := by
  rw [secs_eq' os.size sec h1 hs, Int.fdiv_eq_ediv_of_nonneg _ (by omega), Int.fmod_eq_emod_of_nonneg _ (Int.natCast_nonneg _)]
  rw [Int.fmod_eq_emod_of_nonneg _ (by omega)] at h
  unfold leftOne
  rw [if_neg (by omega), if_pos ⟨h, rfl⟩]
theorem num_at {ns : List Int} {i n : Nat} (h : ns ≠ []) (hn : n = ns.length) : num ns i = ns.getD ((i : Int).fmod (n : Int)).toNat 0 := by
  subst hn
  unfold num
  rw [if_neg h, Int.fmod_eq_emod_of_nonneg _ (by omega), ← Int.natCast_emod, Int.toNat_natCast]
theorem num_nil {ns : List Int} {i : Nat} (h : ns = []) : num ns i = 0 := by unfold num; rw [if_pos h]
theorem memT {a b c d : Addr × Obj} {r : List (Addr × Obj)} : ∀ q ∈ c :: d :: a :: r, q ∈ a :: b :: c :: d :: r := fun q hq => by
  simp only [List.mem_cons] at hq ⊢
  rcases hq with h | h | h | h <;> simp [h]
theorem toList_ne {o : Array UInt8} (h : (o.toList != #[].toList) = true) : o.size ≠ 0 := fun e => by
  rw [Array.eq_empty_of_size_eq_zero e] at h
  exact absurd h (by decide)
theorem toList_eq {o : Array UInt8} (h : (o.toList != #[].toList) = false) : o.size = 0 := by
  simp only [bne_eq_false_iff_eq] at h
  have := congrArg List.length h
  simpa using this
end Mine
namespace Mine
theorem applyAll_take {sy : Array UInt8} {chs : List Ch} {i : Nat} {c : Ch} (h : chs[i]? = some c) : applyAll sy (chs.take (i + 1)) = apply1 (applyAll sy (chs.take i)) c := by
  rw [List.take_add_one, h, applyAll_app]
  rfl
end Mine
namespace Mine
theorem TurnC.nxV {s : Shared} {h₀ : Heap} {L it : Addr} {io : Obj} {vars : List Str} {m₀ : Str → Option Value} {J : List (Addr × Obj) → Prop} {R : Result → Shared → Prop} {m' : Str → Option Value} {n' : List (Addr × Obj)} {h' : Heap} {tk' : Nat} (F : Fr h₀ L h' m') (N : News h₀ L h' ((it, io) :: n')) (o : OffV vars m₀ m') (j : J n') :
    TurnC s h₀ L it io (fun m n => OffV vars m₀ m ∧ J n) R .next { s with heap := h', toks := tk' } := ⟨m', n', h', tk', rfl, F, N, o, j⟩
end Mine
end
section
open PySem PySem.W PyProof.Rows PySem.Spec PySem.Calls
namespace Mine
/-- two parts of a ledger that share no place -/
def Dis (a b : List (Addr × Obj)) : Prop := ∀ p ∈ a, ∀ q ∈ b, p.1 ≠ q.1
theorem Dis.symm {a b : List (Addr × Obj)} (h : Dis a b) : Dis b a := fun p hp q hq e => h q hq p hp e.symm
theorem Dis.sub {a b a' b' : List (Addr × Obj)} (h : Dis a b) (ha : ∀ q ∈ a', q ∈ a) (hb : ∀ q ∈ b', q ∈ b) : Dis a' b' := fun p hp q hq => h p (ha p hp) q (hb q hq)
theorem Dis.app {a b c : List (Addr × Obj)} (h1 : Dis a b) (h2 : Dis a c) : Dis a (b ++ c) := fun p hp q hq => by
  rcases List.mem_append.mp hq with h | h
  · exact h1 p hp q h
  · exact h2 p hp q h
theorem Dis.l {a b c : List (Addr × Obj)} (h : Dis a (b ++ c)) : Dis a b := h.sub (fun _ h => h) fun _ h => List.mem_append_left _ h
theorem Dis.r {a b c : List (Addr × Obj)} (h : Dis a (b ++ c)) : Dis a c := h.sub (fun _ h => h) fun _ h => List.mem_append_right _ h
theorem Dis.off {a b : List (Addr × Obj)} (h : Dis a b) : ∀ q ∈ b, q.1 ∉ addrs a := fun q hq hm => by
  obtain ⟨p, hp, e⟩ := List.mem_map.mp hm
  exact h p hp q hq e
theorem Dis.lt {x : Addr} {o : Obj} {a : List (Addr × Obj)} (h : ∀ q ∈ a, q.1 < x) : Dis [(x, o)] a := fun p hp q hq => by
  rcases List.mem_singleton.mp hp with rfl
  exact Nat.ne_of_gt (h q hq)
section
variable {w : World} {p : Program} {loose : List Str} {mean : ExcName → Option Value} {mg mb : Str → Option Value} {f : Addr} {vs : List Value} {news : List (Addr × Obj)} {d u : Nat} {pre : Heap → Prop} {post : Heap → Heap → Value → List (Addr × Obj) → Prop}
  {dp un : Nat} {cn : Str} {cs : Scope} {a : Addr} {ccd : Value} {cl : List (Str × Addr)} {outer : List Env} {A₀ : Around} {base h₀ : Heap} {L : Addr} {m : Str → Option Value} {s : Shared} {Q E : Value → Shared → Prop}
theorem dis_new {h : Heap} {news news' rest : List (Addr × Obj)} (N : News h₀ L h rest) (D : Dis news rest) (R : ∀ q ∈ news', q.1 ∈ addrs news ∨ h.get? q.1 = none) : Dis news' rest := fun p hp q hq e => by
  rcases R p hp with h | h
  · exact D.off q hq (e ▸ h)
  · rw [e, (N q hq).1] at h; cases h
theorem useAB {all rest : List (Addr × Obj)} (H : ConA w p loose mean mg mb f vs news d u pre post) (D : Dis news rest) (hs : ∀ q ∈ news ++ rest, q ∈ all) (B : Below A₀ base outer h₀) (F : Fr h₀ L s.heap m) (X : (hd.heap_1 w.params).In h₀) (N : News h₀ L s.heap all) (T : Top p loose mean mg mb h₀) (hk : cs.kind = .function)
    (hp : pre s.heap) (hd : dp + d < recursionLimit) (hu : un + u < cLine)
    (k : ∀ v news' h' tk', Fr h₀ L h' m → News h₀ L h' (news' ++ rest) → Dis news' rest → (∀ q ∈ news', q.1 ∈ addrs news ∨ s.heap.get? q.1 = none) → post s.heap h' v news' → Q v { s with heap := h', toks := tk' }) :
    wpAny (model PySem.Challenge.rw_xm0759_01.row.toRowW.prog w) (ktrTop dp un (some []) cn cs L a ccd cl outer) (call (.ref f) vs) Q E s :=
  useA H B F X (newsAll N hs) T hk hp hd hu (fun q hq => List.mem_append_left _ hq) (fun q hq => ⟨List.mem_append_right _ hq, D.off q hq⟩)
    fun v news' h' tk' F' N' R' K' P' => k v news' h' tk' F' N' (dis_new (fun q hq => N q (hs q (List.mem_append_right _ hq))) D R') R' P'
theorem useCB {all rest : List (Addr × Obj)} (H : ConC w p loose mean mg mb f vs news d u pre post) (D : Dis news rest) (hs : ∀ q ∈ news ++ rest, q ∈ all) (B : Below A₀ base outer h₀) (F : Fr h₀ L s.heap m) (X : (hd.heap_1 w.params).In h₀) (N : News h₀ L s.heap all) (T : Top p loose mean mg mb h₀) (hk : cs.kind = .function)
    (hp : pre s.heap) (hd : dp + d < recursionLimit) (hu : un + u < cLine)
    (k : ∀ v news' h' tk', Fr h₀ L h' m → News h₀ L h' (news' ++ rest) → Dis news' rest → (∀ q ∈ news', q.1 ∈ addrs news ∨ s.heap.get? q.1 = none) → post s.heap h' v news' → Q v { s with heap := h', toks := tk' }) :
    wpC (model PySem.Challenge.rw_xm0759_01.row.toRowW.prog w) (ktrTop dp un (some []) cn cs L a ccd cl outer) (call (.ref f) vs) Q E s :=
  useC H B F X (newsAll N hs) T hk hp hd hu (fun q hq => List.mem_append_left _ hq) (fun q hq => ⟨List.mem_append_right _ hq, D.off q hq⟩)
    fun v news' h' tk' F' N' R' K' P' => k v news' h' tk' F' N' (dis_new (fun q hq => N q (hs q (List.mem_append_right _ hq))) D R') R' P'
end
section
variable {w : World} {prog : Program} {A : DS} {sec : Int} {sy now : Array UInt8} {items : List Value} {l all : List (Addr × Obj)} {Ar : Around} {E : Value → Shared → Prop} {g : Heap} {L : Addr} {m : Str → Option Value} {s : Shared} {K : Frag} {pl : Sem Bool} {Q : Value × List Value → Shared → Prop} {name : Str} {fn : Addr}
theorem meth_file (H : DiskIs w A sec sy now items l) (hs : ∀ q ∈ l, q ∈ all) (F : Fr g L s.heap m) (N : News g L s.heap all) (X₀ : K.In g) (hg : plainGet K 266 name = true)
    (hf : findIn K (.ref 266) name = some (some (.ref fn))) (ht : isFn K (.ref fn) = true) (hl : ∀ a b c d e : Value × Tok, getL name [ent w (Str.ofString "disk") a.1 a.2, ent w (Str.ofString "name") b.1 b.2, ent w (Str.ofString "synced") c.1 c.2, ent w (Str.ofString "pending") d.1 d.2, ent w (Str.ofString "now") e.1 e.2] = some none)
    (h : Q (.ref fn, [.ref A.f]) s) : wpAny (model prog w) Ar (getMethod (.ref A.f) name pl) Q E s := by
  obtain ⟨n, ofx, ofd, od, rfl, ⟨tn, ty, t1, t2, t3, t4, t5, rfl⟩, hofd, lo, hod, hnd⟩ := H
  have N' := newsAll N hs
  exact method_inst F X₀ (InstAt.of_news N' (.tail _ (.tail _ (.head _))) (.tail _ (.tail _ (.tail _ (.head _))))) hg hf ht (hl (_, _) (_, _) (_, _) (_, _) (_, _)) h
theorem meth_disk (H : DiskIs w A sec sy now items l) (hs : ∀ q ∈ l, q ∈ all) (F : Fr g L s.heap m) (N : News g L s.heap all) (X₀ : K.In g) (hg : plainGet K 372 name = true)
    (hf : findIn K (.ref 372) name = some (some (.ref fn))) (ht : isFn K (.ref fn) = true) (hl : ∀ a b c d e f g : Value × Tok, getL name [ent w (Str.ofString "sector") a.1 a.2, ent w (Str.ofString "room") b.1 b.2, ent w (Str.ofString "files") c.1 c.2, ent w (Str.ofString "steps") d.1 d.2, ent w (Str.ofString "crash_at") e.1 e.2, ent w (Str.ofString "shared") f.1 f.2, ent w (Str.ofString "locks") g.1 g.2] = some none)
    (h : Q (.ref fn, [.ref A.D]) s) : wpAny (model prog w) Ar (getMethod (.ref A.D) name pl) Q E s := by
  obtain ⟨n, ofx, ofd, od, rfl, hfx, hofd, lo, ⟨ts, st, tst, sh, lk, t1, t2, t3, t4, t5, t6, t7, rfl⟩, hnd⟩ := H
  have N' := newsAll N hs
  exact method_inst F X₀ (InstAt.of_news N' (.tail _ (.tail _ (.tail _ (.tail _ (.tail _ (.head _)))))) (.tail _ (.tail _ (.tail _ (.tail _ (.tail _ (.tail _ (.head _)))))))) hg hf ht (hl (_, _) (_, _) (_, _) (_, _) (_, _) (_, _) (_, _)) h
theorem meth_diskD {D dx fd : Addr} {od : Obj} (H : DiskD w sec fd od) (h1 : (D, instObj 372 dx) ∈ all) (h2 : (dx, od) ∈ all) (F : Fr g L s.heap m) (N : News g L s.heap all) (X₀ : K.In g) (hg : plainGet K 372 name = true)
    (hf : findIn K (.ref 372) name = some (some (.ref fn))) (ht : isFn K (.ref fn) = true) (hl : ∀ a b c d e f g : Value × Tok, getL name [ent w (Str.ofString "sector") a.1 a.2, ent w (Str.ofString "room") b.1 b.2, ent w (Str.ofString "files") c.1 c.2, ent w (Str.ofString "steps") d.1 d.2, ent w (Str.ofString "crash_at") e.1 e.2, ent w (Str.ofString "shared") f.1 f.2, ent w (Str.ofString "locks") g.1 g.2] = some none)
    (h : Q (.ref fn, [.ref D]) s) : wpAny (model prog w) Ar (getMethod (.ref D) name pl) Q E s := by
  obtain ⟨ts, st, tst, sh, lk, t1, t2, t3, t4, t5, t6, t7, rfl⟩ := H
  exact method_inst F X₀ (InstAt.of_news N h1 h2) hg hf ht (hl (_, _) (_, _) (_, _) (_, _) (_, _) (_, _) (_, _)) h
end
theorem Dis.head {a : Addr} {o o' : Obj} {r : List (Addr × Obj)} (h : Dis [(a, o)] r) : Dis [(a, o')] r := fun p hp q hq => by
  rcases List.mem_singleton.mp hp with rfl
  exact h (a, o) (.head _) q hq
theorem dis1 {a b : Addr} {o o' : Obj} (h : a ≠ b) : Dis [(a, o)] [(b, o')] := fun p hp q hq => by
  rcases List.mem_singleton.mp hp with rfl
  rcases List.mem_singleton.mp hq with rfl
  exact h
theorem Dis.nil {r : List (Addr × Obj)} : Dis [] r := fun _ h => nomatch h
end Mine
namespace Mine
theorem off3_of {I C D : Addr} : ∀ {l : List (Addr × Obj)}, (∀ p ∈ l, p.1 ≠ I ∧ p.1 ≠ C ∧ p.1 ≠ D) → LCg.Off3 I C D l
  | [], _ => trivial
  | p :: _, h => ⟨h p (.head _), off3_of fun q hq => h q (.tail _ hq)⟩
theorem off3_cons {I C D : Addr} {x : Addr × Obj} {l : List (Addr × Obj)} (h : x.1 ≠ I ∧ x.1 ≠ C ∧ x.1 ≠ D) (o : LCg.Off3 I C D l) : LCg.Off3 I C D (x :: l) := ⟨h, o⟩
theorem off1_of {D : Addr} {o : Obj} : ∀ {l : List (Addr × Obj)}, LCg.Off1 D l → Dis [(D, o)] l
  | [], _ => fun _ _ _ hq => nomatch hq
  | p :: r, h => fun a ha q hq => by
    rcases List.mem_singleton.mp ha with rfl
    rcases List.mem_cons.mp hq with rfl | hq
    · exact fun e => h.1 e.symm
    · exact off1_of (o := o) h.2 _ (.head _) q hq
theorem mSw {a b : Addr × Obj} {r : List (Addr × Obj)} : ∀ q ∈ [b] ++ (a :: r), q ∈ a :: b :: r := fun q hq => by
  simp only [List.mem_append, List.mem_cons, List.not_mem_nil, or_false] at hq ⊢
  rcases hq with h | h | h <;> simp [h]
theorem mL {x y : Addr × Obj} {l R : List (Addr × Obj)} : ∀ q ∈ l ++ (x :: y :: R), q ∈ x :: y :: (l ++ R) := fun q hq => by
  simp only [List.mem_append, List.mem_cons] at hq ⊢
  rcases hq with h | h | h | h <;> simp [h]
theorem mL' {x y : Addr × Obj} {l R : List (Addr × Obj)} : ∀ q ∈ x :: y :: (l ++ R), q ∈ l ++ (x :: y :: R) := fun q hq => by
  simp only [List.mem_append, List.mem_cons] at hq ⊢
  rcases hq with h | h | h | h <;> simp [h]
/-- a ledger in parts: a cell, the source, a disk, what is only read -/
structure Led (c : Addr × Obj) (src : Addr) (l R : List (Addr × Obj)) : Prop where
  ds : ∀ q ∈ c :: (l ++ R), q.1 ≠ src
  dl : Dis l (c :: R)
theorem Led.S {c : Addr × Obj} {src : Addr} {l R : List (Addr × Obj)} (h : Led c src l R) {o : Obj} : Dis [(src, o)] (c :: (l ++ R)) := fun p hp q hq e => by
  rcases List.mem_singleton.mp hp with rfl
  exact h.ds q hq e.symm
theorem Led.L {c : Addr × Obj} {src : Addr} {l R : List (Addr × Obj)} (h : Led c src l R) {o : Obj} : Dis l (c :: (src, o) :: R) := fun p hp q hq e => by
  rcases List.mem_cons.mp hq with rfl | hq
  · exact h.dl p hp _ (.head _) e
  · rcases List.mem_cons.mp hq with rfl | hq
    · exact h.ds p (.tail _ (List.mem_append_left _ hp)) e
    · exact h.dl p hp q (.tail _ hq) e
theorem Led.disk {c : Addr × Obj} {src : Addr} {o : Obj} {l l' R : List (Addr × Obj)} (h : Led c src l R) (d : Dis l' (c :: (src, o) :: R)) : Led c src l' R :=
  ⟨fun q hq => by
    rcases List.mem_cons.mp hq with rfl | hq
    · exact h.ds _ (.head _)
    · rcases List.mem_append.mp hq with hq | hq
      · exact d q hq _ (.tail _ (.head _))
      · exact h.ds q (.tail _ (List.mem_append_right _ hq)), d.sub (fun _ h => h) fun q hq => by
    rcases List.mem_cons.mp hq with rfl | hq
    · exact .head _
    · exact .tail _ (.tail _ hq)⟩
theorem Led.read {c : Addr × Obj} {src : Addr} {o : Obj} {l R N' : List (Addr × Obj)} (h : Led c src l R) (d : Dis N' (c :: (src, o) :: (l ++ R))) : Led c src l (N' ++ R) :=
  ⟨fun q hq => by
    rcases List.mem_cons.mp hq with rfl | hq
    · exact h.ds _ (.head _)
    · rcases List.mem_append.mp hq with hq | hq
      · exact h.ds q (.tail _ (List.mem_append_left _ hq))
      · rcases List.mem_append.mp hq with hq | hq
        · exact d q hq _ (.tail _ (.head _))
        · exact h.ds q (.tail _ (List.mem_append_right _ hq)), fun p hp q hq => by
    rcases List.mem_cons.mp hq with rfl | hq
    · exact h.dl p hp _ (.head _)
    · rcases List.mem_append.mp hq with hq | hq
      · exact fun e => d q hq p (.tail _ (.tail _ (List.mem_append_left _ hp))) e.symm
      · exact h.dl p hp q (.tail _ hq)⟩
theorem Led.less {c : Addr × Obj} {src : Addr} {l R R' : List (Addr × Obj)} (h : Led c src l R) (hs : ∀ q ∈ R', q ∈ R) : Led c src l R' :=
  ⟨fun q hq => by
    rcases List.mem_cons.mp hq with rfl | hq
    · exact h.ds _ (.head _)
    · rcases List.mem_append.mp hq with hq | hq
      · exact h.ds q (.tail _ (List.mem_append_left _ hq))
      · exact h.ds q (.tail _ (List.mem_append_right _ (hs q hq))), h.dl.sub (fun _ h => h) fun q hq => by
    rcases List.mem_cons.mp hq with rfl | hq
    · exact .head _
    · exact .tail _ (hs q hq)⟩
end Mine
namespace Mine
theorem mSw' {a b : Addr × Obj} {r : List (Addr × Obj)} : ∀ q ∈ a :: b :: r, q ∈ [b] ++ (a :: r) := fun q hq => by
  simp only [List.mem_append, List.mem_cons, List.not_mem_nil, or_false] at hq ⊢
  rcases hq with h | h | h <;> simp [h]
theorem Led.mk0 {c : Addr × Obj} {src : Addr} {o : Obj} {l : List (Addr × Obj)} (hc : c.1 ≠ src) (D : Dis l (c :: [(src, o)])) : Led c src l [] :=
  ⟨fun q hq => by
    rcases List.mem_cons.mp hq with rfl | hq
    · exact hc
    · rw [List.append_nil] at hq
      exact D q hq _ (.tail _ (.head _)), D.sub (fun _ h => h) fun q hq => by
    rcases List.mem_cons.mp hq with rfl | hq
    · exact .head _
    · cases hq⟩
theorem allLt_mem {d : Addr} : ∀ {l : List (Addr × Obj)}, AllLt d l → ∀ q ∈ l, q.1 < d
  | [], _ => fun _ h => nomatch h
  | _ :: _, h => fun q hq => by
    rcases List.mem_cons.mp hq with rfl | hq
    · exact h.1
    · exact allLt_mem h.2 q hq
theorem padTo_zero : padTo #[] 0 = #[] := rfl
theorem putO_empty (o : Array UInt8) : putO #[] 0 o = o := by
  unfold putO putAt
  rw [padTo_zero]
  simp
end Mine
namespace Mine
theorem mOne {s b i c d x : Addr × Obj} {r : List (Addr × Obj)} : ∀ q ∈ [s, b] ++ (i :: c :: d :: x :: r), q ∈ b :: i :: c :: d :: x :: s :: r := fun q hq => by
  simp only [List.cons_append, List.nil_append, List.mem_cons] at hq ⊢
  rcases hq with h | h | h | h | h | h | h <;> simp [h]
theorem mOne' {s b i c d x : Addr × Obj} {r : List (Addr × Obj)} : ∀ q ∈ i :: c :: d :: x :: s :: r, q ∈ [s, b] ++ (i :: c :: d :: x :: r) := fun q hq => by
  simp only [List.cons_append, List.nil_append, List.mem_cons] at hq ⊢
  rcases hq with h | h | h | h | h | h <;> simp [h]
theorem mTk {s i c d x : Addr × Obj} {r : List (Addr × Obj)} : ∀ q ∈ [s] ++ (i :: c :: d :: x :: r), q ∈ i :: c :: d :: x :: s :: r := fun q hq => by
  simp only [List.cons_append, List.nil_append, List.mem_cons] at hq ⊢
  rcases hq with h | h | h | h | h | h <;> simp [h]
theorem mTk' {s i c d x : Addr × Obj} {r : List (Addr × Obj)} : ∀ q ∈ i :: c :: d :: x :: s :: r, q ∈ [s] ++ (i :: c :: d :: x :: r) := fun q hq => by
  simp only [List.cons_append, List.nil_append, List.mem_cons] at hq ⊢
  rcases hq with h | h | h | h | h | h <;> simp [h]
theorem mCg {t s i c d x : Addr × Obj} {l R : List (Addr × Obj)} : ∀ q ∈ i :: c :: d :: x :: s :: (l ++ (t :: R)), q ∈ [t, s] ++ (i :: c :: d :: x :: (l ++ R)) := fun q hq => by
  simp only [List.cons_append, List.nil_append, List.mem_cons, List.mem_append] at hq ⊢
  rcases hq with h | h | h | h | h | h | h | h <;> simp [h]
theorem Dis.two {a b : Addr × Obj} {r : List (Addr × Obj)} (h1 : Dis [a] r) (h2 : Dis [b] r) : Dis [a, b] r := fun p hp q hq => by
  rcases List.mem_cons.mp hp with rfl | hp
  · exact h1 _ (.head _) q hq
  · rcases List.mem_singleton.mp hp with rfl
    exact h2 _ (.head _) q hq
/-- the source apart from a comprehension's own places -/
theorem srcOff {src I C D : Addr} {o oI oC oD : Obj} {x : Addr × Obj} {r : List (Addr × Obj)} (off : LCg.Off3 I C D (x :: (src, o) :: r)) (S : ∀ q ∈ x :: r, q.1 ≠ src) : Dis [(src, o)] ((I, oI) :: (C, oC) :: (D, oD) :: x :: r) := fun p hp q hq => by
  rcases List.mem_singleton.mp hp with rfl
  have o2 := off.2.1
  rcases List.mem_cons.mp hq with rfl | hq
  · exact o2.1
  · rcases List.mem_cons.mp hq with rfl | hq
    · exact o2.2.1
    · rcases List.mem_cons.mp hq with rfl | hq
      · exact o2.2.2
      · exact fun e => S q hq e.symm
end Mine
namespace Mine
theorem mSkip {s i c d x : Addr × Obj} {r : List (Addr × Obj)} : ∀ q ∈ i :: c :: d :: x :: r, q ∈ i :: c :: d :: x :: s :: r := fun q hq => by
  simp only [List.mem_cons] at hq ⊢
  rcases hq with h | h | h | h | h <;> simp [h]
end Mine
namespace Mine
/-- a heap without objects -/
def noH : Heap := { objs := #[] }
theorem noH_get (a : Addr) : noH.get? a = none := by
  cases h : noH.get? a with
  | none => rfl
  | some o => exact absurd (Heap.lt_size h) (Nat.not_lt_zero _)
theorem ChsG.any {g : Heap} {R : List (Addr × Obj)} {word : Str} {items : List Value} {cs : List Ch} (h : ChsG noH R word items cs) : ChsG g R word items cs :=
  ⟨h.1, fun i v c h1 h2 => let ⟨t, ot, a, b, d⟩ := h.2 i v c h1 h2; ⟨t, ot, a, .inr (b.resolve_left (fun e => by rw [noH_get] at e; cases e)), d⟩⟩
theorem ChsG.at {R : List (Addr × Obj)} {word : Str} {items : List Value} {cs : List Ch} {i : Nat} {v : Value} {c : Ch} (h : ChsG noH R word items cs) (h1 : items[i]? = some v) (h2 : cs[i]? = some c) : ∃ t ot, v = .ref t ∧ (t, ot) ∈ R ∧ TupO word c ot ∧ c.Ok :=
  let ⟨t, ot, a, b, d⟩ := h.2 i v c h1 h2
  ⟨t, ot, a, b.resolve_left (fun e => by rw [noH_get] at e; cases e), d⟩
theorem ChsG.pickv {R : List (Addr × Obj)} {word : Str} {items : List Value} {cs : List Ch} {i : Nat} {v : Value} (h : ChsG noH R word items cs) (hv : items[i]? = some v) :
    ∃ t cut pl os ta tb tc, v = .ref t ∧ cs[i]? = some ⟨cut, pl, os⟩ ∧ (t, tupOf #[.str (if cut then word else Str.ofString "write") ta, .int (pl : Nat) tb, .bytes os tc]) ∈ R ∧ Ch.Ok ⟨cut, pl, os⟩ := by
  have hi : i < cs.length := h.1 ▸ (List.getElem?_eq_some_iff.mp hv).1
  obtain ⟨t, ot, rfl, hot, ⟨ta, tb, tc, rfl⟩, hok⟩ := h.at hv (List.getElem?_eq_getElem hi)
  exact ⟨t, _, _, _, ta, tb, tc, rfl, List.getElem?_eq_getElem hi, hot, hok⟩
theorem DiskIs.addrs {w : World} {A : DS} {sec : Int} {sy now : Array UInt8} {items : List Value} {l : List (Addr × Obj)} (h : DiskIs w A sec sy now items l) : ∀ q ∈ l, q.1 ∈ A.all := by
  obtain ⟨n, ofx, ofd, od, rfl, _⟩ := h
  intro q hq
  simp only [List.mem_cons, List.not_mem_nil, or_false] at hq
  rcases hq with rfl | rfl | rfl | rfl | rfl | rfl | rfl <;> simp [DS.all]
theorem DiskIs.has {w : World} {A : DS} {sec : Int} {sy now : Array UInt8} {items : List Value} {l : List (Addr × Obj)} (h : DiskIs w A sec sy now items l) : ∀ a ∈ A.all, ∃ o, (a, o) ∈ l := by
  obtain ⟨n, ofx, ofd, od, rfl, _⟩ := h
  intro a ha
  simp only [DS.all, List.mem_cons, List.not_mem_nil, or_false] at ha
  rcases ha with rfl | rfl | rfl | rfl | rfl | rfl | rfl
  · exact ⟨_, .head _⟩
  · exact ⟨_, .tail _ (.head _)⟩
  · exact ⟨_, .tail _ (.tail _ (.head _))⟩
  · exact ⟨_, .tail _ (.tail _ (.tail _ (.head _)))⟩
  · exact ⟨_, .tail _ (.tail _ (.tail _ (.tail _ (.head _))))⟩
  · exact ⟨_, .tail _ (.tail _ (.tail _ (.tail _ (.tail _ (.head _)))))⟩
  · exact ⟨_, .tail _ (.tail _ (.tail _ (.tail _ (.tail _ (.tail _ (.head _))))))⟩
/-- a step of the disk within a loop: the disk's part and its new tuple -/
theorem Led.turn {c : Addr × Obj} {src : Addr} {o ot io : Obj} {x it : Addr} {l l' R : List (Addr × Obj)} (h : Led c src l R) (D : Dis ((x, ot) :: l') ((it, io) :: c :: (src, o) :: R)) (hx : ∀ q ∈ l', q.1 ≠ x) : Led c src l' ((x, ot) :: R) := by
  have d1 : Led c src l' R := h.disk (o := o) (D.sub (fun _ h => .tail _ h) fun _ h => .tail _ h)
  refine d1.read (N' := [(x, ot)]) (o := o) fun p hp q hq => ?_
  rcases List.mem_singleton.mp hp with rfl
  rcases List.mem_cons.mp hq with rfl | hq
  · exact D _ (.head _) _ (.tail _ (.head _))
  · rcases List.mem_cons.mp hq with rfl | hq
    · exact D _ (.head _) _ (.tail _ (.tail _ (.head _)))
    · rcases List.mem_append.mp hq with hq | hq
      · exact fun e => hx q hq e.symm
      · exact D _ (.head _) _ (.tail _ (.tail _ (.tail _ hq)))
theorem Led.it {c : Addr × Obj} {src : Addr} {o io : Obj} {it : Addr} {l R : List (Addr × Obj)} (h : Led c src l R) (hn : ∀ q ∈ c :: (src, o) :: (l ++ R), q.1 ≠ it) : Dis l ((it, io) :: c :: (src, o) :: R) := fun p hp q hq => by
  rcases List.mem_cons.mp hq with rfl | hq
  · exact hn p (.tail _ (.tail _ (List.mem_append_left _ hp)))
  · exact h.L p hp q hq
theorem mTn {t i c s : Addr × Obj} {l R : List (Addr × Obj)} : ∀ q ∈ l ++ (i :: c :: s :: R), q ∈ t :: i :: c :: s :: (l ++ R) := fun q hq => by
  simp only [List.mem_append, List.mem_cons] at hq ⊢
  rcases hq with h | h | h | h | h <;> simp [h]
theorem mTe {x i c s : Addr × Obj} {l R : List (Addr × Obj)} : ∀ q ∈ i :: c :: s :: (l ++ (x :: R)), q ∈ (x :: l) ++ (i :: c :: s :: R) := fun q hq => by
  simp only [List.cons_append, List.mem_append, List.mem_cons] at hq ⊢
  rcases hq with h | h | h | h | h | h <;> simp [h]
theorem nexIt {x it : Addr} {ot io o : Obj} {c : Addr × Obj} {src : Addr} {l l' R : List (Addr × Obj)} (D : Dis ((x, ot) :: l') ((it, io) :: c :: (src, o) :: R)) (hn : ∀ q ∈ c :: (src, o) :: (l ++ R), q.1 ≠ it) : ∀ q ∈ c :: (src, o) :: (l' ++ ((x, ot) :: R)), q.1 ≠ it := fun q hq => by
  rcases List.mem_cons.mp hq with rfl | hq
  · exact hn _ (.head _)
  · rcases List.mem_cons.mp hq with rfl | hq
    · exact hn _ (.tail _ (.head _))
    · rcases List.mem_append.mp hq with hq | hq
      · exact D q (.tail _ hq) _ (.head _)
      · rcases List.mem_cons.mp hq with rfl | hq
        · exact D _ (.head _) _ (.head _)
        · exact hn q (.tail _ (.tail _ (List.mem_append_right _ hq)))
end Mine
end
section
open PySem PySem.W PyProof.Rows PySem.Spec PySem.Calls
namespace Mine
/-- the octet at a place, 0 past the end -/
def oc (b : Array UInt8) (j : Nat) : UInt8 := b.toList[j]?.getD 0
theorem oc_pad (b : Array UInt8) (n j : Nat) : oc (padTo b n) j = oc b j := by
  unfold oc padTo
  rw [Array.toList_append, Array.toList_replicate, List.getElem?_append]
  split
  · rfl
  · rw [List.getElem?_replicate, List.getElem?_eq_none (by omega : b.toList.length ≤ j)]
    split <;> rfl
theorem oc_cut (b : Array UInt8) (n j : Nat) : oc (cutO b n) j = if n ≤ j then 0 else oc b j := by
  unfold cutO
  split
  · unfold oc
    rw [List.getElem?_take]
    by_cases h : n ≤ j
    · rw [if_neg (by omega), if_pos h]; rfl
    · rw [if_pos (by omega), if_neg h]
  · rename_i h
    rw [oc_pad]
    split
    · unfold oc
      rw [List.getElem?_eq_none (by rw [Array.length_toList]; omega)]
      rfl
    · rfl
theorem oc_putAt (P : Array UInt8) (n j : Nat) (o : Array UInt8) (hn : n ≤ P.size) : oc (putAt P n o) j = if n ≤ j ∧ j < n + o.size then oc o (j - n) else oc P j := by
  unfold oc putAt
  have hP : P.toList.length = P.size := Array.length_toList
  have ho : o.toList.length = o.size := Array.length_toList
  simp only [Array.toList_append, Array.toList_extract, List.extract_eq_take_drop, List.drop_zero, Nat.sub_zero]
  rw [List.getElem?_append, List.getElem?_append]
  simp only [List.length_append, List.length_take, hP, ho, Nat.min_eq_left hn]
  by_cases h1 : j < n + o.size
  · rw [if_pos h1]
    by_cases h2 : j < n
    · rw [if_pos h2, if_neg (by omega), List.getElem?_take, if_pos h2]
    · rw [if_neg h2, if_pos (by omega)]
  · rw [if_neg h1, if_neg (by omega), List.getElem?_take, List.getElem?_drop]
    split
    · rw [show n + o.size + (j - (n + o.size)) = j by omega]
    · rw [List.getElem?_eq_none (by omega : P.toList.length ≤ j)]
theorem oc_ints (b : Array UInt8) (j : Nat) : (KBw.bInts b).getD j 0 = ((oc b j).toNat : Int) := by
  unfold KBw.bInts oc
  rw [List.getD_eq_getElem?_getD, List.getElem?_map]
  cases b.toList[j]? <;> rfl
theorem oc_one (b : Array UInt8) (c : Ch) (j : Nat) : oc (apply1 b c) j = if c.cut = true ∧ c.pl ≤ j then 0 else if c.cut = false ∧ c.pl ≤ j ∧ j < c.pl + c.os.size then oc c.os (j - c.pl) else oc b j := by
  unfold apply1
  cases hc : c.cut
  · simp only [Bool.false_eq_true, if_false, false_and, true_and]
    unfold putO
    rw [oc_putAt _ _ _ _ (by rw [size_padTo]; omega), oc_pad]
  · simp only [if_true, true_and, Bool.true_eq_false, false_and, if_false]
    exact oc_cut _ _ _
theorem oc_all (sy : Array UInt8) (j : Nat) : ∀ r : List Ch, octR sy j r = ((oc (applyAll sy r.reverse) j).toNat : Int)
  | [] => by
    unfold octR
    split
    · exact oc_ints _ _
    · show _ = ((oc sy j).toNat : Int)
      unfold oc
      rw [List.getElem?_eq_none (by rw [Array.length_toList]; omega)]
      rfl
  | c :: r => by
    unfold octR
    rw [List.reverse_cons]
    unfold applyAll
    rw [List.foldl_append]
    show _ = ((oc (apply1 (applyAll sy r.reverse) c) j).toNat : Int)
    rw [oc_one, oc_all sy j r]
    split
    · rfl
    · split
      · exact oc_ints _ _
      · rfl
theorem size_all (b : Array UInt8) : ∀ cs : List Ch, (applyAll b cs).size = szAll b.size cs := fun cs => by
  induction cs generalizing b with
  | nil => rfl
  | cons c r ih =>
    show (applyAll (apply1 b c) r).size = _
    rw [ih]
    unfold szAll
    rw [List.foldl_cons]
    congr 1
    unfold apply1
    cases c.cut
    · simp only [Bool.false_eq_true, if_false]
      rw [size_putO]
      rcases Nat.le_total b.size (c.pl + c.os.size) with h | h
      · rw [Nat.max_eq_right h]; omega
      · rw [Nat.max_eq_left h]; omega
    · simp only [if_true]
      rw [size_cutO]
theorem applyAll_due (sy : Array UInt8) (cs : List Ch) (hok : ∀ c ∈ cs, c.Ok) : applyAll sy cs = dueO sy cs := by
  unfold dueO byteArr
  apply Array.ext'
  refine List.ext_getElem? fun j => ?_
  simp only [List.getElem?_map]
  rcases Nat.lt_or_ge j (applyAll sy cs).size with h | h
  · rw [List.getElem?_range (by rw [← size_all]; exact h)]
    simp only [Option.map_some]
    rw [oc_all, List.reverse_reverse, Int.toNat_natCast]
    unfold oc
    have hl : j < (applyAll sy cs).toList.length := by rw [Array.length_toList]; exact h
    rw [List.getElem?_eq_getElem hl]
    simp
  · rw [List.getElem?_eq_none (by rw [Array.length_toList]; exact h), List.getElem?_eq_none (by rw [List.length_range, ← size_all]; exact h)]
    rfl
theorem leftFrom_one (sec : Nat) : ∀ (i : Nat) (cs : List Ch), leftFrom sec [1] i cs = cs
  | _, [] => rfl
  | i, c :: r => by
    unfold leftFrom
    have e : num [1] i = 1 := by
      unfold num
      rw [if_neg (by simp)]
      have h : i % ([1] : List Int).length = 0 := by
        show i % 1 = 0
        exact Nat.mod_one i
      rw [h]; rfl
    rw [e, left_odd (by decide) (by decide), leftFrom_one sec (i + 1) r]
    rfl
theorem leftFrom_none (sec : Nat) : ∀ (i : Nat) (cs : List Ch), leftFrom sec [] i cs = []
  | _, [] => rfl
  | i, c :: r => by
    unfold leftFrom
    rw [num_nil rfl, left_even (by decide) (by decide) (by decide), leftFrom_none sec (i + 1) r]
    rfl
theorem leftFrom_len (sec : Nat) (ns : List Int) : ∀ (i : Nat) (cs : List Ch), (leftFrom sec ns i cs).length ≤ cs.length
  | _, [] => Nat.le_refl _
  | i, c :: r => by
    unfold leftFrom
    have := leftFrom_len sec ns (i + 1) r
    rw [List.length_append, List.length_cons]
    cases leftOne sec (num ns i) c <;> simp <;> omega
theorem leftFrom_ok (sec : Nat) (ns : List Int) : ∀ (i : Nat) (cs : List Ch), (∀ c ∈ cs, c.Ok) → ∀ c ∈ leftFrom sec ns i cs, c.Ok
  | _, [], _ => fun _ h => nomatch h
  | i, c :: r, hok => fun c' hc' => by
    unfold leftFrom at hc'
    rcases List.mem_append.mp hc' with h | h
    · cases hl : leftOne sec (num ns i) c with
      | none => rw [hl] at h; cases h
      | some x =>
        rw [hl] at h
        rcases List.mem_singleton.mp h with rfl
        exact leftOne_ok (hok c (.head _)) hl
    · exact leftFrom_ok sec ns (i + 1) r (fun c hc => hok c (.tail _ hc)) c' h
theorem ChsIn.toG {g h : Heap} {L : Addr} {word : Str} {items : List Value} {cs : List Ch} {R all : List (Addr × Obj)} (C : ChsIn h word items cs []) (N : News g L h all) (hR : ∀ q ∈ R, q ∈ all) (hv : ∀ v ∈ items, ∃ t ot, v = .ref t ∧ (t, ot) ∈ R) : ChsG noH R word items cs :=
  ⟨C.1, fun i v c h1 h2 => by
    obtain ⟨t, ot, rfl, _, hg, d⟩ := C.2 i v c h1 h2
    obtain ⟨t', ot', e, hm⟩ := hv _ (List.mem_of_getElem? h1)
    obtain rfl : t = t' := by injection e
    have := (N _ (hR _ hm)).1
    rw [hg] at this
    obtain rfl := Option.some.inj this
    exact ⟨t, ot, rfl, .inr hm, d⟩⟩
theorem ChsG.ok {R : List (Addr × Obj)} {word : Str} {items : List Value} {cs : List Ch} (h : ChsG noH R word items cs) : ∀ c ∈ cs, c.Ok := fun c hc => by
  obtain ⟨j, hj, rfl⟩ := List.getElem_of_mem hc
  obtain ⟨_, _, _, _, _, ok⟩ := h.at (List.getElem?_eq_getElem (h.1 ▸ hj)) (List.getElem?_eq_getElem hj)
  exact ok
theorem ChsG.val {R : List (Addr × Obj)} {word : Str} {items : List Value} {cs : List Ch} (h : ChsG noH R word items cs) : ∀ v ∈ items, ∃ t ot, v = .ref t ∧ (t, ot) ∈ R := fun v hv => by
  obtain ⟨j, hj, rfl⟩ := List.getElem_of_mem hv
  obtain ⟨t, ot, e, m, _⟩ := h.at (List.getElem?_eq_getElem hj) (List.getElem?_eq_getElem (h.1 ▸ hj))
  exact ⟨t, ot, e, m⟩
theorem DiskIs.not {w : World} {A : DS} {sec : Int} {sy now : Array UInt8} {items : List Value} {l R : List (Addr × Obj)} (h : DiskIs w A sec sy now items l) (D : Dis l R) : ∀ a ∈ A.all, ∀ q ∈ R, q.1 ≠ a := fun a ha q hq e => by
  obtain ⟨o, ho⟩ := h.has a ha
  exact D _ ho q hq e.symm
theorem dis_off {l r : List (Addr × Obj)} {la lb : List Addr} (hl : ∀ q ∈ l, q.1 ∈ la) (hr : ∀ q ∈ r, q.1 ∈ lb) (h : ∀ a ∈ la, a ∉ lb) : Dis l r := fun p hp q hq e => h _ (hl p hp) (e ▸ hr q hq)
end Mine
namespace Mine
theorem same_ne {α : Type} [BEq α] [LawfulBEq α] {x : α} (h : (x != x) = true) : False := by simp at h
theorem mB {a b r : List (Addr × Obj)} : ∀ q ∈ b ++ (a ++ r), q ∈ a ++ (b ++ r) := fun q hq => by
  simp only [List.mem_append] at hq ⊢
  rcases hq with h | h | h <;> simp [h]
theorem mB1 {x : Addr × Obj} {a b r : List (Addr × Obj)} : ∀ q ∈ (x :: b) ++ (a ++ r), q ∈ x :: (a ++ (b ++ r)) := fun q hq => by
  simp only [List.cons_append, List.mem_cons, List.mem_append] at hq ⊢
  rcases hq with h | h | h | h <;> simp [h]
/-- what a survivor leaves, in parts -/
theorem mSv {x : Addr × Obj} {c a b r : List (Addr × Obj)} : ∀ q ∈ c ++ ((x :: b) ++ (a ++ r)), q ∈ (c ++ (x :: b)) ++ (a ++ r) := fun q hq => by
  simp only [List.cons_append, List.mem_cons, List.mem_append] at hq ⊢
  rcases hq with h | h | h | h | h <;> simp [h]
theorem mSw2 {x : Addr × Obj} {c a b r : List (Addr × Obj)} : ∀ q ∈ a ++ (b ++ r), q ∈ c ++ ((x :: b) ++ (a ++ r)) := fun q hq => by
  simp only [List.cons_append, List.mem_cons, List.mem_append] at hq ⊢
  rcases hq with h | h | h <;> simp [h]
theorem hnot_of {w : World} {A : DS} {sec : Int} {sy now : Array UInt8} {items : List Value} {l R all : List (Addr × Obj)} {x : Addr} {ox : Obj} (h : DiskIs w A sec sy now items l) (hl : ∀ q ∈ l, q ∈ all) (hx : (x, ox) ∈ all) (D : Dis l R) (D1 : ∀ q ∈ R, q.1 ≠ x) : ∀ a ∈ x :: A.all, (∃ o, (a, o) ∈ all) ∧ ∀ q ∈ R, q.1 ≠ a := fun a ha => by
  rcases List.mem_cons.mp ha with rfl | ha
  · exact ⟨⟨_, hx⟩, D1⟩
  · exact ⟨(h.has a ha).imp fun o e => hl _ e, h.not D a ha⟩
theorem notAll {w : World} {A : DS} {sec : Int} {sy now : Array UInt8} {items : List Value} {l : List (Addr × Obj)} {x : Addr} (h : DiskIs w A sec sy now items l) (hx : ∀ q ∈ l, q.1 ≠ x) : x ∉ A.all := fun e => by
  obtain ⟨o, ho⟩ := h.has x e
  exact hx _ ho rfl
/-- a survivor's part, off all the others -/
theorem svDis {w : World} {A A' : DS} {sec : Int} {sy now sy' now' : Array UInt8} {items items' : List Value} {l l' r : List (Addr × Obj)} {x : Addr} {ox : Obj} (h : DiskIs w A sec sy now items l) (h' : DiskIs w A' sec sy' now' items' l') (off : ∀ a ∈ A'.all, a ∉ x :: A.all) (D : Dis (l' ++ ((x, ox) :: l)) r) : Dis l' (((x, ox) :: l) ++ r) :=
  Dis.app (dis_off h'.addrs (fun q hq => by
    rcases List.mem_cons.mp hq with rfl | hq
    · exact .head _
    · exact .tail _ (h.addrs q hq)) off) (D.sub (fun _ h => List.mem_append_left _ h) fun _ h => h)
theorem mRot {x y : Addr × Obj} {l r : List (Addr × Obj)} : ∀ q ∈ (x :: l) ++ (y :: r), q ∈ x :: ((y :: l) ++ r) := fun q hq => by
  simp only [List.cons_append, List.mem_cons, List.mem_append] at hq ⊢
  rcases hq with h | h | h | h <;> simp [h]
end Mine
end
section
open PySem PySem.W PyProof.Rows PySem.Spec PySem.Calls
namespace Mine
section
variable {prog : Program} {w : World} {A : Around} {s : Shared} {h₀ : Heap} {L : Addr} {m₀ : Str → Option Value} {news₀ : List (Addr × Obj)} {env : Env} {target : Expr} {body : List Stmt} {r : Addr} {a b : Int} {t u v : Tok} {R : Result → Shared → Prop}
theorem forRC (vars : List Str) (cnt : Nat) (J : Addr → Nat → List (Addr × Obj) → Prop) (hh : A.handled = none) (F : Fr h₀ L s.heap m₀) (N : News h₀ L s.heap news₀) (hr : IsRange s.heap r a b 1 t u v) (hsm : Builtin.Range.small a b 1 = true) (hc : Builtin.Range.rangeSize a b 1 = cnt)
    (hne : ∀ it i n, J it i n → ∀ q ∈ n, q.1 ≠ it)
    (hgo : ∀ (it : Addr) (x : Int) (tx : Tok) (s : Shared) (Q : Unit → Shared → Prop), Q () s → wpAny (model prog w) A (letOwnedTupleGo target (.ref it) (.int x tx)) Q noE s)
    (h0 : ∀ it, (∀ q ∈ news₀, q.1 < it) → J it 0 news₀)
    (turn : ∀ it i tx u n₁ h tk io, (∀ q ∈ news₀, q.1 < it) → i < cnt → J it i n₁ → Fr h₀ L h (over m₀ u vars) → News h₀ L h ((it, io) :: n₁) →
      wpAny (model prog w) A (assign target env (.int (a + i) tx)) (fun _ s₂ => wpC (model prog w) A (execs body env) (TurnC s h₀ L it io (fun m n => OffV vars m₀ m ∧ J it (i + 1) n) R) noE s₂) noE { s with heap := h, toks := tk })
    (done : ∀ it u n₁ h tk, (∀ q ∈ news₀, q.1 < it) → J it cnt n₁ → Fr h₀ L h (over m₀ u vars) → News h₀ L h n₁ → R (.ok .next) { s with heap := h, toks := tk }) :
    wpAny (model prog w) A (pyIter (.ref r)) (fun it s₂ => codeC (model prog w) A (.forLoop target it body [] env) R s₂) noE s := by
  refine wpAny_pyIter_range hr hsm ?_
  have hlt : ∀ q ∈ news₀, q.1 < s.heap.objs.size := fun q hq => Heap.lt_size (N q hq).1
  refine codeC_forLoop (fun n s' => ∃ i m₁ n₁ h tk io, n = cnt - i ∧ i ≤ cnt ∧ s' = { s with heap := h, toks := tk } ∧ Fr h₀ L h m₁ ∧ News h₀ L h ((s.heap.objs.size, io) :: n₁) ∧ IsRangeIter h s.heap.objs.size (a + i) ((cnt : Int) - i) 1 ∧ OffV vars m₀ m₁ ∧ J s.heap.objs.size i n₁)
    ?_ cnt ⟨0, m₀, news₀, _, s.toks, _, rfl, Nat.zero_le _, rfl, F.push _, N.push F _, ?_, OffV.refl, h0 _ hlt⟩
  · rintro n s' ⟨i, m₁, n₁, h, tk, io, rfl, hi, rfl, F₁, N₁, hit, hO, hJ⟩
    have hne₁ := hne _ _ _ hJ
    rcases Nat.lt_or_ge i cnt with hlt' | hge
    · refine wpAny_pyNext_range_item (s := { s with heap := h, toks := tk }) hit (by omega) fun h' hit' hs => ?_
      obtain ⟨F₂, N₂⟩ := it_next F₁ N₁ hne₁ hs.extBut
      have N₃ : News h₀ L h' ((s.heap.objs.size, _) :: n₁) := fun q hq => by
        rcases List.mem_cons.mp hq with rfl | hq
        · exact ⟨hit', (N₁ (s.heap.objs.size, io) (.head _)).2⟩
        · exact N₂ q hq
      refine hgo _ _ _ _ _ ?_
      refine wpAny_mono (turn _ i _ m₁ n₁ h' _ _ hlt hlt' hJ (hO.eq ▸ F₂) N₃) (fun _ s₂ h₂ => wpC_mono h₂ (fun f s₃ h₃ => ?_) fun _ _ x => x) fun _ _ x => x
      have next : (∃ m' n' h'' tk', s₃ = { s with heap := h'', toks := tk' } ∧ Fr h₀ L h'' m' ∧ News h₀ L h'' ((s.heap.objs.size, { cls := .type "range_iterator", dict := none, data := .fields #[rawInt (a + i + 1), rawInt ((cnt : Int) - i - 1), rawInt 1], slots := #[] }) :: n') ∧ OffV vars m₀ m' ∧ J s.heap.objs.size (i + 1) n') →
          ∃ m, m < cnt - i ∧ ∃ i₁ m₁ n₁ h tk io, m = cnt - i₁ ∧ i₁ ≤ cnt ∧ s₃ = { s with heap := h, toks := tk } ∧ Fr h₀ L h m₁ ∧ News h₀ L h ((s.heap.objs.size, io) :: n₁) ∧ IsRangeIter h s.heap.objs.size (a + i₁) ((cnt : Int) - i₁) 1 ∧ OffV vars m₀ m₁ ∧ J s.heap.objs.size i₁ n₁ := by
        rintro ⟨m', n', h'', tk', rfl, F', N', hO', hJ'⟩
        refine ⟨cnt - (i + 1), by omega, i + 1, m', n', h'', tk', _, rfl, hlt', rfl, F', N', ?_, hO', hJ'⟩
        have e := (N' _ (.head _)).1
        have e1 : a + ((i + 1 : Nat) : Int) = a + i + 1 := by omega
        have e2 : (cnt : Int) - ((i + 1 : Nat) : Int) = (cnt : Int) - i - 1 := by omega
        rw [e1, e2]; exact e
      cases f with
      | next => exact next h₃
      | cont => exact next h₃
      | brk => exact h₃
      | ret v => exact h₃
    · obtain rfl : i = cnt := Nat.le_antisymm hi hge
      refine wpAny_pyNext_range_end (s := { s with heap := h, toks := tk }) hh hit (by omega) fun h' he => ?_
      obtain ⟨F₂, N₂⟩ := it_next F₁ N₁ hne₁ he
      exact (done _ m₁ n₁ h' tk hlt hJ (hO.eq ▸ F₂) N₂)
  · rw [hc]
    simp only [Int.natCast_zero, Int.add_zero, Int.sub_zero]
    exact Heap.get?_push_size _ rfl
end
theorem mRot0 {x y : Addr × Obj} {l : List (Addr × Obj)} : ∀ q ∈ (x :: l) ++ [y], q ∈ x :: y :: l := fun q hq => by
  simp only [List.cons_append, List.mem_cons, List.mem_append, List.not_mem_nil, or_false] at hq ⊢
  rcases hq with h | h | h <;> simp [h]
end Mine
end
section
open PySem PySem.W PyProof.Rows PySem.Spec PySem.Calls
namespace Mine
/-- all of these places lie below d -/
def LtAll (d : Nat) : List Nat → Prop
  | [] => True
  | a :: r => a < d ∧ LtAll d r
theorem ltAll {d : Addr} : ∀ {l : List (Addr × Obj)}, (∀ p ∈ l, p.1 < d) → LtAll d (l.map (·.1))
  | [], _ => trivial
  | p :: _, h => ⟨h p (.head _), ltAll fun q hq => h q (.tail _ hq)⟩
theorem LtAll.up {d : Nat} {l : List Nat} (h : LtAll d l) : LtAll (d + 1) l := by
  induction l with
  | nil => trivial
  | cons b r ih => exact ⟨Nat.lt_succ_of_lt h.1, ih h.2⟩
theorem LtAll.lt {d a : Nat} {l : List Nat} (h : LtAll d l) (m : a ∈ l) : a < d := by
  induction l with
  | nil => cases m
  | cons b r ih =>
    rcases List.mem_cons.mp m with rfl | m
    · exact h.1
    · exact ih h.2 m
theorem LtAll.mem {d a : Nat} {l : List Nat} (h : LtAll d l) (m : a ∈ l) : a ≠ d := Nat.ne_of_lt (h.lt m)
theorem LtAll.all {d : Nat} {l : List (Addr × Obj)} (h : LtAll d (l.map (·.1))) : ∀ p ∈ l, p.1 ≠ d := fun p hp => h.mem (List.mem_map_of_mem hp)
theorem nAll {d x : Nat} {o : Obj} {r : List (Addr × Obj)} (h : x ≠ d) (t : ∀ p ∈ r, p.1 ≠ d) : ∀ p ∈ (x, o) :: r, p.1 ≠ d := List.forall_mem_cons.mpr ⟨h, t⟩
theorem nNil {d : Nat} : ∀ p ∈ ([] : List (Addr × Obj)), p.1 ≠ d := List.forall_mem_nil _
section
variable {α : Type} {a b c d e f g h i : α} {r : List α}
theorem ix0 : a ∈ a :: r := .head _
theorem ix1 : a ∈ b :: a :: r := .tail _ (.head _)
theorem ix2 : a ∈ b :: c :: a :: r := .tail _ (.tail _ (.head _))
theorem ix3 : a ∈ b :: c :: d :: a :: r := .tail _ (.tail _ (.tail _ (.head _)))
theorem ix4 : a ∈ b :: c :: d :: e :: a :: r := .tail _ (.tail _ (.tail _ (.tail _ (.head _))))
theorem ix5 : a ∈ b :: c :: d :: e :: f :: a :: r := .tail _ (.tail _ (.tail _ (.tail _ (.tail _ (.head _)))))
theorem ix6 : a ∈ b :: c :: d :: e :: f :: g :: a :: r := .tail _ (.tail _ (.tail _ (.tail _ (.tail _ (.tail _ (.head _))))))
theorem ix7 : a ∈ b :: c :: d :: e :: f :: g :: h :: a :: r := .tail _ (.tail _ (.tail _ (.tail _ (.tail _ (.tail _ (.tail _ (.head _)))))))
theorem ix8 : a ∈ b :: c :: d :: e :: f :: g :: h :: i :: a :: r := .tail _ (.tail _ (.tail _ (.tail _ (.tail _ (.tail _ (.tail _ (.tail _ (.head _))))))))
theorem ixs (h0 : a ∈ r) : a ∈ b :: c :: d :: e :: f :: g :: h :: i :: r := .tail _ (.tail _ (.tail _ (.tail _ (.tail _ (.tail _ (.tail _ (.tail _ (h0))))))))
end
/-- a fact that is seen by unfolding all -/
structure ByAll (p : Prop) : Prop where
  h : p
/-- where a walk is not to go on by itself: at a call -/
structure Stop : Prop where
/-- .. at a method -/
structure StopM : Prop where
/-- .. at a comprehension -/
structure StopC : Prop where
section
variable {M : Model} {A : Around} {E : Value → Shared → Prop} {s : Shared} {env : Env}
theorem haltC {v : Addr} {vs : List Value} {Q : Value → Shared → Prop} (_ : Stop) (h : Halt (wpC M A (call (.ref v) vs) Q E s)) : wpC M A (call (.ref v) vs) Q E s := h
theorem haltA {P : Prop} (_ : Stop) (h : Halt P) : P := h
theorem haltM {P : Prop} (_ : StopM) (h : Halt P) : P := h
theorem haltS {P : Prop} (_ : StopC) (h : Halt P) : P := h
theorem anyX1 {p : Pos} {Q : Flow → Shared → Prop} (h : wpAny M A (exec (.Continue p) env) Q E s) : wpC M A (exec (.Continue p) env) Q E s := wpC.any h
theorem anyX2 {a b c p} {Q : Flow → Shared → Prop} (h : wpAny M A (exec (.AugAssign a b c p) env) Q E s) : wpC M A (exec (.AugAssign a b c p) env) Q E s := wpC.any h
theorem anyX3 {t a b c p q} {Q : Flow → Shared → Prop} (h : wpAny M A (exec (.Assign [t] (.ListComp a b c p) q) env) Q E s) : wpC M A (exec (.Assign [t] (.ListComp a b c p) q) env) Q E s := wpC.any h
theorem anyS {t v} {Q : Unit → Shared → Prop} (h : wpAny M A (assign t env v) Q E s) : wpC M A (assign t env v) Q E s := wpC.any h
theorem anyE {e} {Q : Value → Shared → Prop} (h : wpAny M A (eval e env) Q E s) : wpC M A (eval e env) Q E s := wpC.any h
theorem anyT {p b f t k} {Q : Value → Shared → Prop} (h : wpAny M A (callWith p (.type b) f t k) Q E s) : wpC M A (callWith p (.type b) f t k) Q E s := wpC.any h
theorem anyB {p b f t k} {Q : Value → Shared → Prop} (h : wpAny M A (callWith p (.builtin b) f t k) Q E s) : wpC M A (callWith p (.builtin b) f t k) Q E s := wpC.any h
theorem anyC {v vs} {Q : Value → Shared → Prop} (h : wpAny M A (call (.ref v) vs) Q E s) : wpC M A (call (.ref v) vs) Q E s := wpC.any h
theorem wpC_CallN {id : Str} {p pos : Pos} {args : List Expr} {Q : Value → Shared → Prop}
    (h : wpAny M A (eval (.Name id p) env) (fun f s₁ => wpC M A (callWith pos f [] (backTo pos (starEach args env)) []) Q E s₁) E s) : wpC M A (eval (.Call (.Name id p) args [] pos) env) Q E s := wpC_Call_Name rfl h
theorem isSwap {a b c d e f p} {Q : Flow → Shared → Prop} (h : wpC M A (exec (.Assign [.Tuple a b c] (.Tuple d e f) p) env) Q E s) : wpC M A (exec (.Assign [.Tuple a b c] (.Tuple d e f) p) env) Q E s := h
theorem wpC_assignSlice {o : Expr} {x y z} {p pos : Pos} {v : Value} {Q : Unit → Shared → Prop}
    (h : wpAny M A (eval o env) (fun ov s₁ => wpAny M A (eval (.Slice x y z p) env) (fun iv s₂ => wpC M A (setItem ov iv v) Q E s₂) E s₁) E s) : wpC M A (assign (.Subscript o (.Slice x y z p) pos) env v) Q E s := wpC_assign_Subscript h
theorem wpC_IfOr {x p body orelse pos} {Q : Flow → Shared → Prop}
    (h : wpC M A (isTrue (.BoolOp .Or x p) env (eval (.BoolOp .Or x p) env)) (fun b s₂ => if b then wpC M A (execs body env) Q E s₂ else wpC M A (execs orelse env) Q E s₂) E s) :
    wpC M A (exec (.If (.BoolOp .Or x p) body orelse pos) env) Q E s := wpC_If h
theorem wpC_IfNot {o x p body orelse pos} {Q : Flow → Shared → Prop}
    (h : wpC M A (isTrue (.UnaryOp o x p) env (eval (.UnaryOp o x p) env)) (fun b s₂ => if b then wpC M A (execs body env) Q E s₂ else wpC M A (execs orelse env) Q E s₂) E s) :
    wpC M A (exec (.If (.UnaryOp o x p) body orelse pos) env) Q E s := wpC_If h
theorem wpC_IfCmp {f a k q x y p body orelse pos} {Q : Flow → Shared → Prop}
    (h : wpC M A (isTrue (.Compare (.Call f a k q) x y p) env (eval (.Compare (.Call f a k q) x y p) env)) (fun b s₂ => if b then wpC M A (execs body env) Q E s₂ else wpC M A (execs orelse env) Q E s₂) E s) :
    wpC M A (exec (.If (.Compare (.Call f a k q) x y p) body orelse pos) env) Q E s := wpC_If h
theorem wpC_isTrueCall {f a k q} {whole : Sem Value} {Q : Bool → Shared → Prop} (h : wpC M A whole (fun v s₁ => wpAny M A (truthy v) Q E s₁) E s)
    (he : isTrue (.Call f a k q) env whole = (do let v ← whole; standAt (Expr.Call f a k q).pos; holding [v] (truthy v)) := by k_dflt exact rfl) : wpC M A (isTrue (.Call f a k q) env whole) Q E s := wpC_isTrue_plain h he
end
section
variable {prog : Program} {w : World} {A : Around} {E : Value → Shared → Prop} {s : Shared} {a L : Addr} {b : Array UInt8} {h₀ : Heap} {m : Str → Option Value} {news : List (Addr × Obj)} {Q : Value → Shared → Prop}
theorem lenN (N : News h₀ L s.heap news) (h : (a, ba b) ∈ news) (hz : b.size ≤ sizeLine) (hq : Q (.int (b.size : Nat) (s.toks + 1)) { s with toks := s.toks + 1 + 1 }) :
    wpAny (model prog w) A (call (.builtin "len") [.ref a]) Q E s := len_ba (N.get h) hz hq
theorem bytesN (N : News h₀ L s.heap news) (h : (a, ba b) ∈ news) (hz : b.size ≤ sizeLine) (hq : Q (.bytes b s.toks) { s with toks := s.toks + 1 }) :
    wpAny (model prog w) A (call (.type "bytes") [.ref a]) Q E s := bytes_ba (N.get h) hz hq
theorem extendN {pl : Sem Bool} {Q : Value × List Value → Shared → Prop} (N : News h₀ L s.heap news) (h : (a, ba b) ∈ news) (hq : Q (.builtin "bytearray.extend", [.ref a]) s) :
    wpAny (model prog w) A (getMethod (.ref a) (PySem.Str.ofString "extend") pl) Q E s := method_extend (N.get h) hq
end
end Mine
end
section
open PySem PySem.W PyProof.Rows PySem.Spec PySem.Calls
set_option maxHeartbeats 8000000
namespace Mine
local macro_rules | `(tactic| kln_w) => `(tactic| with_reducible first | refine @epsI _ neS _ ?_ | refine @epsI _ neA _ ?_ | refine @epsI _ neW _ ?_ | refine @epsI _ neDS _ ?_ | refine @epsI _ neCh _ ?_ | refine @epsI _ inferInstance _ ?_)
local macro_rules | `(tactic| kspl_open $x:ident) => `(tactic| first | ((fail_if_success first | (have : NoE := by with_reducible assumption) | (rename (_ : Type) => h'; fail_if_success (have : Mk h' := by with_reducible assumption))); kln_w; generalize eps _ _ = $x; set_option tactic.hygienic false in intro) | with_reducible intro $x:ident)
local macro_rules | `(tactic| kso_lit) => `(tactic| (rename (_ : Type) => h'; (fail_if_success first | (have : NoE := by with_reducible assumption) | (have : Mk h' := by with_reducible assumption)); revert h'; (first | kso_lit | (try dsimp only)); (set_option tactic.hygienic false in repeat (with_reducible first | (kln_w; generalize eps _ _ = h'; intro) | intro))))
local macro_rules | `(tactic| k_sweep) => `(tactic| (kso_lit; k_sweep))
local macro_rules | `(tactic| ktr_room) => `(tactic| with_reducible first | exact rmY 1 ‹_› | exact rmX 1 ‹_› | exact rmY 3 ‹_› | exact rmY 0 ‹_› | exact rmX 0 ‹_› | exact rmX 2 ‹_› | exact rmY 2 ‹_› | exact rmY 6 ‹_›)
local macro_rules | `(tactic| ktr_units) => `(tactic| ktr_room)
local macro_rules | `(tactic| keq_rows) => `(tactic| first | exact ix0 | exact ix1 | exact ix2 | exact ix3 | exact ix4 | exact ix5 | exact ix6 | exact ix7 | (refine ixs ?_; keq_rows))
local macro_rules | `(tactic| k_mem) => `(tactic| keq_rows)
local macro_rules | `(tactic| keq_hits) => `(tactic| first | (apply LtAll.mem; (first | assumption | (apply LtAll.up; assumption)); keq_rows) | (apply Gone.ne; assumption; assumption; keq_rows))
local macro_rules | `(tactic| k_ne) => `(tactic| (refine neN ?_; (try dsimp only); with_reducible first | assumption | exact Nq.ne ‹_› | keq_hits | (refine Ne.symm ?_; first | assumption | exact Nq.ne ‹_› | keq_hits)))
local macro_rules | `(tactic| k_all) => `(tactic| first | with_reducible assumption | exact nNil | (refine LtAll.all ?_; k_dflt assumption) | (refine nAll ?_ ?_; k_ne; k_all))
local macro_rules | `(tactic| k_lt $h) => `(tactic| (replace $h := ltAll $h; (try dsimp only [List.map] at $h:ident)))
local macro_rules | `(tactic| kaf_pre) => `(tactic| k_dflt first | with_reducible assumption | keq_rows | k_is | exact rfl | k_updF | ktr_room | (refine ByAll.mk ?_; with_unfolding_all first | rfl | (intro _; rfl)) | exact BindsTo.of_eq rfl | exact binds_K (by k_in) rfl (by k_is) rfl rfl rfl | exact locs rfl | decide | assumption | ((try simp only [sizeLine_eq, size_putAt, Array.size_append, Array.size_replicate]); omega))
local macro_rules | `(tactic| kaf_suf) => `(tactic| (k_whole; (try dsimp only); kspl_open x'; kspl_open h'; intro F' N' l1; (try k_lt l1); (try k_sweep)))
local macro_rules | `(tactic| kpt_turns) => `(tactic| (k_whole; (try dsimp only); kspl_open h'; intro F' N'; (try k_sweep)))
local macro_rules | `(tactic| cell_enter) => `(tactic| first | ((with_reducible first | apply code_defMC | apply code_defM); (iterate 17 kaf_pre); k_whole; (try dsimp only); kspl_open g'; kspl_open L'; kspl_open h'; intro KG' FG' F' N' B' X' T'; (try k_lift B')) | ((with_reducible first | apply code_defNC | apply code_defN); (iterate 17 kaf_pre); k_whole; (try dsimp only); kspl_open g'; kspl_open L'; kspl_open h'; kspl_open tk'; kspl_open cells'; intro KG' FG' F' N' Y' B' X' T' l1; (try k_lt l1); k_cells Y'; (try simp only [List.cons_append, List.nil_append] at N'); (try dsimp only); (try k_lift B')))
local macro_rules | `(tactic| ktr_enter) => `(tactic| cell_enter)
local macro_rules | `(tactic| walk_at "LeaveM") => `(tactic| (with_reducible apply leaveM_; k_dflt assumption; k_dflt assumption; k_whole; intro kF kN kK kR; (try dsimp only [InitBack, back])))
local macro_rules | `(tactic| walk_at "call builtin:len") => `(tactic| (with_reducible apply lenN; (iterate 3 kaf_pre); k_whole))
local macro_rules | `(tactic| walk_at "call type:bytes") => `(tactic| ((with_reducible first | apply bytes_by | (apply bytes_int; (iterate 2 kaf_pre)) | (apply bytesN; (iterate 3 kaf_pre))); k_whole))
local macro_rules | `(tactic| walk_at "getMethod ref") => `(tactic| (with_reducible apply extendN; (iterate 2 kaf_pre); k_whole))
local macro_rules | `(tactic| walk_at "eval Slice") => `(tactic| with_reducible refine eval_Slice ?_)
local macro_rules | `(tactic| walk_at "valueOrNone") => `(tactic| with_reducible first | refine eval_some ?_ | refine eval_none ?_)
local macro_rules | `(tactic| walk_at "ExtN") => `(tactic| (with_reducible apply extN_; (iterate 4 kaf_pre); kpt_turns))
local macro_rules | `(tactic| mul_fits) => `(tactic| (refine PySem.IntMulOk.of_right ?_; k_dflt exact intBits_fmod _ _ (by decide) (by decide)))
local macro_rules | `(tactic| walk_at "call ref") => `(tactic| (with_reducible refine wpAny_call ?_; k_dflt cell_enter))
local macro_rules | `(tactic| walk_at "call ref") => `(tactic| (with_reducible apply callA_cls; (iterate 3 kaf_pre); (iterate 3 k_is); k_whole; (try dsimp only); kspl_open x'; kspl_open d'; kspl_open h'; intro F' N' l1 l2 KM' nx' nd'; (try k_lt l1); (try k_lt l2); (try k_sweep); k_dflt cell_enter))
local macro_rules | `(tactic| walk_at "CompSrc") => `(tactic| with_reducible refine haltS (by assumption) ?_)
local macro_rules | `(tactic| walk_at "exec For Name Call cons nil") => `(tactic| with_reducible refine halt ?_)
local macro_rules | `(tactic| walk_at "exec For Tuple Name cons nil") => `(tactic| with_reducible refine halt ?_)
local macro_rules | `(tactic| walk_at "pyIter ref") => `(tactic| with_reducible refine halt ?_)
local macro_rules | `(tactic| walk_at "wpC") => `(tactic| with_reducible first
  | refine wpC_execs_nil ?_
  | refine wpC_execs_cons ?_
  | refine wpC_IfOr ?_
  | refine wpC_IfNot ?_
  | refine wpC_IfCmp ?_
  | refine wpC_IfA ?_
  | refine wpC_Expr ?_
  | (refine isSwap ?_; with_unfolding_all refine wpC_AssignSwapped ?_)
  | refine anyX3 ?_
  | refine wpC_Assign ?_
  | refine wpC_Return ?_
  | refine wpC_Delete ?_
  | refine anyX1 ?_
  | refine anyX2 ?_
  | refine wpC_delete_Subscript ?_
  | refine wpC_assignSlice ?_
  | refine anyS ?_
  | refine wpC_CallN ?_
  | refine wpC_Call_method ?_
  | refine wpC_Compare1 ?_
  | refine wpC_Tuple ?_
  | refine anyE ?_
  | refine wpC_isTrue_or ?_
  | refine wpC_isTrue_or_nil ?_
  | refine wpC_isTrue_Compare1 ?_
  | refine wpC_isTrue_not ?_
  | refine wpC_isTrueCall ?_
  | refine wpC_spliced_cons ?_
  | refine wpC_spliced_nil ?_
  | refine callWith_extend ?_
  | refine callWith_ba0 ?_
  | refine callWith_ba1 ?_
  | refine anyT ?_
  | refine anyB ?_
  | (apply cwK; (iterate 2 kaf_pre); k_whole)
  | (apply cwK0; (iterate 3 kaf_pre); k_whole)
  | (apply setItem_N; (iterate 9 kaf_pre); kpt_turns)
  | (apply delItem_N; (iterate 7 kaf_pre); kpt_turns)
  | refine haltC (by assumption) ?_
  | (apply callC_cls; (iterate 3 kaf_pre); (iterate 3 k_is); k_whole; (try dsimp only); kspl_open x'; kspl_open d'; kspl_open h'; intro F' N' l1 l2 KM' nx' nd'; (try k_lt l1); (try k_lt l2); (try k_sweep); k_dflt cell_enter)
  | refine anyC ?_
  | (apply ba0_N; (iterate 3 kaf_pre); kaf_suf)
  | (apply ba1_N; (iterate 4 kaf_pre); kaf_suf))
section
section
variable {w : World} {p : Program} {loose : List Str} {mean : ExcName → Option Value} {mg mb : Str → Option Value}
theorem put_c (nw : Addr) (b o : Array UInt8) (n : Nat) (t1 t2 : Tok) (hb : b.size ≤ 100) (ho : o.size ≤ 100) (hn : n ≤ 100) :
    ConC w p loose mean mg mb 383 [.ref nw, .int (n : Nat) t1, .bytes o t2] [(nw, ba b)] 4 40 anyH (fun _ _ v news' => ∃ o', news' = [(nw, o')] ∧ v = .none ∧ o' = ba (putO b n o)) := by
  revert w p loose mean mg mb nw b o n t1 t2 hb ho hn
  kspl_open w
  kspl_open p
  kspl_open loose
  kspl_open mean
  kspl_open mg
  kspl_open mb
  kspl_open nw
  kspl_open b
  kspl_open o
  kspl_open n
  kspl_open t1
  kspl_open t2
  intro hb
  intro ho
  intro hn
  unfold ConC
  w_top off
  k_fill
  (kspl_open dp; kspl_open un; kspl_open cn; kspl_open cs; kspl_open a; kspl_open ccd; kspl_open cl; kspl_open outer; kspl_open A₀; kspl_open base; kspl_open h₀; kspl_open L; kspl_open m; kspl_open s; kspl_open Q; kspl_open E; intro B F X N T hk hp hd hu hret)
  refine wpC_call ?_
  k_dflt ktr_enter
  k_steps
  · rename_i hlt _ _ kF kN kK kR
    have e : ((n : Int) - (b.size : Int)).toNat = n - b.size := by omega
    rw [e] at kN kR
    exact hret _ _ _ _ kF kN kK kR ⟨_, rfl, rfl, rfl⟩
  · rename_i hlt _ kF kN kK kR
    have e : putO b n o = putAt b n o := by
      unfold putO padTo
      rw [show n - b.size = 0 by omega]
      simp
    rw [← e] at kN kR
    exact hret _ _ _ _ kF kN kK kR ⟨_, rfl, rfl, rfl⟩
theorem cut_c (nw : Addr) (b : Array UInt8) (n : Nat) (t1 : Tok) (hb : b.size ≤ 100) (hn : n ≤ 100) :
    ConC w p loose mean mg mb 390 [.ref nw, .int (n : Nat) t1] [(nw, ba b)] 4 40 anyH (fun _ _ v news' => ∃ o', news' = [(nw, o')] ∧ v = .none ∧ o' = ba (cutO b n)) := by
  revert w p loose mean mg mb nw b n t1 hb hn
  kspl_open w
  kspl_open p
  kspl_open loose
  kspl_open mean
  kspl_open mg
  kspl_open mb
  kspl_open nw
  kspl_open b
  kspl_open n
  kspl_open t1
  intro hb
  intro hn
  unfold ConC
  w_top off
  k_fill
  (kspl_open dp; kspl_open un; kspl_open cn; kspl_open cs; kspl_open a; kspl_open ccd; kspl_open cl; kspl_open outer; kspl_open A₀; kspl_open base; kspl_open h₀; kspl_open L; kspl_open m; kspl_open s; kspl_open Q; kspl_open E; intro B F X N T hk hp hd hu hret)
  refine wpC_call ?_
  k_dflt ktr_enter
  k_steps
  · rename_i hlt _ kF kN kK kR
    have e : (b.toList.take n).toArray = cutO b n := by unfold cutO; rw [if_pos (by omega)]
    rw [e] at kN kR
    exact hret _ _ _ _ kF kN kK kR ⟨_, rfl, rfl, rfl⟩
  · rename_i hlt _ _ kF kN kK kR
    have e : b ++ Array.replicate ((n : Int) - (b.size : Int)).toNat 0 = cutO b n := by
      unfold cutO padTo
      rw [if_neg (by omega), show ((n : Int) - (b.size : Int)).toNat = n - b.size by omega]
    rw [e] at kN kR
    exact hret _ _ _ _ kF kN kK kR ⟨_, rfl, rfl, rfl⟩
  · rename_i hlt _ kF kN kK kR
    have e : b = cutO b n := by
      unfold cutO padTo
      rw [if_neg (by omega), show n - b.size = 0 by omega]
      simp
    have e2 : ba b = ba (cutO b n) := congrArg ba e
    rw [e2] at kN kR
    exact hret _ _ _ _ kF kN kK kR ⟨_, rfl, rfl, rfl⟩
end
end
section
section
variable {w : World} {p : Program} {loose : List Str} {mean : ExcName → Option Value} {mg mb : Str → Option Value}
theorem following_c (c cdx nl : Nat) (od : Obj) (vs : List Value) (ns : List Int) (k told : Nat) (hod : ChoiceD w nl told od) (hvs : IntsAre vs ns) (hlen : ns.length ≤ 100) (n1 : Nq c cdx) (n2 : Nq c nl) (n3 : Nq cdx nl) :
    ConA w p loose mean mg mb 291 [.ref c] [(c, instObj 294 cdx), (cdx, od), (nl, listOf vs.toArray k)] 4 80 anyH
      (fun _ _ v news' => ∃ od' t told', v = .int (num ns told) t ∧ news' = [(c, instObj 294 cdx), (cdx, od'), (nl, listOf vs.toArray k)] ∧ ChoiceD w nl told' od' ∧ (ns ≠ [] → told' = told + 1)) := by
  revert w p loose mean mg mb c cdx nl od vs ns k told hod hvs hlen n1 n2 n3
  kspl_open w
  kspl_open p
  kspl_open loose
  kspl_open mean
  kspl_open mg
  kspl_open mb
  kspl_open c
  kspl_open cdx
  kspl_open nl
  kspl_open od
  kspl_open vs
  kspl_open ns
  kspl_open k
  kspl_open told
  intro hod
  intro hvs
  intro hlen
  intro n1
  intro n2
  intro n3
  obtain ⟨tt, t1, t2, rfl⟩ := hod
  ((first | ((fail_if_success (fail_if_success (have zq : Mk t2 := trivial))); revert t2) | have t2__n := True.intro); (first | ((fail_if_success (fail_if_success (have zq : Mk t1 := trivial))); revert t1) | have t1__n := True.intro); (first | ((fail_if_success (fail_if_success (have zq : Mk tt := trivial))); revert tt) | have tt__n := True.intro); (set_option tactic.hygienic false in repeat ((fail_if_success kln_w); with_reducible intro)); (first | clear tt__n | kspl_open tt); (set_option tactic.hygienic false in repeat ((fail_if_success kln_w); with_reducible intro)); (first | clear t1__n | kspl_open t1); (set_option tactic.hygienic false in repeat ((fail_if_success kln_w); with_reducible intro)); (first | clear t2__n | kspl_open t2); (set_option tactic.hygienic false in intros))
  unfold ConA
  w_top off
  k_fill
  (kspl_open dp; kspl_open un; kspl_open cn; kspl_open cs; kspl_open a; kspl_open ccd; kspl_open cl; kspl_open outer; kspl_open A₀; kspl_open base; kspl_open h₀; kspl_open L; kspl_open m; kspl_open s; kspl_open Q; kspl_open E; intro B F X N T hk hp hd hu hret)
  refine wpAny_call ?_
  k_dflt cell_enter
  k_steps
  · rename_i kF kN kK kR
    have he := of_decide_eq_true ‹decide (ns = []) = true›
    exact hret _ _ _ _ kF (newsSub kN (List.sublist_cons_self _ _)) kK (kR.sub (List.sublist_cons_self _ _)) ⟨_, _, told, by unfold num; rw [if_pos he], rfl, ⟨_, _, _, rfl⟩, fun e => absurd he e⟩
  · have he := of_decide_eq_false ‹decide (ns = []) = false›
    exact absurd (List.eq_nil_of_length_eq_zero (by omega)) he
  · rename_i kF kN kK kR
    have he := of_decide_eq_false ‹decide (ns = []) = false›
    have e : num ns told = ns.getD ((told : Int).fmod (ns.length : Int)).toNat 0 := by
      unfold num
      rw [if_neg he, Int.fmod_eq_emod_of_nonneg _ (by omega), ← Int.natCast_emod, Int.toNat_natCast]
    exact hret _ _ _ _ kF (newsSub kN (List.sublist_cons_self _ _)) kK (kR.sub (List.sublist_cons_self _ _)) ⟨_, _, told + 1, congrArg (fun z => Value.int z _) e.symm, rfl, ⟨_, _, _, rfl⟩, fun _ => rfl⟩
end
end
section
open PySem PySem.W PyProof.Rows PySem.Spec PySem.Calls
set_option maxHeartbeats 4000000
/-- a file's dict, written short -/
structure FT where
  tn : Tok
  ty : Tok
  t1 : Tok
  t2 : Tok
  t3 : Tok
  t4 : Tok
  t5 : Tok
theorem neFT : Nonempty FT := ⟨⟨0, 0, 0, 0, 0, 0, 0⟩⟩
def fileO (w : World) (D : Addr) (sy : Array UInt8) (pl nw : Addr) (d : FT) : Obj := dictOf [ent w (Str.ofString "disk") (.ref D) d.t1, ent w (Str.ofString "name") (.str (Str.ofString "a") d.tn) d.t2,
  ent w (Str.ofString "synced") (.bytes sy d.ty) d.t3, ent w (Str.ofString "pending") (.ref pl) d.t4, ent w (Str.ofString "now") (.ref nw) d.t5] 5
theorem FileD.o {w : World} {D : Addr} {sy : Array UInt8} {pl nw : Addr} {o : Obj} (h : FileD w D sy pl nw o) : ∃ d, o = fileO w D sy pl nw d := by
  obtain ⟨tn, ty, t1, t2, t3, t4, t5, rfl⟩ := h
  exact ⟨⟨tn, ty, t1, t2, t3, t4, t5⟩, rfl⟩
theorem fileO_D {w : World} {D : Addr} {sy : Array UInt8} {pl nw : Addr} {d : FT} : FileD w D sy pl nw (fileO w D sy pl nw d) := ⟨_, _, _, _, _, _, _, rfl⟩
/-- a disk's dict, written short -/
structure DT where
  ts : Tok
  st : Int
  tst : Tok
  sh : Value
  lk : Value
  t1 : Tok
  t2 : Tok
  t3 : Tok
  t4 : Tok
  t5 : Tok
  t6 : Tok
  t7 : Tok
theorem neDT : Nonempty DT := ⟨⟨0, 0, 0, .none, .none, 0, 0, 0, 0, 0, 0, 0⟩⟩
def diskO (w : World) (sec : Int) (fd : Addr) (d : DT) : Obj := dictOf [ent w (Str.ofString "sector") (.int sec d.ts) d.t1, ent w (Str.ofString "room") .none d.t2, ent w (Str.ofString "files") (.ref fd) d.t3,
  ent w (Str.ofString "steps") (.int d.st d.tst) d.t4, ent w (Str.ofString "crash_at") .none d.t5, ent w (Str.ofString "shared") d.sh d.t6, ent w (Str.ofString "locks") d.lk d.t7] 7
theorem DiskD.o {w : World} {sec : Int} {fd : Addr} {o : Obj} (h : DiskD w sec fd o) : ∃ d, o = diskO w sec fd d := by
  obtain ⟨ts, st, tst, sh, lk, t1, t2, t3, t4, t5, t6, t7, rfl⟩ := h
  exact ⟨⟨ts, st, tst, sh, lk, t1, t2, t3, t4, t5, t6, t7⟩, rfl⟩
theorem diskO_D {w : World} {sec : Int} {fd : Addr} {d : DT} : DiskD w sec fd (diskO w sec fd d) := ⟨_, _, _, _, _, _, _, _, _, _, _, _, rfl⟩
theorem ChoiceD.foll {w : World} {nl : Addr} {told : Nat} {o : Obj} (h : ChoiceD w nl told o) : lookIn (Str.ofString "following") o = some none := by
  obtain ⟨tt, t1, t2, rfl⟩ := h
  rfl
section
variable {prog : Program} {w : World} {A : Around} {E : Value → Shared → Prop} {s : Shared} {K : Frag} {x C dx L : Addr} {h₀ : Heap} {m : Str → Option Value} {news : List (Addr × Obj)} {g : Obj → List (Addr × Obj)} {o o' : Obj} {name : Str} {v : Value}
theorem getO {expr : Bool} {Q : Value → Shared → Prop} {attr : Option Value} (F : Fr h₀ L s.heap m) (X₀ : K.In h₀) (N : News h₀ L s.heap news) (hx : (x, instObj C dx) ∈ news) (hd : (dx, o) ∈ news) (h : Q v { s with toks := s.toks + 1 })
    (hg : plainGet K C name = true) (hh : hasDictIn K C = true) (ha : findIn K (.ref C) name = some attr) (hn : noGet K attr = true) (hl : lookIn name o = some (some v)) (hv : handedIn v = true) :
    wpAny (model prog w) A (getAttr (.ref x) name expr) Q E s :=
  get_value (X₀.keeps F.keep) (InstAt.of_news N hx hd) (plainGet_of hg).1 (findObj_own hh ha hn hl) hv h
theorem methO {pl : Sem Bool} {Q : Value × List Value → Shared → Prop} {f : Addr} (F : Fr h₀ L s.heap m) (X₀ : K.In h₀) (N : News h₀ L s.heap news) (hx : (x, instObj C dx) ∈ news) (hd : (dx, o) ∈ news) (hg : plainGet K C name = true)
    (hf : findIn K (.ref C) name = some (some (.ref f))) (ht : isFn K (.ref f) = true) (hl : lookIn name o = some none) (h : Q (.ref f, [.ref x]) s) : wpAny (model prog w) A (getMethod (.ref x) name pl) Q E s :=
  method_fn (X₀.keeps F.keep) (InstAt.of_news N hx hd) (plainGet_of hg).1 (plainGet_of hg).2 hf (beq_iff_eq.mp ht) (by show (lookIn name o).map _ = _; rw [hl]; rfl) h
theorem setO {Q : Unit → Shared → Prop} {es' : List DictEntry} {n' : Nat} (F : Fr h₀ L s.heap m) (X₀ : K.In h₀) (N : News h₀ L s.heap news) (hx : (x, instObj C dx) ∈ news) (U : UpdF dx o news g)
    (h : ∀ h', Fr h₀ L h' m → News h₀ L h' (g o') → Q () { s with heap := h', toks := s.toks + 2 })
    (hs : findIn K (.ref C) "__setattr__" = some (some (.builtin "object.__setattr__"))) (hp : plainOver K C = true) (ht : takerIn K C name = some none) (hh : hasDictIn K C = true) (hl : (lookIn name o).isSome = true)
    (e : ∀ tk, Obj.putName name (PyData.keyHash w.params name) (.str name tk) v o = o') (e' : o'.data = .dict es'.toArray n') (hz : es'.length ≤ 1000) :
    wpAny (model prog w) A (setAttr (.ref x) name v) Q E s := by
  have I := InstAt.of_news N hx (UpdF.mem U)
  obtain ⟨pre, post, rfl, b, c, d⟩ := U.split
  exact set_plain (X₀.keeps F.keep) I hs (osa_dict (s := { s with toks := s.toks + 1 }) F N (X₀.keeps F.keep) I rfl hp ht hh hl c d (e _) e' hz fun h' F' N' => h h' F' (by rw [b]; exact N'))
end
section
variable {w : World} {A : Around} {E : Value → Shared → Prop} {s : Shared} {x dx L D pl nw fd : Addr} {sec : Int} {sy : Array UInt8} {d : FT} {q : DT} {h₀ : Heap} {m : Str → Option Value} {news : List (Addr × Obj)} {g : Obj → List (Addr × Obj)} {expr : Bool} {Q : Value → Shared → Prop}
  (F : Fr h₀ L s.heap m) (X : (hd.heap_1 w.params).In h₀) (N : News h₀ L s.heap news)
section
variable (hx : (x, instObj 266 dx) ∈ news) (hd : (dx, fileO w D sy pl nw d) ∈ news)
include F X N hx hd
theorem gfDisk (h : Q (.ref D) { s with toks := s.toks + 1 }) : wpAny (model PySem.Challenge.rw_xm0759_01.row.toRowW.prog w) A (getAttr (.ref x) (Str.ofString "disk") expr) Q E s := by
  revert X
  w_top off
  k_fill
  intro X
  refine' getO F X N hx hd h ?k1 ?k2 ?k3 ?k4 ?k5 rfl; (case k1 => k_is); (case k2 => k_is); (case k3 => k_is); (case k4 => k_is); (case k5 => rfl)
theorem gfSynced (h : Q (.bytes sy d.ty) { s with toks := s.toks + 1 }) : wpAny (model PySem.Challenge.rw_xm0759_01.row.toRowW.prog w) A (getAttr (.ref x) (Str.ofString "synced") expr) Q E s := by
  revert X
  w_top off
  k_fill
  intro X
  refine' getO F X N hx hd h ?k1 ?k2 ?k3 ?k4 ?k5 rfl; (case k1 => k_is); (case k2 => k_is); (case k3 => k_is); (case k4 => k_is); (case k5 => rfl)
theorem gfPending (h : Q (.ref pl) { s with toks := s.toks + 1 }) : wpAny (model PySem.Challenge.rw_xm0759_01.row.toRowW.prog w) A (getAttr (.ref x) (Str.ofString "pending") expr) Q E s := by
  revert X
  w_top off
  k_fill
  intro X
  refine' getO F X N hx hd h ?k1 ?k2 ?k3 ?k4 ?k5 rfl; (case k1 => k_is); (case k2 => k_is); (case k3 => k_is); (case k4 => k_is); (case k5 => rfl)
theorem gfNow (h : Q (.ref nw) { s with toks := s.toks + 1 }) : wpAny (model PySem.Challenge.rw_xm0759_01.row.toRowW.prog w) A (getAttr (.ref x) (Str.ofString "now") expr) Q E s := by
  revert X
  w_top off
  k_fill
  intro X
  refine' getO F X N hx hd h ?k1 ?k2 ?k3 ?k4 ?k5 rfl; (case k1 => k_is); (case k2 => k_is); (case k3 => k_is); (case k4 => k_is); (case k5 => rfl)
end
section
variable (hx : (x, instObj 372 dx) ∈ news) (hd : (dx, diskO w sec fd q) ∈ news)
include F X N hx hd
theorem gdSector (h : Q (.int sec q.ts) { s with toks := s.toks + 1 }) : wpAny (model PySem.Challenge.rw_xm0759_01.row.toRowW.prog w) A (getAttr (.ref x) (Str.ofString "sector") expr) Q E s := by
  revert X
  w_top off
  k_fill
  intro X
  refine' getO F X N hx hd h ?k1 ?k2 ?k3 ?k4 ?k5 rfl; (case k1 => k_is); (case k2 => k_is); (case k3 => k_is); (case k4 => k_is); (case k5 => rfl)
theorem gdRoom (h : Q .none { s with toks := s.toks + 1 }) : wpAny (model PySem.Challenge.rw_xm0759_01.row.toRowW.prog w) A (getAttr (.ref x) (Str.ofString "room") expr) Q E s := by
  revert X
  w_top off
  k_fill
  intro X
  refine' getO F X N hx hd h ?k1 ?k2 ?k3 ?k4 ?k5 rfl; (case k1 => k_is); (case k2 => k_is); (case k3 => k_is); (case k4 => k_is); (case k5 => rfl)
theorem gdFiles (h : Q (.ref fd) { s with toks := s.toks + 1 }) : wpAny (model PySem.Challenge.rw_xm0759_01.row.toRowW.prog w) A (getAttr (.ref x) (Str.ofString "files") expr) Q E s := by
  revert X
  w_top off
  k_fill
  intro X
  refine' getO F X N hx hd h ?k1 ?k2 ?k3 ?k4 ?k5 rfl; (case k1 => k_is); (case k2 => k_is); (case k3 => k_is); (case k4 => k_is); (case k5 => rfl)
theorem gdSteps (h : Q (.int q.st q.tst) { s with toks := s.toks + 1 }) : wpAny (model PySem.Challenge.rw_xm0759_01.row.toRowW.prog w) A (getAttr (.ref x) (Str.ofString "steps") expr) Q E s := by
  revert X
  w_top off
  k_fill
  intro X
  refine' getO F X N hx hd h ?k1 ?k2 ?k3 ?k4 ?k5 rfl; (case k1 => k_is); (case k2 => k_is); (case k3 => k_is); (case k4 => k_is); (case k5 => rfl)
theorem gdCrash (h : Q .none { s with toks := s.toks + 1 }) : wpAny (model PySem.Challenge.rw_xm0759_01.row.toRowW.prog w) A (getAttr (.ref x) (Str.ofString "crash_at") expr) Q E s := by
  revert X
  w_top off
  k_fill
  intro X
  refine' getO F X N hx hd h ?k1 ?k2 ?k3 ?k4 ?k5 rfl; (case k1 => k_is); (case k2 => k_is); (case k3 => k_is); (case k4 => k_is); (case k5 => rfl)
end
section
variable {Q : Unit → Shared → Prop}
include F X N
theorem sfSynced {b : Array UInt8} {t : Tok} (hx : (x, instObj 266 dx) ∈ news) (U : UpdF dx (fileO w D sy pl nw d) news g) (h : ∀ h', Fr h₀ L h' m → News h₀ L h' (g (fileO w D b pl nw { d with ty := t })) → Q () { s with heap := h', toks := s.toks + 2 }) :
    wpAny (model PySem.Challenge.rw_xm0759_01.row.toRowW.prog w) A (setAttr (.ref x) (Str.ofString "synced") (.bytes b t)) Q E s := by
  revert X
  w_top off
  k_fill
  intro X
  refine' setO F X N hx U h ?k1 ?k2 ?k3 ?k4 rfl (fun tk => rfl) rfl (Nat.le_of_ble_eq_true rfl); (case k1 => k_is); (case k2 => k_is); (case k3 => k_is); (case k4 => k_is)
theorem sfPending {p : Addr} (hx : (x, instObj 266 dx) ∈ news) (U : UpdF dx (fileO w D sy pl nw d) news g) (h : ∀ h', Fr h₀ L h' m → News h₀ L h' (g (fileO w D sy p nw d)) → Q () { s with heap := h', toks := s.toks + 2 }) :
    wpAny (model PySem.Challenge.rw_xm0759_01.row.toRowW.prog w) A (setAttr (.ref x) (Str.ofString "pending") (.ref p)) Q E s := by
  revert X
  w_top off
  k_fill
  intro X
  refine' setO F X N hx U h ?k1 ?k2 ?k3 ?k4 rfl (fun tk => rfl) rfl (Nat.le_of_ble_eq_true rfl); (case k1 => k_is); (case k2 => k_is); (case k3 => k_is); (case k4 => k_is)
theorem sfNow {p : Addr} (hx : (x, instObj 266 dx) ∈ news) (U : UpdF dx (fileO w D sy pl nw d) news g) (h : ∀ h', Fr h₀ L h' m → News h₀ L h' (g (fileO w D sy pl p d)) → Q () { s with heap := h', toks := s.toks + 2 }) :
    wpAny (model PySem.Challenge.rw_xm0759_01.row.toRowW.prog w) A (setAttr (.ref x) (Str.ofString "now") (.ref p)) Q E s := by
  revert X
  w_top off
  k_fill
  intro X
  refine' setO F X N hx U h ?k1 ?k2 ?k3 ?k4 rfl (fun tk => rfl) rfl (Nat.le_of_ble_eq_true rfl); (case k1 => k_is); (case k2 => k_is); (case k3 => k_is); (case k4 => k_is)
theorem sdSteps {i : Int} {t : Tok} (hx : (x, instObj 372 dx) ∈ news) (U : UpdF dx (diskO w sec fd q) news g) (h : ∀ h', Fr h₀ L h' m → News h₀ L h' (g (diskO w sec fd { q with st := i, tst := t })) → Q () { s with heap := h', toks := s.toks + 2 }) :
    wpAny (model PySem.Challenge.rw_xm0759_01.row.toRowW.prog w) A (setAttr (.ref x) (Str.ofString "steps") (.int i t)) Q E s := by
  revert X
  w_top off
  k_fill
  intro X
  refine' setO F X N hx U h ?k1 ?k2 ?k3 ?k4 rfl (fun tk => rfl) rfl (Nat.le_of_ble_eq_true rfl); (case k1 => k_is); (case k2 => k_is); (case k3 => k_is); (case k4 => k_is)
end
end
section
variable {w : World} {p : Program} {loose : List Str} {mean : ExcName → Option Value} {mg mb : Str → Option Value} {f : Addr} {vs : List Value} {rest0 all : List (Addr × Obj)} {d u : Nat} {c : Addr} {o : Obj} {g : Obj → List (Addr × Obj)} {P : Value → Obj → Prop}
  {dp un : Nat} {cn : Str} {cs : Scope} {a : Addr} {ccd : Value} {cl : List (Str × Addr)} {outer : List Env} {A A₀ : Around} {base h₀ : Heap} {L : Addr} {m : Str → Option Value} {s : Shared} {Q E : Value → Shared → Prop}
/-- a contract that changes one object -/
theorem useU (H : ConA w p loose mean mg mb f vs ((c, o) :: rest0) d u anyH (fun _ _ v n' => ∃ o', n' = (c, o') :: rest0 ∧ P v o')) (hA : A = ktrTop dp un (some []) cn cs L a ccd cl outer) (hk : cs.kind = .function) (B : Below A₀ base outer h₀) (F : Fr h₀ L s.heap m) (X : (hd.heap_1 w.params).In h₀) (N : News h₀ L s.heap all) (T : Top p loose mean mg mb h₀)
    (U : UpdF c o all g) (hs : ∀ q ∈ rest0, q ∈ all) (hd : dp + d < recursionLimit) (hu : un + u < cLine)
    (k : ∀ v o' h' tk', Fr h₀ L h' m → News h₀ L h' (g o') → P v o' → Q v { s with heap := h', toks := tk' }) :
    wpAny (model PySem.Challenge.rw_xm0759_01.row.toRowW.prog w) A (call (.ref f) vs) Q E s := by
  subst hA
  refine H dp un cn cs a ccd cl outer A₀ base h₀ L m s Q E B F X (fun q hq => ?_) T hk trivial hd hu fun v n' h' tk' F' N' K' R' P' => ?_
  · rcases List.mem_cons.mp hq with rfl | hq
    · exact N _ (UpdF.mem U)
    · exact N _ (hs q hq)
  · obtain ⟨o', rfl, hP⟩ := P'
    refine k v o' h' tk' F' (news_upd1 N U (fun x q hx e => ?_) (N' _ (.head _)).1) hP
    by_cases hm : ∃ r ∈ rest0, r.1 = x
    · obtain ⟨r, hr, rfl⟩ := hm
      have e1 := (N r (hs r hr)).1
      rw [e] at e1
      rw [Option.some.inj e1]
      exact (N' r (.tail _ hr)).1
    · refine K' x q (fun hx' => ?_) e
      rcases List.mem_cons.mp hx' with h | h
      · exact hx h
      · obtain ⟨r, hr, er⟩ := List.mem_map.mp h
        exact hm ⟨r, hr, er⟩
/-- a contract that changes nothing -/
theorem useS (H : ConA w p loose mean mg mb f vs rest0 d u anyH (fun _ _ v n' => v = .none ∧ n' = rest0)) (hA : A = ktrTop dp un (some []) cn cs L a ccd cl outer) (hk : cs.kind = .function) (B : Below A₀ base outer h₀) (F : Fr h₀ L s.heap m) (X : (hd.heap_1 w.params).In h₀) (N : News h₀ L s.heap all) (T : Top p loose mean mg mb h₀)
    (hs : ∀ q ∈ rest0, q ∈ all) (hd : dp + d < recursionLimit) (hu : un + u < cLine)
    (k : ∀ h' tk', Fr h₀ L h' m → News h₀ L h' all → Q .none { s with heap := h', toks := tk' }) :
    wpAny (model PySem.Challenge.rw_xm0759_01.row.toRowW.prog w) A (call (.ref f) vs) Q E s := by
  subst hA
  refine H dp un cn cs a ccd cl outer A₀ base h₀ L m s Q E B F X (fun q hq => N _ (hs q hq)) T hk trivial hd hu fun v n' h' tk' F' N' K' R' P' => ?_
  obtain ⟨rfl, rfl⟩ := P'
  refine k h' tk' F' fun q hq => ⟨?_, (N q hq).2⟩
  by_cases hm : ∃ r ∈ n', r.1 = q.1
  · obtain ⟨r, hr, er⟩ := hm
    have e1 := (N r (hs r hr)).1
    rw [er, (N q hq).1] at e1
    rw [← er, Option.some.inj e1]
    exact (N' r hr).1
  · exact K' q.1 q.2 (fun h => let ⟨r, hr, er⟩ := List.mem_map.mp h; hm ⟨r, hr, er⟩) (N q hq).1
theorem put_u {b q : Array UInt8} {n : Nat} {t1 t2 : Tok} {args : List Value} (ha : args = [.ref c, .int (n : Nat) t1, .bytes q t2]) (hA : A = ktrTop dp un (some []) cn cs L a ccd cl outer) (hk : cs.kind = .function) (B : Below A₀ base outer h₀) (F : Fr h₀ L s.heap m) (X : (hd.heap_1 w.params).In h₀) (N : News h₀ L s.heap all) (T : Top p loose mean mg mb h₀)
    (U : UpdF c (ba b) all g) (hb : b.size ≤ 100) (ho : q.size ≤ 100) (hn : n ≤ 100) (hd : dp + 4 < recursionLimit) (hu : un + 40 < cLine)
    (k : ∀ h' tk', Fr h₀ L h' m → News h₀ L h' (g (ba (putO b n q))) → Kept s.heap h' [c] → Q .none { s with heap := h', toks := tk' }) :
    wpC (model PySem.Challenge.rw_xm0759_01.row.toRowW.prog w) A (call (.ref 383) args) Q E s := by
  subst hA ha
  refine useC1 (put_c c b q n t1 t2 hb ho hn) B F X N T hk trivial hd hu U fun v o' h' tk' F' N' K' P' => ?_
  obtain ⟨rfl, rfl⟩ := P'
  exact k h' tk' F' N' K'
theorem cut_u {b : Array UInt8} {n : Nat} {t1 : Tok} {args : List Value} (ha : args = [.ref c, .int (n : Nat) t1]) (hA : A = ktrTop dp un (some []) cn cs L a ccd cl outer) (hk : cs.kind = .function) (B : Below A₀ base outer h₀) (F : Fr h₀ L s.heap m) (X : (hd.heap_1 w.params).In h₀) (N : News h₀ L s.heap all) (T : Top p loose mean mg mb h₀)
    (U : UpdF c (ba b) all g) (hb : b.size ≤ 100) (hn : n ≤ 100) (hd : dp + 4 < recursionLimit) (hu : un + 40 < cLine)
    (k : ∀ h' tk', Fr h₀ L h' m → News h₀ L h' (g (ba (cutO b n))) → Kept s.heap h' [c] → Q .none { s with heap := h', toks := tk' }) :
    wpC (model PySem.Challenge.rw_xm0759_01.row.toRowW.prog w) A (call (.ref 390) args) Q E s := by
  subst hA ha
  refine useC1 (cut_c c b n t1 hb hn) B F X N T hk trivial hd hu U fun v o' h' tk' F' N' K' P' => ?_
  obtain ⟨rfl, rfl⟩ := P'
  exact k h' tk' F' N' K'
theorem foll_u {cdx nl cc : Addr} {od : Obj} {vs : List Value} {ns : List Int} {kk told : Nat} {args : List Value} (ha : args = [.ref cc]) (hA : A = ktrTop dp un (some []) cn cs L a ccd cl outer) (hk : cs.kind = .function) (B : Below A₀ base outer h₀) (F : Fr h₀ L s.heap m) (X : (hd.heap_1 w.params).In h₀) (N : News h₀ L s.heap all) (T : Top p loose mean mg mb h₀)
    (h1 : (cc, instObj 294 cdx) ∈ all) (hod : ChoiceD w nl told od) (U : UpdF cdx od all g) (hvs : IntsAre vs ns) (h2 : (nl, listOf vs.toArray kk) ∈ all) (n1 : Nq cc cdx) (n2 : Nq cc nl) (n3 : Nq cdx nl) (hlen : ns.length ≤ 100) (hd : dp + 4 < recursionLimit) (hu : un + 80 < cLine)
    (k : ∀ h' tk' od' t told', Fr h₀ L h' m → News h₀ L h' (g od') → Kept s.heap h' [cdx] → ChoiceD w nl told' od' → (ns ≠ [] → told' = told + 1) → Q (.int (num ns told) t) { s with heap := h', toks := tk' }) :
    wpAny (model PySem.Challenge.rw_xm0759_01.row.toRowW.prog w) A (call (.ref 291) args) Q E s := by
  subst hA ha
  refine following_c (w := w) (p := p) (loose := loose) (mean := mean) (mg := mg) (mb := mb) cc cdx nl od vs ns kk told hod hvs hlen n1 n2 n3 dp un cn cs a ccd cl outer A₀ base h₀ L m s Q E B F X (fun q hq => ?_) T hk trivial hd hu fun v n' h' tk' F' N' K' R' P' => ?_
  · simp only [List.mem_cons, List.not_mem_nil, or_false] at hq
    rcases hq with rfl | rfl | rfl
    · exact N _ h1
    · exact N _ (UpdF.mem U)
    · exact N _ h2
  · obtain ⟨od', t, told', rfl, rfl, hod', ht⟩ := P'
    have kx : ∀ x q, x ≠ cdx → s.heap.get? x = some q → h'.get? x = some q := fun x q hx e => by
      by_cases e1 : x = cc
      · subst e1
        rw [(N _ h1).1] at e
        rw [← e]; exact (N' _ (.head _)).1
      · by_cases e2 : x = nl
        · subst e2
          rw [(N _ h2).1] at e
          rw [← e]; exact (N' _ (.tail _ (.tail _ (.head _)))).1
        · exact K' x q (by simp only [addrs, List.map_cons, List.map_nil, List.mem_cons, List.not_mem_nil, or_false, not_or]; exact ⟨e1, hx, e2⟩) e
    exact k h' tk' od' t told' F' (news_upd1 N U kx (N' _ (.tail _ (.head _))).1) (fun x q hx e => kx x q (by simpa using hx) e) hod' ht
end
section
variable {prog : Program} {w : World} {A : Around} {E : Value → Shared → Prop} {value slice : PySem.Expr} {b : Array UInt8} {t ti ui : Tok} {h₀ hp gg : Heap} {gs : Array GenState} {dr : Drawn} {tk : Nat} {os : OsState} {L a l : Addr} {m : PySem.Str → Option Value} {news : List (Addr × Obj)} {Q : Value → Shared → Prop} {items : List Value}
theorem sliceTo {i : Int} (hF : Fr h₀ L hp m) (hN : News h₀ L hp news) (hz : b.size ≤ 16777216) (h0 : 0 ≤ i)
    (hs : ByAll (subscripted slice false (.bytes b t) (.ref hp.objs.size) = operate [.ref hp.objs.size, .bytes b t] (getItem (.bytes b t) (.ref hp.objs.size)))) (ht : ByAll (∀ r, letTemporaryGo value (.bytes b t) r = pure ()))
    (h : ∀ h' t' k, Fr h₀ L h' m → News h₀ L h' news → (b.extract 0 i.toNat).size ≤ b.size → Q (.bytes (b.extract 0 i.toNat) t') ⟨h', gs, dr, k, os⟩) :
    wpAny (model prog w) A (subscriptTail value slice (.bytes b t) (.ref hp.objs.size)) Q E ⟨hp.push { cls := .type "slice", data := .fields #[.none, .int i ti, .none] }, gs, dr, tk, os⟩ := slice_to (s := ⟨hp, gs, dr, tk, os⟩) hF hN hz h0 h hs.h ht.h
theorem sliceBa {hi : Int} {t1 t2 : Tok} (hF : Fr h₀ L hp m) (hN : News h₀ L hp news) (hm : (a, ba b) ∈ news) (hb : (b.size : Int) ≤ hi) (hz : b.size ≤ sizeLine)
    (hs : ByAll (subscripted slice false (.ref a) (.ref hp.objs.size) = operate [.ref hp.objs.size, .ref a] (getItem (.ref a) (.ref hp.objs.size))))
    (h : ∀ x h', Fr h₀ L h' m → News h₀ L h' ((x, ba b) :: news) → (∀ q ∈ news, q.1 < x) → Q (.ref x) ⟨h', gs, dr, tk, os⟩) :
    wpAny (model prog w) A (subscriptTail value slice (.ref a) (.ref hp.objs.size)) Q E ⟨hp.push { cls := .type "slice", data := .fields #[.int 0 t1, .int hi t2, .none] }, gs, dr, tk, os⟩ := slice_ba (s := ⟨hp, gs, dr, tk, os⟩) hF hN hm hb hz h hs.h
theorem itemLst {s : Shared} {k : Int} {u : Tok} {v : Value} (F : Fr gg L s.heap m) (hL : gg.IsList l items.toArray) (h0 : 0 ≤ k) (h1 : k ≤ 1000) (hx : items[k.toNat]? = some v)
    (hs : ByAll (subscripted slice false (.ref l) (.int k u) = operate [.ref l, .int k u] (getItem (.ref l) (.int k u)))) (hg : ByAll (∀ r, letTemporaryGo value (.ref l) r = pure ())) (h : Q v s) :
    wpAny (model prog w) A (subscriptTail value slice (.ref l) (.int k u)) Q E s := item_lst F hL h0 h1 hx h hs.h hg.h
theorem itemBy {s : Shared} {i : Int} (hz : b.size ≤ 1000) (h0 : 0 ≤ i) (h1 : i < (b.size : Int))
    (hs : ByAll (subscripted slice false (.bytes b t) (.int i ui) = operate [.bytes b t, .int i ui] (getItem (.bytes b t) (.int i ui)))) (ht : ByAll (∀ r, letTemporaryGo value (.bytes b t) r = pure ()))
    (h : ∀ t' k, 0 ≤ (KBw.bInts b).getD i.toNat 0 → (KBw.bInts b).getD i.toNat 0 < 256 → Q (.int ((KBw.bInts b).getD i.toNat 0) t') { s with toks := k }) :
    wpAny (model prog w) A (subscriptTail value slice (.bytes b t) (.int i ui)) Q E s := item_by hz h0 h1 h hs.h ht.h
end
end
local macro_rules | `(tactic| kln_w) => `(tactic| with_reducible first | refine @epsI _ neFT _ ?_ | refine @epsI _ neDT _ ?_)
local macro_rules | `(tactic| walk_at "getAttr ref") => `(tactic| ((with_reducible first | apply gfDisk | apply gfSynced | apply gfPending | apply gfNow | apply gdSector | apply gdRoom | apply gdFiles | apply gdSteps | apply gdCrash); (iterate 5 kaf_pre); k_whole))
local macro_rules | `(tactic| walk_at "getMethod ref") => `(tactic| (with_reducible apply methO; (iterate 5 kaf_pre); (iterate 3 k_is); (first | exact ChoiceD.foll (by with_reducible assumption) | kernel_rfl); k_whole))
local macro_rules | `(tactic| walk_at "getMethod ref") => `(tactic| with_reducible refine haltM (by assumption) ?_)
local macro_rules | `(tactic| walk_at "setAttr ref") => `(tactic| ((with_reducible first | apply sfSynced | apply sfPending | apply sfNow | apply sdSteps); (iterate 5 kaf_pre); kpt_turns))
local macro_rules | `(tactic| walk_at "wpC") => `(tactic| ((with_reducible first | (apply put_u; kaf_pre) | apply cut_u); (iterate 13 kaf_pre); k_whole; (try dsimp only); kspl_open h'; kspl_open tk'; intro F' N' K'; (try k_sweep)))
local macro_rules | `(tactic| walk_at "call ref") => `(tactic| (with_reducible apply foll_u; (iterate 19 kaf_pre); k_whole; (try dsimp only); kspl_open h'; kspl_open tk'; kspl_open od'; kspl_open t'; kspl_open told'; intro F' N' K' hod' hto'; (try k_sweep)))
local macro_rules | `(tactic| walk_at "call ref") => `(tactic| with_reducible refine haltA (by assumption) ?_)
local macro_rules | `(tactic| walk_at "subscriptTail") => `(tactic| (with_reducible apply sliceTo; (iterate 6 kaf_pre); k_whole; (try dsimp only); kspl_open h9; kspl_open t9; kspl_open k9; intro F' N' kd9; (try k_sweep)))
local macro_rules | `(tactic| walk_at "subscriptTail") => `(tactic| (with_reducible apply sliceBa; (iterate 6 kaf_pre); kaf_suf))
local macro_rules | `(tactic| walk_at "subscriptTail") => `(tactic| (with_reducible apply itemLst; (iterate 7 kaf_pre); k_whole))
local macro_rules | `(tactic| walk_at "subscriptTail") => `(tactic| (with_reducible apply itemBy; (iterate 5 kaf_pre); k_whole; (try dsimp only); kspl_open t'; kspl_open k'; intro i0' i1'))
local macro_rules | `(tactic| walk_at "call builtin:len") => `(tactic| (with_reducible apply len_lst; (iterate 3 kaf_pre); k_whole))
local macro_rules | `(tactic| walk_at "call builtin:sorted") => `(tactic| (with_reducible apply sorted_one; (iterate 6 kaf_pre); k_whole; (try dsimp only); kspl_open Bx'; kspl_open h'; kspl_open tk'; kspl_open t'; intro F' N' l1; (try k_lt l1); (try k_sweep)))
local macro_rules | `(tactic| walk_at "call builtin:list.sort") => `(tactic| (with_reducible apply sort_one; (iterate 3 kaf_pre); k_whole; (try dsimp only); kspl_open h'; kspl_open k'; intro F' N'; (try k_sweep)))
section
section
variable {w : World} {p : Program} {loose : List Str} {mean : ExcName → Option Value} {mg mb : Str → Option Value}
theorem take_c (src : Addr) (o : Obj) (top : Int) (tt : Tok) (ho : Src o) (ht : 0 < top) (ht2 : top ≤ 200) :
    ConA w p loose mean mg mb 404 [.ref src, .int top tt] [(src, o)] 2 16 anyH (fun _ _ v news' => ∃ o', news' = [(src, o')] ∧ ∃ d t, v = .int d t ∧ 0 ≤ d ∧ d < top ∧ Src o') := by
  revert w p loose mean mg mb src o top tt ho ht ht2
  kspl_open w
  kspl_open p
  kspl_open loose
  kspl_open mean
  kspl_open mg
  kspl_open mb
  kspl_open src
  kspl_open o
  kspl_open top
  kspl_open tt
  intro ho
  intro ht
  intro ht2
  obtain ⟨x, y, t1, t2, n, rfl, hx, hy, hy2⟩ := ho
  ((first | ((fail_if_success (fail_if_success (have zq : Mk hy2 := trivial))); revert hy2) | have hy2__n := True.intro); (first | ((fail_if_success (fail_if_success (have zq : Mk hy := trivial))); revert hy) | have hy__n := True.intro); (first | ((fail_if_success (fail_if_success (have zq : Mk hx := trivial))); revert hx) | have hx__n := True.intro); (first | ((fail_if_success (fail_if_success (have zq : Mk n := trivial))); revert n) | have n__n := True.intro); (first | ((fail_if_success (fail_if_success (have zq : Mk t2 := trivial))); revert t2) | have t2__n := True.intro); (first | ((fail_if_success (fail_if_success (have zq : Mk t1 := trivial))); revert t1) | have t1__n := True.intro); (first | ((fail_if_success (fail_if_success (have zq : Mk y := trivial))); revert y) | have y__n := True.intro); (first | ((fail_if_success (fail_if_success (have zq : Mk x := trivial))); revert x) | have x__n := True.intro); (set_option tactic.hygienic false in repeat ((fail_if_success kln_w); with_reducible intro)); (first | clear x__n | kspl_open x); (set_option tactic.hygienic false in repeat ((fail_if_success kln_w); with_reducible intro)); (first | clear y__n | kspl_open y); (set_option tactic.hygienic false in repeat ((fail_if_success kln_w); with_reducible intro)); (first | clear t1__n | kspl_open t1); (set_option tactic.hygienic false in repeat ((fail_if_success kln_w); with_reducible intro)); (first | clear t2__n | kspl_open t2); (set_option tactic.hygienic false in repeat ((fail_if_success kln_w); with_reducible intro)); (first | clear n__n | kspl_open n); (set_option tactic.hygienic false in repeat ((fail_if_success kln_w); with_reducible intro)); (first | clear hx__n | kspl_open hx); (set_option tactic.hygienic false in repeat ((fail_if_success kln_w); with_reducible intro)); (first | clear hy__n | kspl_open hy); (set_option tactic.hygienic false in repeat ((fail_if_success kln_w); with_reducible intro)); (first | clear hy2__n | kspl_open hy2); (set_option tactic.hygienic false in intros))
  unfold ConA
  w_top off
  k_fill
  (kspl_open dp; kspl_open un; kspl_open cn; kspl_open cs; kspl_open a; kspl_open ccd; kspl_open cl; kspl_open outer; kspl_open A₀; kspl_open base; kspl_open h₀; kspl_open L; kspl_open m; kspl_open s; kspl_open Q; kspl_open E; intro B F X N T hk hp hd hu hret)
  refine wpAny_call ?_
  k_dflt cell_enter
  k_steps
  · rename_i kF kN kK kR
    exact hret _ _ _ _ kF kN kK kR ⟨_, rfl, _, _, rfl, fmod_lo _ ht, fmod_hi _ ht, _, _, _, _, _, rfl, (by show 0 ≤ Int.fdiv x top; exact Int.fdiv_nonneg hx (Int.le_of_lt ht)), hy, hy2⟩
  · rename_i kF kN kK kR
    exact hret _ _ _ _ kF kN kK kR ⟨_, rfl, _, _, rfl, fmod_lo _ ht, fmod_hi _ ht, _, _, _, _, _, rfl, hx, fmod_lo _ (by decide), fmod_hi _ (by decide)⟩
section
variable {src : Addr} {o : Obj} {top : Int} {tt : Tok} {dp un : Nat} {cn : Str} {cs : Scope} {a : Addr} {ccd : Value} {cl : List (Str × Addr)} {outer : List Env} {A₀ : Around} {base h₀ : Heap} {L : Addr} {m : Str → Option Value} {s : Shared} {Q E : Value → Shared → Prop} {all : List (Addr × Obj)} {g : Obj → List (Addr × Obj)}
theorem take_u {A : Around} {args : List Value} (ha : args = [.ref src, .int top tt]) (hA : A = ktrTop dp un (some []) cn cs L a ccd cl outer) (hk : cs.kind = .function) (B : Below A₀ base outer h₀) (F : Fr h₀ L s.heap m) (X : (hd.heap_1 w.params).In h₀) (N : News h₀ L s.heap all) (T : Top p loose mean mg mb h₀) (U : UpdF src o all g) (ho : Src o) (ht : 0 < top) (ht2 : top ≤ 200)
    (hd : dp + 2 < recursionLimit) (hu : un + 16 < cLine)
    (k : ∀ o' h' tk', Fr h₀ L h' m → News h₀ L h' (g o') → Kept s.heap h' [src] → ∀ d t, 0 ≤ d → d < top → Src o' → Q (.int d t) { s with heap := h', toks := tk' }) :
    wpAny (model PySem.Challenge.rw_xm0759_01.row.toRowW.prog w) A (call (.ref 404) args) Q E s := by
  subst hA ha
  exact useA1 (take_c src o top tt ho ht ht2) B F X N T hk trivial hd hu U fun v o' h' tk' F' N' K' P' => by
    obtain ⟨d, t, rfl, h0, h1, hs⟩ := P'
    exact k o' h' tk' F' N' K' d t h0 h1 hs
end
local macro_rules | `(tactic| walk_at "call ref") => `(tactic| (with_reducible apply take_u; (iterate 14 kaf_pre); k_whole; (try dsimp only); kspl_open o'; kspl_open h'; kspl_open tk'; intro F' N' K'; kspl_open d'; kspl_open t'; intro h0' h1' hs'; (try k_sweep)))
theorem one_c (src things : Addr) (o : Obj) (x1 x2 x3 : Int) (t1 t2 t3 : Tok) (n : Nat) (ho : Src o) :
    ConA w p loose mean mg mb 411 [.ref src, .ref things] [(src, o), (things, listOf #[.int x1 t1, .int x2 t2, .int x3 t3] n)] 6 64 (fun _ => src ≠ things)
      (fun _ _ v news' => ∃ o', news' = [(src, o'), (things, listOf #[.int x1 t1, .int x2 t2, .int x3 t3] n)] ∧ ∃ d t, v = .int d t ∧ (d = x1 ∨ d = x2 ∨ d = x3) ∧ Src o') := by
  revert w p loose mean mg mb src things o x1 x2 x3 t1 t2 t3 n ho
  kspl_open w
  kspl_open p
  kspl_open loose
  kspl_open mean
  kspl_open mg
  kspl_open mb
  kspl_open src
  kspl_open things
  kspl_open o
  kspl_open x1
  kspl_open x2
  kspl_open x3
  kspl_open t1
  kspl_open t2
  kspl_open t3
  kspl_open n
  intro ho
  unfold ConA
  w_top off
  k_fill
  (kspl_open dp; kspl_open un; kspl_open cn; kspl_open cs; kspl_open a; kspl_open ccd; kspl_open cl; kspl_open outer; kspl_open A₀; kspl_open base; kspl_open h₀; kspl_open L; kspl_open m; kspl_open s; kspl_open Q; kspl_open E; intro B F X N T hk hp hd hu hret)
  have hne : @Ne Nat things src := fun e => hp e.symm
  refine wpAny_call ?_
  k_dflt cell_enter
  k_steps
  rename_i kF kN kK kR
  rename Int => d
  rename Src _ => hs
  refine hret _ _ _ _ kF kN kK kR ⟨_, rfl, _, _, rfl, ?_, hs⟩
  have e : d.toNat = 0 ∨ d.toNat = 1 ∨ d.toNat = 2 := by omega
  rcases e with e | e | e <;> rw [e]
  · exact .inl rfl
  · exact .inr (.inl rfl)
  · exact .inr (.inr rfl)
theorem change_c (src : Addr) (o : Obj) (ho : Src o) :
    ConA w p loose mean mg mb 416 [.ref src] [(src, o)] 8 80 anyH
      (fun _ _ v news' => ∃ x o' ot c, Src o' ∧ Ch.Ok c ∧ TupO (Str.ofString "cut") c ot ∧ v = .ref x ∧ news' = [(x, ot), (src, o')] ∧ x ≠ src) := by
  revert w p loose mean mg mb src o ho
  kspl_open w
  kspl_open p
  kspl_open loose
  kspl_open mean
  kspl_open mg
  kspl_open mb
  kspl_open src
  kspl_open o
  intro ho
  unfold ConA
  w_top off
  k_fill
  (kspl_open dp; kspl_open un; kspl_open cn; kspl_open cs; kspl_open a; kspl_open ccd; kspl_open cl; kspl_open outer; kspl_open A₀; kspl_open base; kspl_open h₀; kspl_open L; kspl_open m; kspl_open s; kspl_open Q; kspl_open E; intro B F X N T hk hp hd hu hret)
  refine wpAny_call ?_
  k_dflt cell_enter
  k_steps
  · rename_i kF kN kK kR
    rename Int => d
    rename Src _ => hs
    rename LtAll _ _ => l1
    obtain ⟨n, rfl⟩ := Int.eq_ofNat_of_zero_le (a := d) ‹_›
    ((first | ((fail_if_success (fail_if_success (have zq : Mk n := trivial))); revert n) | have n__n := True.intro); (set_option tactic.hygienic false in repeat ((fail_if_success kln_w); with_reducible intro)); (first | clear n__n | kspl_open n); (set_option tactic.hygienic false in intros))
    exact hret _ _ _ _ kF (newsSub kN sub13) kK (kR.sub sub13) ⟨_, _, _, ⟨true, n, #[]⟩, hs, ⟨by show n ≤ 16; omega, fun _ => rfl, fun e => (nomatch e), Nat.zero_le _⟩, ⟨_, _, _, rfl⟩, rfl, rfl, Nat.ne_of_gt l1.2.1⟩
  · rename_i kF kN kK kR
    rename Int => d
    rename Src _ => hs
    rename LtAll _ _ => l1
    obtain ⟨n, rfl⟩ := Int.eq_ofNat_of_zero_le (a := d) ‹_›
    ((first | ((fail_if_success (fail_if_success (have zq : Mk n := trivial))); revert n) | have n__n := True.intro); (set_option tactic.hygienic false in repeat ((fail_if_success kln_w); with_reducible intro)); (first | clear n__n | kspl_open n); (set_option tactic.hygienic false in intros))
    refine hret _ _ _ _ kF (newsSub kN sub14) kK (kR.sub sub14) ⟨_, _, _, ⟨false, n, _⟩, hs, ⟨by show n ≤ 16; omega, fun e => (nomatch e), fun _ => ?_, ?_⟩, ⟨_, _, _, rfl⟩, rfl, rfl, Nat.ne_of_gt l1.2.2.1⟩
    · show 1 ≤ (byteArr _).size
      rw [byteArr_size, List.length_map, rangeKs_length]; omega
    · show (byteArr _).size ≤ 9
      rw [byteArr_size, List.length_map, rangeKs_length]; omega
end
end
section
section
variable {w : World} {p : Program} {loose : List Str} {mean : ExcName → Option Value} {mg mb : Str → Option Value}
theorem disk_c (sec : Int) (t : Tok) :
    ConA w p loose mean mg mb 372 [.int sec t] [] 8 80 anyH
      (fun _ _ v news' => ∃ D dx fd od ofd, v = .ref D ∧ news' = [(fd, ofd), (D, instObj 372 dx), (dx, od)] ∧ DiskD w sec fd od ∧ ofd.IsDictOf (PySem.strKind PySem.Challenge.rw_xm0759_01.row.prog w) [] ∧ (fd == sysModules) = false ∧ @LT.lt Nat _ dx D ∧ @LT.lt Nat _ D fd) := by
  revert w p loose mean mg mb sec t
  kspl_open w
  kspl_open p
  kspl_open loose
  kspl_open mean
  kspl_open mg
  kspl_open mb
  kspl_open sec
  kspl_open t
  unfold ConA
  w_top off
  k_fill
  (kspl_open dp; kspl_open un; kspl_open cn; kspl_open cs; kspl_open a; kspl_open ccd; kspl_open cl; kspl_open outer; kspl_open A₀; kspl_open base; kspl_open h₀; kspl_open L; kspl_open m; kspl_open s; kspl_open Q; kspl_open E; intro B F X N T hk hp hd hu hret)
  k_steps
  rename_i kF kN kK kR
  have K1 := ‹Kept s.heap _ []›
  refine hret _ _ _ _ kF (newsSub kN (List.drop_sublist 6 _)) (K1.made ?zhza ?zhzb kK) ((Fresh.made K1 ?zhza ?zhzb kR).sub (List.drop_sublist 6 _)) ⟨_, _, _, _, _, rfl, rfl, ⟨_, _, _, _, _, _, _, _, _, _, _, _, rfl⟩, ?_, ?_, ?_, ?_⟩
  all_goals first | assumption | (apply LtAll.lt; assumption; keq_rows)
theorem disk2_c (sec : Int) (t : Tok) :
    ConA w p loose mean mg mb 372 [.int sec t, .none] [] 8 80 anyH
      (fun _ _ v news' => ∃ D dx fd od ofd, v = .ref D ∧ news' = [(fd, ofd), (D, instObj 372 dx), (dx, od)] ∧ DiskD w sec fd od ∧ ofd.IsDictOf (PySem.strKind PySem.Challenge.rw_xm0759_01.row.prog w) [] ∧ (fd == sysModules) = false ∧ @LT.lt Nat _ dx D ∧ @LT.lt Nat _ D fd) := by
  revert w p loose mean mg mb sec t
  kspl_open w
  kspl_open p
  kspl_open loose
  kspl_open mean
  kspl_open mg
  kspl_open mb
  kspl_open sec
  kspl_open t
  unfold ConA
  w_top off
  k_fill
  (kspl_open dp; kspl_open un; kspl_open cn; kspl_open cs; kspl_open a; kspl_open ccd; kspl_open cl; kspl_open outer; kspl_open A₀; kspl_open base; kspl_open h₀; kspl_open L; kspl_open m; kspl_open s; kspl_open Q; kspl_open E; intro B F X N T hk hp hd hu hret)
  k_steps
  rename_i kF kN kK kR
  have K1 := ‹Kept s.heap _ []›
  refine hret _ _ _ _ kF (newsSub kN (List.drop_sublist 6 _)) (K1.made ?zhza ?zhzb kK) ((Fresh.made K1 ?zhza ?zhzb kR).sub (List.drop_sublist 6 _)) ⟨_, _, _, _, _, rfl, rfl, ⟨_, _, _, _, _, _, _, _, _, _, _, _, rfl⟩, ?_, ?_, ?_, ?_⟩
  all_goals first | assumption | (apply LtAll.lt; assumption; keq_rows)
end
end
section
section
variable {w : World} {p : Program} {loose : List Str} {mean : ExcName → Option Value} {mg mb : Str → Option Value}
theorem open_c (D dx fd : Addr) (od ofd : Obj) (sec : Int) (t : Tok) (hod : DiskD w sec fd od) (hofd : ofd.IsDictOf (PySem.strKind PySem.Challenge.rw_xm0759_01.row.prog w) []) (lo : (fd == sysModules) = false) (n1 : @Ne Nat fd D) (n2 : @Ne Nat fd dx) (n3 : @Ne Nat D dx) :
    ConC w p loose mean mg mb 348 [.ref D, .str (Str.ofString "a") t] [(fd, ofd), (D, instObj 372 dx), (dx, od)] 8 120 anyH
      (fun _ _ v news' => ∃ A : DS, v = .ref A.f ∧ A.D = D ∧ A.fd = fd ∧ A.dx = dx ∧ DiskIs w A sec #[] #[] [] news') := by
  revert w p loose mean mg mb D dx fd od ofd sec t hod hofd lo n1 n2 n3
  kspl_open w
  kspl_open p
  kspl_open loose
  kspl_open mean
  kspl_open mg
  kspl_open mb
  kspl_open D
  kspl_open dx
  kspl_open fd
  kspl_open od
  kspl_open ofd
  kspl_open sec
  kspl_open t
  intro hod
  intro hofd
  intro lo
  intro n1
  intro n2
  intro n3
  obtain ⟨ts, st, tst, sh, lk, t1, t2, t3, t4, t5, t6, t7, rfl⟩ := hod
  ((first | ((fail_if_success (fail_if_success (have zq : Mk t7 := trivial))); revert t7) | have t7__n := True.intro); (first | ((fail_if_success (fail_if_success (have zq : Mk t6 := trivial))); revert t6) | have t6__n := True.intro); (first | ((fail_if_success (fail_if_success (have zq : Mk t5 := trivial))); revert t5) | have t5__n := True.intro); (first | ((fail_if_success (fail_if_success (have zq : Mk t4 := trivial))); revert t4) | have t4__n := True.intro); (first | ((fail_if_success (fail_if_success (have zq : Mk t3 := trivial))); revert t3) | have t3__n := True.intro); (first | ((fail_if_success (fail_if_success (have zq : Mk t2 := trivial))); revert t2) | have t2__n := True.intro); (first | ((fail_if_success (fail_if_success (have zq : Mk t1 := trivial))); revert t1) | have t1__n := True.intro); (first | ((fail_if_success (fail_if_success (have zq : Mk lk := trivial))); revert lk) | have lk__n := True.intro); (first | ((fail_if_success (fail_if_success (have zq : Mk sh := trivial))); revert sh) | have sh__n := True.intro); (first | ((fail_if_success (fail_if_success (have zq : Mk tst := trivial))); revert tst) | have tst__n := True.intro); (first | ((fail_if_success (fail_if_success (have zq : Mk st := trivial))); revert st) | have st__n := True.intro); (first | ((fail_if_success (fail_if_success (have zq : Mk ts := trivial))); revert ts) | have ts__n := True.intro); (set_option tactic.hygienic false in repeat ((fail_if_success kln_w); with_reducible intro)); (first | clear ts__n | kspl_open ts); (set_option tactic.hygienic false in repeat ((fail_if_success kln_w); with_reducible intro)); (first | clear st__n | kspl_open st); (set_option tactic.hygienic false in repeat ((fail_if_success kln_w); with_reducible intro)); (first | clear tst__n | kspl_open tst); (set_option tactic.hygienic false in repeat ((fail_if_success kln_w); with_reducible intro)); (first | clear sh__n | kspl_open sh); (set_option tactic.hygienic false in repeat ((fail_if_success kln_w); with_reducible intro)); (first | clear lk__n | kspl_open lk); (set_option tactic.hygienic false in repeat ((fail_if_success kln_w); with_reducible intro)); (first | clear t1__n | kspl_open t1); (set_option tactic.hygienic false in repeat ((fail_if_success kln_w); with_reducible intro)); (first | clear t2__n | kspl_open t2); (set_option tactic.hygienic false in repeat ((fail_if_success kln_w); with_reducible intro)); (first | clear t3__n | kspl_open t3); (set_option tactic.hygienic false in repeat ((fail_if_success kln_w); with_reducible intro)); (first | clear t4__n | kspl_open t4); (set_option tactic.hygienic false in repeat ((fail_if_success kln_w); with_reducible intro)); (first | clear t5__n | kspl_open t5); (set_option tactic.hygienic false in repeat ((fail_if_success kln_w); with_reducible intro)); (first | clear t6__n | kspl_open t6); (set_option tactic.hygienic false in repeat ((fail_if_success kln_w); with_reducible intro)); (first | clear t7__n | kspl_open t7); (set_option tactic.hygienic false in intros))
  unfold ConC
  w_top off
  k_fill
  (kspl_open dp; kspl_open un; kspl_open cn; kspl_open cs; kspl_open a; kspl_open ccd; kspl_open cl; kspl_open outer; kspl_open A₀; kspl_open base; kspl_open h₀; kspl_open L; kspl_open m; kspl_open s; kspl_open Q; kspl_open E; intro B F X N T hk hp hd hu hret)
  refine wpC_call ?_
  k_dflt ktr_enter
  k_steps
  rename_i kF kN kK kR
  refine hret _ _ _ _ kF kN kK kR ⟨⟨_, _, _, _, _, _, _⟩, rfl, rfl, rfl, rfl, ⟨_, _, _, _, rfl, ⟨_, _, _, _, _, _, _, rfl⟩, ?_, ?_, ⟨_, _, _, _, _, _, _, _, _, _, _, _, rfl⟩, ?_⟩⟩
  · assumption
  · assumption
  · refine nod7 ?_
    dsimp only
    repeat' (first | apply And.intro | k_ne)
end
end
section
section
variable {w : World} {p : Program} {loose : List Str} {mean : ExcName → Option Value} {mg mb : Str → Option Value}
theorem meet_c (D dx fd : Addr) (sec : Int) (q : DT) :
    ConA w p loose mean mg mb 320 [.ref D] [(D, instObj 372 dx), (dx, diskO w sec fd q)] 2 20 anyH (fun _ _ v n' => v = .none ∧ n' = [(D, instObj 372 dx), (dx, diskO w sec fd q)]) := by
  revert w p loose mean mg mb D dx fd sec q
  kspl_open w
  kspl_open p
  kspl_open loose
  kspl_open mean
  kspl_open mg
  kspl_open mb
  kspl_open D
  kspl_open dx
  kspl_open fd
  kspl_open sec
  kspl_open q
  unfold ConA
  w_top off
  k_fill
  (kspl_open dp; kspl_open un; kspl_open cn; kspl_open cs; kspl_open a; kspl_open ccd; kspl_open cl; kspl_open outer; kspl_open A₀; kspl_open base; kspl_open h₀; kspl_open L; kspl_open m; kspl_open s; kspl_open Q; kspl_open E; intro B F X N T hk hp hd hu hret)
  refine wpAny_call ?_
  k_dflt cell_enter
  k_steps
  rename_i kF kN kK kR
  exact hret _ _ _ _ kF kN kK kR ⟨rfl, rfl⟩
theorem room_c (D dx fd f : Addr) (sec n : Int) (t : Tok) (q : DT) :
    ConA w p loose mean mg mb 334 [.ref D, .ref f, .int n t] [(D, instObj 372 dx), (dx, diskO w sec fd q)] 2 20 anyH (fun _ _ v n' => v = .none ∧ n' = [(D, instObj 372 dx), (dx, diskO w sec fd q)]) := by
  revert w p loose mean mg mb D dx fd f sec n t q
  kspl_open w
  kspl_open p
  kspl_open loose
  kspl_open mean
  kspl_open mg
  kspl_open mb
  kspl_open D
  kspl_open dx
  kspl_open fd
  kspl_open f
  kspl_open sec
  kspl_open n
  kspl_open t
  kspl_open q
  unfold ConA
  w_top off
  k_fill
  (kspl_open dp; kspl_open un; kspl_open cn; kspl_open cs; kspl_open a; kspl_open ccd; kspl_open cl; kspl_open outer; kspl_open A₀; kspl_open base; kspl_open h₀; kspl_open L; kspl_open m; kspl_open s; kspl_open Q; kspl_open E; intro B F X N T hk hp hd hu hret)
  refine wpAny_call ?_
  k_dflt cell_enter
  k_steps
  rename_i kF kN kK kR
  exact hret _ _ _ _ kF kN kK kR ⟨rfl, rfl⟩
section
variable {dp un : Nat} {cn : Str} {cs : Scope} {a : Addr} {ccd : Value} {cl : List (Str × Addr)} {outer : List Env} {A A₀ : Around} {base h₀ : Heap} {L D dx fd f : Addr} {m : Str → Option Value} {s : Shared} {Q E : Value → Shared → Prop} {all : List (Addr × Obj)} {g : Obj → List (Addr × Obj)} {sec n : Int} {t : Tok} {q : DT}
  (hA : A = ktrTop dp un (some []) cn cs L a ccd cl outer) (hk : cs.kind = .function) (B : Below A₀ base outer h₀) (F : Fr h₀ L s.heap m) (X : (hd.heap_1 w.params).In h₀) (N : News h₀ L s.heap all) (T : Top p loose mean mg mb h₀)
include hA hk B F X N T
theorem meet_u {args : List Value} (ha : args = [.ref D]) (h1 : (D, instObj 372 dx) ∈ all) (h2 : (dx, diskO w sec fd q) ∈ all) (hd : dp + 2 < recursionLimit) (hu : un + 20 < cLine)
    (k : ∀ h' tk', Fr h₀ L h' m → News h₀ L h' all → Q .none { s with heap := h', toks := tk' }) :
    wpAny (model PySem.Challenge.rw_xm0759_01.row.toRowW.prog w) A (call (.ref 320) args) Q E s := by
  subst ha
  exact useS (meet_c D dx fd sec q) hA hk B F X N T (List.forall_mem_cons.mpr ⟨h1, List.forall_mem_cons.mpr ⟨h2, List.forall_mem_nil _⟩⟩) hd hu k
theorem room_u {args : List Value} (ha : args = [.ref D, .ref f, .int n t]) (h1 : (D, instObj 372 dx) ∈ all) (h2 : (dx, diskO w sec fd q) ∈ all) (hd : dp + 2 < recursionLimit) (hu : un + 20 < cLine)
    (k : ∀ h' tk', Fr h₀ L h' m → News h₀ L h' all → Q .none { s with heap := h', toks := tk' }) :
    wpAny (model PySem.Challenge.rw_xm0759_01.row.toRowW.prog w) A (call (.ref 334) args) Q E s := by
  subst ha
  exact useS (room_c D dx fd f sec n t q) hA hk B F X N T (List.forall_mem_cons.mpr ⟨h1, List.forall_mem_cons.mpr ⟨h2, List.forall_mem_nil _⟩⟩) hd hu k
end
local macro_rules | `(tactic| walk_at "call ref") => `(tactic| (with_reducible apply meet_u; (iterate 12 kaf_pre); k_whole; (try dsimp only); kspl_open h'; kspl_open tk'; intro F' N'; (try k_sweep)))
theorem step_c (D dx fd : Addr) (sec : Int) (q : DT) (n1 : Nq D dx) :
    ConA w p loose mean mg mb 327 [.ref D] [(dx, diskO w sec fd q), (D, instObj 372 dx)] 4 40 anyH (fun _ _ v n' => ∃ o', n' = [(dx, o'), (D, instObj 372 dx)] ∧ ∃ q', v = .none ∧ o' = diskO w sec fd q') := by
  revert w p loose mean mg mb D dx fd sec q n1
  kspl_open w
  kspl_open p
  kspl_open loose
  kspl_open mean
  kspl_open mg
  kspl_open mb
  kspl_open D
  kspl_open dx
  kspl_open fd
  kspl_open sec
  kspl_open q
  intro n1
  unfold ConA
  w_top off
  k_fill
  (kspl_open dp; kspl_open un; kspl_open cn; kspl_open cs; kspl_open a; kspl_open ccd; kspl_open cl; kspl_open outer; kspl_open A₀; kspl_open base; kspl_open h₀; kspl_open L; kspl_open m; kspl_open s; kspl_open Q; kspl_open E; intro B F X N T hk hp hd hu hret)
  refine wpAny_call ?_
  k_dflt cell_enter
  k_steps
  rename_i kF kN kK kR
  exact hret _ _ _ _ kF kN kK kR ⟨_, rfl, _, rfl, rfl⟩
section
variable {dp un : Nat} {cn : Str} {cs : Scope} {a : Addr} {ccd : Value} {cl : List (Str × Addr)} {outer : List Env} {A A₀ : Around} {base h₀ : Heap} {L D dx fd f : Addr} {m : Str → Option Value} {s : Shared} {Q E : Value → Shared → Prop} {all : List (Addr × Obj)} {g : Obj → List (Addr × Obj)} {sec n : Int} {t : Tok} {q : DT}
theorem step_u {args : List Value} (ha : args = [.ref D]) (hA : A = ktrTop dp un (some []) cn cs L a ccd cl outer) (hk : cs.kind = .function) (B : Below A₀ base outer h₀) (F : Fr h₀ L s.heap m) (X : (hd.heap_1 w.params).In h₀) (N : News h₀ L s.heap all) (T : Top p loose mean mg mb h₀)
    (h1 : (D, instObj 372 dx) ∈ all) (U : UpdF dx (diskO w sec fd q) all g) (n1 : Nq D dx) (hd : dp + 4 < recursionLimit) (hu : un + 40 < cLine)
    (k : ∀ h' tk' q', Fr h₀ L h' m → News h₀ L h' (g (diskO w sec fd q')) → Q .none { s with heap := h', toks := tk' }) :
    wpAny (model PySem.Challenge.rw_xm0759_01.row.toRowW.prog w) A (call (.ref 327) args) Q E s := by
  subst ha
  exact useU (P := fun v o' => ∃ q', v = .none ∧ o' = diskO w sec fd q') (step_c D dx fd sec q n1) hA hk B F X N T U (List.forall_mem_cons.mpr ⟨h1, List.forall_mem_nil _⟩) hd hu fun v o' h' tk' F' N' P' => by
    obtain ⟨q', rfl, rfl⟩ := P'
    exact k h' tk' q' F' N'
end
end
end
local macro_rules | `(tactic| walk_at "call ref") => `(tactic| ((with_reducible first | apply meet_u | apply room_u); (iterate 12 kaf_pre); k_whole; (try dsimp only); kspl_open h'; kspl_open tk'; intro F' N'; (try k_sweep)))
local macro_rules | `(tactic| walk_at "call ref") => `(tactic| (with_reducible apply step_u; (iterate 13 kaf_pre); k_whole; (try dsimp only); kspl_open h'; kspl_open tk'; kspl_open q'; intro F' N'; (try k_sweep)))
section
section
variable {w : World} {p : Program} {loose : List Str} {mean : ExcName → Option Value} {mg mb : Str → Option Value}
theorem not7 {x a b c d e f g : Nat} (h : x ≠ a ∧ x ≠ b ∧ x ≠ c ∧ x ≠ d ∧ x ≠ e ∧ x ≠ f ∧ x ≠ g) : x ∉ DS.all ⟨a, b, c, d, e, f, g⟩ := by
  simp only [DS.all, List.mem_cons, List.not_mem_nil, or_false, not_or]
  exact h
theorem write_c (A : DS) (l : List (Addr × Obj)) (sec : Int) (sy now o : Array UInt8) (items : List Value) (n : Nat) (t1 t2 : Tok) (hl : DiskIs w A sec sy now items l) (hb : now.size ≤ 100) (ho : o.size ≤ 100) (hn : n ≤ 100) (hi : items.length ≤ 10) :
    ConC w p loose mean mg mb 235 [.ref A.f, .int (n : Nat) t1, .bytes o t2] l 12 200 anyH
      (fun _ _ v news' => ∃ x ot l', v = .none ∧ news' = (x, ot) :: l' ∧ TupO (Str.ofString "truncate") ⟨false, n, o⟩ ot ∧ DiskIs w A sec sy (putO now n o) (items ++ [.ref x]) l' ∧ x ∉ A.all) := by
  revert w p loose mean mg mb A l sec sy now o items n t1 t2 hl hb ho hn hi
  kspl_open w
  kspl_open p
  kspl_open loose
  kspl_open mean
  kspl_open mg
  kspl_open mb
  kspl_open A
  kspl_open l
  kspl_open sec
  kspl_open sy
  kspl_open now
  kspl_open o
  kspl_open items
  kspl_open n
  kspl_open t1
  kspl_open t2
  intro hl
  intro hb
  intro ho
  intro hn
  intro hi
  obtain ⟨nw, pl, f, fdx, fd, D, dx⟩ := A
  ((first | ((fail_if_success (fail_if_success (have zq : Mk dx := trivial))); revert dx) | have dx__n := True.intro); (first | ((fail_if_success (fail_if_success (have zq : Mk D := trivial))); revert D) | have D__n := True.intro); (first | ((fail_if_success (fail_if_success (have zq : Mk fd := trivial))); revert fd) | have fd__n := True.intro); (first | ((fail_if_success (fail_if_success (have zq : Mk fdx := trivial))); revert fdx) | have fdx__n := True.intro); (first | ((fail_if_success (fail_if_success (have zq : Mk f := trivial))); revert f) | have f__n := True.intro); (first | ((fail_if_success (fail_if_success (have zq : Mk pl := trivial))); revert pl) | have pl__n := True.intro); (first | ((fail_if_success (fail_if_success (have zq : Mk nw := trivial))); revert nw) | have nw__n := True.intro); (set_option tactic.hygienic false in repeat ((fail_if_success kln_w); with_reducible intro)); (first | clear nw__n | kspl_open nw); (set_option tactic.hygienic false in repeat ((fail_if_success kln_w); with_reducible intro)); (first | clear pl__n | kspl_open pl); (set_option tactic.hygienic false in repeat ((fail_if_success kln_w); with_reducible intro)); (first | clear f__n | kspl_open f); (set_option tactic.hygienic false in repeat ((fail_if_success kln_w); with_reducible intro)); (first | clear fdx__n | kspl_open fdx); (set_option tactic.hygienic false in repeat ((fail_if_success kln_w); with_reducible intro)); (first | clear fd__n | kspl_open fd); (set_option tactic.hygienic false in repeat ((fail_if_success kln_w); with_reducible intro)); (first | clear D__n | kspl_open D); (set_option tactic.hygienic false in repeat ((fail_if_success kln_w); with_reducible intro)); (first | clear dx__n | kspl_open dx); (set_option tactic.hygienic false in intros))
  obtain ⟨k, ofx, ofd, od, rfl, hfx, hofd, lo, hod, hnd⟩ := hl
  ((first | ((fail_if_success (fail_if_success (have zq : Mk hnd := trivial))); revert hnd) | have hnd__n := True.intro); (first | ((fail_if_success (fail_if_success (have zq : Mk hod := trivial))); revert hod) | have hod__n := True.intro); (first | ((fail_if_success (fail_if_success (have zq : Mk lo := trivial))); revert lo) | have lo__n := True.intro); (first | ((fail_if_success (fail_if_success (have zq : Mk hofd := trivial))); revert hofd) | have hofd__n := True.intro); (first | ((fail_if_success (fail_if_success (have zq : Mk hfx := trivial))); revert hfx) | have hfx__n := True.intro); (first | ((fail_if_success (fail_if_success (have zq : Mk od := trivial))); revert od) | have od__n := True.intro); (first | ((fail_if_success (fail_if_success (have zq : Mk ofd := trivial))); revert ofd) | have ofd__n := True.intro); (first | ((fail_if_success (fail_if_success (have zq : Mk ofx := trivial))); revert ofx) | have ofx__n := True.intro); (first | ((fail_if_success (fail_if_success (have zq : Mk k := trivial))); revert k) | have k__n := True.intro); (set_option tactic.hygienic false in repeat ((fail_if_success kln_w); with_reducible intro)); (first | clear k__n | kspl_open k); (set_option tactic.hygienic false in repeat ((fail_if_success kln_w); with_reducible intro)); (first | clear ofx__n | kspl_open ofx); (set_option tactic.hygienic false in repeat ((fail_if_success kln_w); with_reducible intro)); (first | clear ofd__n | kspl_open ofd); (set_option tactic.hygienic false in repeat ((fail_if_success kln_w); with_reducible intro)); (first | clear od__n | kspl_open od); (set_option tactic.hygienic false in repeat ((fail_if_success kln_w); with_reducible intro)); (first | clear hfx__n | kspl_open hfx); (set_option tactic.hygienic false in repeat ((fail_if_success kln_w); with_reducible intro)); (first | clear hofd__n | kspl_open hofd); (set_option tactic.hygienic false in repeat ((fail_if_success kln_w); with_reducible intro)); (first | clear lo__n | kspl_open lo); (set_option tactic.hygienic false in repeat ((fail_if_success kln_w); with_reducible intro)); (first | clear hod__n | kspl_open hod); (set_option tactic.hygienic false in repeat ((fail_if_success kln_w); with_reducible intro)); (first | clear hnd__n | kspl_open hnd); (set_option tactic.hygienic false in intros))
  obtain ⟨d1, rfl⟩ := hfx.o
  ((first | ((fail_if_success (fail_if_success (have zq : Mk d1 := trivial))); revert d1) | have d1__n := True.intro); (set_option tactic.hygienic false in repeat ((fail_if_success kln_w); with_reducible intro)); (first | clear d1__n | kspl_open d1); (set_option tactic.hygienic false in intros))
  obtain ⟨d2, rfl⟩ := hod.o
  ((first | ((fail_if_success (fail_if_success (have zq : Mk d2 := trivial))); revert d2) | have d2__n := True.intro); (set_option tactic.hygienic false in repeat ((fail_if_success kln_w); with_reducible intro)); (first | clear d2__n | kspl_open d2); (set_option tactic.hygienic false in intros))
  obtain ⟨⟨h1, h2, h3, h4, h5, h6⟩, ⟨i1, i2, i3, i4, i5⟩, ⟨j1, j2, j3, j4⟩, ⟨k1, k2, k3⟩, ⟨e1, e2⟩, e3⟩ := nq7 hnd
  dsimp only at hofd lo ⊢
  unfold ConC
  w_top off
  k_fill
  (kspl_open dp; kspl_open un; kspl_open cn; kspl_open cs; kspl_open a; kspl_open ccd; kspl_open cl; kspl_open outer; kspl_open A₀; kspl_open base; kspl_open h₀; kspl_open L; kspl_open m; kspl_open s; kspl_open Q; kspl_open E; intro B F X N T hk hp hd hu hret)
  refine wpC_call ?_
  k_dflt ktr_enter
  k_steps
  rename_i kF kN kK kR
  rw [List.push_toArray] at kN kR
  refine hret _ _ _ _ kF kN kK kR ⟨_, _, _, rfl, rfl, ⟨_, _, _, rfl⟩, ⟨_, _, _, _, rfl, fileO_D, hofd, lo, diskO_D, hnd⟩, ?_⟩
  refine not7 ?_
  repeat' (first | apply And.intro | k_ne)
theorem trunc_c (A : DS) (l : List (Addr × Obj)) (sec : Int) (sy now : Array UInt8) (items : List Value) (n : Nat) (t1 : Tok) (hl : DiskIs w A sec sy now items l) (hb : now.size ≤ 100) (hn : n ≤ 100) (hi : items.length ≤ 10) :
    ConC w p loose mean mg mb 242 [.ref A.f, .int (n : Nat) t1] l 12 200 anyH
      (fun _ _ v news' => ∃ x ot l', v = .none ∧ news' = (x, ot) :: l' ∧ TupO (Str.ofString "truncate") ⟨true, n, #[]⟩ ot ∧ DiskIs w A sec sy (cutO now n) (items ++ [.ref x]) l' ∧ x ∉ A.all) := by
  revert w p loose mean mg mb A l sec sy now items n t1 hl hb hn hi
  kspl_open w
  kspl_open p
  kspl_open loose
  kspl_open mean
  kspl_open mg
  kspl_open mb
  kspl_open A
  kspl_open l
  kspl_open sec
  kspl_open sy
  kspl_open now
  kspl_open items
  kspl_open n
  kspl_open t1
  intro hl
  intro hb
  intro hn
  intro hi
  obtain ⟨nw, pl, f, fdx, fd, D, dx⟩ := A
  ((first | ((fail_if_success (fail_if_success (have zq : Mk dx := trivial))); revert dx) | have dx__n := True.intro); (first | ((fail_if_success (fail_if_success (have zq : Mk D := trivial))); revert D) | have D__n := True.intro); (first | ((fail_if_success (fail_if_success (have zq : Mk fd := trivial))); revert fd) | have fd__n := True.intro); (first | ((fail_if_success (fail_if_success (have zq : Mk fdx := trivial))); revert fdx) | have fdx__n := True.intro); (first | ((fail_if_success (fail_if_success (have zq : Mk f := trivial))); revert f) | have f__n := True.intro); (first | ((fail_if_success (fail_if_success (have zq : Mk pl := trivial))); revert pl) | have pl__n := True.intro); (first | ((fail_if_success (fail_if_success (have zq : Mk nw := trivial))); revert nw) | have nw__n := True.intro); (set_option tactic.hygienic false in repeat ((fail_if_success kln_w); with_reducible intro)); (first | clear nw__n | kspl_open nw); (set_option tactic.hygienic false in repeat ((fail_if_success kln_w); with_reducible intro)); (first | clear pl__n | kspl_open pl); (set_option tactic.hygienic false in repeat ((fail_if_success kln_w); with_reducible intro)); (first | clear f__n | kspl_open f); (set_option tactic.hygienic false in repeat ((fail_if_success kln_w); with_reducible intro)); (first | clear fdx__n | kspl_open fdx); (set_option tactic.hygienic false in repeat ((fail_if_success kln_w); with_reducible intro)); (first | clear fd__n | kspl_open fd); (set_option tactic.hygienic false in repeat ((fail_if_success kln_w); with_reducible intro)); (first | clear D__n | kspl_open D); (set_option tactic.hygienic false in repeat ((fail_if_success kln_w); with_reducible intro)); (first | clear dx__n | kspl_open dx); (set_option tactic.hygienic false in intros))
  obtain ⟨k, ofx, ofd, od, rfl, hfx, hofd, lo, hod, hnd⟩ := hl
  ((first | ((fail_if_success (fail_if_success (have zq : Mk hnd := trivial))); revert hnd) | have hnd__n := True.intro); (first | ((fail_if_success (fail_if_success (have zq : Mk hod := trivial))); revert hod) | have hod__n := True.intro); (first | ((fail_if_success (fail_if_success (have zq : Mk lo := trivial))); revert lo) | have lo__n := True.intro); (first | ((fail_if_success (fail_if_success (have zq : Mk hofd := trivial))); revert hofd) | have hofd__n := True.intro); (first | ((fail_if_success (fail_if_success (have zq : Mk hfx := trivial))); revert hfx) | have hfx__n := True.intro); (first | ((fail_if_success (fail_if_success (have zq : Mk od := trivial))); revert od) | have od__n := True.intro); (first | ((fail_if_success (fail_if_success (have zq : Mk ofd := trivial))); revert ofd) | have ofd__n := True.intro); (first | ((fail_if_success (fail_if_success (have zq : Mk ofx := trivial))); revert ofx) | have ofx__n := True.intro); (first | ((fail_if_success (fail_if_success (have zq : Mk k := trivial))); revert k) | have k__n := True.intro); (set_option tactic.hygienic false in repeat ((fail_if_success kln_w); with_reducible intro)); (first | clear k__n | kspl_open k); (set_option tactic.hygienic false in repeat ((fail_if_success kln_w); with_reducible intro)); (first | clear ofx__n | kspl_open ofx); (set_option tactic.hygienic false in repeat ((fail_if_success kln_w); with_reducible intro)); (first | clear ofd__n | kspl_open ofd); (set_option tactic.hygienic false in repeat ((fail_if_success kln_w); with_reducible intro)); (first | clear od__n | kspl_open od); (set_option tactic.hygienic false in repeat ((fail_if_success kln_w); with_reducible intro)); (first | clear hfx__n | kspl_open hfx); (set_option tactic.hygienic false in repeat ((fail_if_success kln_w); with_reducible intro)); (first | clear hofd__n | kspl_open hofd); (set_option tactic.hygienic false in repeat ((fail_if_success kln_w); with_reducible intro)); (first | clear lo__n | kspl_open lo); (set_option tactic.hygienic false in repeat ((fail_if_success kln_w); with_reducible intro)); (first | clear hod__n | kspl_open hod); (set_option tactic.hygienic false in repeat ((fail_if_success kln_w); with_reducible intro)); (first | clear hnd__n | kspl_open hnd); (set_option tactic.hygienic false in intros))
  obtain ⟨d1, rfl⟩ := hfx.o
  ((first | ((fail_if_success (fail_if_success (have zq : Mk d1 := trivial))); revert d1) | have d1__n := True.intro); (set_option tactic.hygienic false in repeat ((fail_if_success kln_w); with_reducible intro)); (first | clear d1__n | kspl_open d1); (set_option tactic.hygienic false in intros))
  obtain ⟨d2, rfl⟩ := hod.o
  ((first | ((fail_if_success (fail_if_success (have zq : Mk d2 := trivial))); revert d2) | have d2__n := True.intro); (set_option tactic.hygienic false in repeat ((fail_if_success kln_w); with_reducible intro)); (first | clear d2__n | kspl_open d2); (set_option tactic.hygienic false in intros))
  obtain ⟨⟨h1, h2, h3, h4, h5, h6⟩, ⟨i1, i2, i3, i4, i5⟩, ⟨j1, j2, j3, j4⟩, ⟨k1, k2, k3⟩, ⟨e1, e2⟩, e3⟩ := nq7 hnd
  dsimp only at hofd lo ⊢
  unfold ConC
  w_top off
  k_fill
  (kspl_open dp; kspl_open un; kspl_open cn; kspl_open cs; kspl_open a; kspl_open ccd; kspl_open cl; kspl_open outer; kspl_open A₀; kspl_open base; kspl_open h₀; kspl_open L; kspl_open m; kspl_open s; kspl_open Q; kspl_open E; intro B F X N T hk hp hd hu hret)
  refine wpC_call ?_
  k_dflt ktr_enter
  k_steps
  rename_i kF kN kK kR
  rw [List.push_toArray] at kN kR
  refine hret _ _ _ _ kF kN kK kR ⟨_, _, _, rfl, rfl, ⟨_, _, _, rfl⟩, ⟨_, _, _, _, rfl, fileO_D, hofd, lo, diskO_D, hnd⟩, ?_⟩
  refine not7 ?_
  repeat' (first | apply And.intro | k_ne)
end
end
section
section
variable {w : World} {p : Program} {loose : List Str} {mean : ExcName → Option Value} {mg mb : Str → Option Value}
abbrev survV : List Str := [Str.ofString "word", Str.ofString "at", Str.ofString "octets", Str.ofString "number", Str.ofString "way", Str.ofString "sectors"]
theorem surv_c (D f fdx pl nw c cdx nl : Nat) (ofx od : Obj) (sy : Array UInt8) (items : List Value) (chs : List Ch) (k k2 : Nat) (vs : List Value) (ns : List Int) (sec : Nat) (st : Tok)
    (hfx : FileD w D sy pl nw ofx) (hod : ChoiceD w nl 0 od) (hvs : IntsAre vs ns) (hlen : ns.length ≤ 100) (hns : ∀ z ∈ ns, 0 ≤ z ∧ z < 40) (hsy : sy.size ≤ 25) (hc : chs.length ≤ 10) (hsec : 1 ≤ sec ∧ sec ≤ 8) (hnd : [pl, f, fdx, c, cdx, nl].Nodup) :
    ConC w p loose mean mg mb 263 [.ref f, .ref c, .int (sec : Nat) st] [(pl, listOf items.toArray k), (f, instObj 266 fdx), (fdx, ofx), (c, instObj 294 cdx), (cdx, od), (nl, listOf vs.toArray k2)] 12 200
      (fun h => ChsIn h (Str.ofString "truncate") items chs [pl, f, fdx, c, cdx, nl])
      (fun _ _ v news' => ∃ (x : Nat) (od' : Obj) (told' : Nat), v = .ref x ∧ news' = [(x, ba (applyAll sy (leftFrom sec ns 0 chs))), (pl, listOf items.toArray k), (f, instObj 266 fdx), (fdx, ofx), (c, instObj 294 cdx), (cdx, od'), (nl, listOf vs.toArray k2)] ∧ ChoiceD w nl told' od' ∧ (applyAll sy (leftFrom sec ns 0 chs)).size ≤ 25 ∧ LtAll x [pl, f, fdx, c, cdx, nl]) := by
  revert w p loose mean mg mb D f fdx pl nw c cdx nl ofx od sy items chs k k2 vs ns sec st hfx hod hvs hlen hns hsy hc hsec hnd
  kspl_open w
  kspl_open p
  kspl_open loose
  kspl_open mean
  kspl_open mg
  kspl_open mb
  kspl_open D
  kspl_open f
  kspl_open fdx
  kspl_open pl
  kspl_open nw
  kspl_open c
  kspl_open cdx
  kspl_open nl
  kspl_open ofx
  kspl_open od
  kspl_open sy
  kspl_open items
  kspl_open chs
  kspl_open k
  kspl_open k2
  kspl_open vs
  kspl_open ns
  kspl_open sec
  kspl_open st
  intro hfx
  intro hod
  intro hvs
  intro hlen
  intro hns
  intro hsy
  intro hc
  intro hsec
  intro hnd
  obtain ⟨dF, rfl⟩ := hfx.o
  ((first | ((fail_if_success (fail_if_success (have zq : Mk dF := trivial))); revert dF) | have dF__n := True.intro); (set_option tactic.hygienic false in repeat ((fail_if_success kln_w); with_reducible intro)); (first | clear dF__n | kspl_open dF); (set_option tactic.hygienic false in intros))
  have q1 : Nq pl f ∧ Nq pl fdx ∧ Nq pl c ∧ Nq pl cdx ∧ Nq pl nl ∧ Nq f fdx ∧ Nq f c ∧ Nq f cdx ∧ Nq f nl ∧ Nq fdx c ∧ Nq fdx cdx ∧ Nq fdx nl ∧ Nq c cdx ∧ Nq c nl ∧ Nq cdx nl := by
    simp only [List.nodup_cons, List.mem_cons, List.not_mem_nil, or_false, not_or, List.nodup_nil, and_true, not_false_eq_true] at hnd
    obtain ⟨⟨a1, a2, a3, a4, a5⟩, ⟨b1, b2, b3, b4⟩, ⟨c1, c2, c3⟩, ⟨d1, d2⟩, e⟩ := hnd
    exact ⟨⟨a1⟩, ⟨a2⟩, ⟨a3⟩, ⟨a4⟩, ⟨a5⟩, ⟨b1⟩, ⟨b2⟩, ⟨b3⟩, ⟨b4⟩, ⟨c1⟩, ⟨c2⟩, ⟨c3⟩, ⟨d1⟩, ⟨d2⟩, ⟨e⟩⟩
  obtain ⟨a1, a2, a3, a4, a5, b1, b2, b3, b4, c1, c2, c3, d1, d2, e⟩ := q1
  unfold ConC
  w_top off
  k_fill
  (kspl_open dp; kspl_open un; kspl_open cn; kspl_open cs; kspl_open a; kspl_open ccd; kspl_open cl; kspl_open outer; kspl_open A₀; kspl_open base; kspl_open h₀; kspl_open L; kspl_open m; kspl_open s; kspl_open Q; kspl_open E; intro B F X N T hk hp hd hu hret)
  refine wpC_call ?_
  k_dflt ktr_enter
  k_steps
  refine wpC_For ?_
  k_steps
  with_reducible rename Fr _ _ _ _ => F1
  with_reducible rename News _ _ _ _ => N1
  (try kso_lit)
  rename_i g' L' h2 KG FG B' X' T' x h1 l1 h3
  have hG : ChsIn g' (Str.ofString "truncate") items chs [pl, f, fdx, c, cdx, nl] := hp.kept KG
  have F2 : Fr g' L' h3 (fun y => if y = Str.ofString "left" then some (.ref x) else List.lookup y [(Str.ofString "sector", .int (sec : Nat) st), (Str.ofString "numbers", .ref c), (Str.ofString "self", .ref f)]) := F1
  clear F1
  refine forC (vs := items) (fun it i m₁ n₁ => OffV survV (fun y => if y = Str.ofString "left" then some (.ref x) else List.lookup y [(Str.ofString "sector", .int (sec : Nat) st), (Str.ofString "numbers", .ref c), (Str.ofString "self", .ref f)]) m₁ ∧
    LtAll it [x, pl, f, fdx, c, cdx, nl] ∧ ∃ od told b, n₁ = [(x, ba b), (pl, listOf items.toArray k), (f, instObj 266 fdx), (fdx, fileO w D sy pl nw dF), (c, instObj 294 cdx), (cdx, od), (nl, listOf vs.toArray k2)] ∧
      b = applyAll sy (leftFrom sec ns 0 (chs.take i)) ∧ b.size ≤ 25 ∧ ChoiceD w nl told od ∧ (ns ≠ [] → told = i)) rfl F2 N1 ⟨_, (N1 _ (.tail _ (.head _))).1, rfl, _, rfl⟩ ?zhl ?zhne ?zhgo ?zh0 ?zturn ?zdone
  case zhl =>
    rintro it i m n h ⟨_, _, od, told, b, rfl, _⟩ _ N
    exact ⟨_, (N _ (.tail _ (.head _))).1, rfl, _, rfl⟩
  case zhne =>
    rintro it i m n ⟨_, z, od, told, b, rfl, _⟩
    exact LtAll.all z
  case zhgo =>
    intro it i v s Q hv hit hq
    obtain ⟨j, hj⟩ := List.getElem?_of_mem hv
    have hlt : j < chs.length := by
      rw [← hG.1]
      rcases Nat.lt_or_ge j items.length with h | h
      · exact h
      · rw [List.getElem?_eq_none_iff.mpr h] at hj; cases hj
    obtain ⟨t, ot, rfl, _⟩ := hG.2 j v chs[j] hj (List.getElem?_eq_getElem hlt)
    exact wpAny_letOwnedTupleGo_listiter hit hq
  case zh0 =>
    intro it hit
    refine ⟨OffV.refl, ltAll hit, _, 0, _, rfl, rfl, hsy, hod, fun _ => rfl⟩
  case zdone =>
    rintro it m₁ n₁ h tk hit ⟨hoff, z, od5, told, b, rfl, hb, hbs, hod5, hto⟩ Fh Nh
    ((first | ((fail_if_success (fail_if_success (have zq : Mk Nh := trivial))); revert Nh) | have Nh__n := True.intro); (first | ((fail_if_success (fail_if_success (have zq : Mk Fh := trivial))); revert Fh) | have Fh__n := True.intro); (first | ((fail_if_success (fail_if_success (have zq : Mk hto := trivial))); revert hto) | have hto__n := True.intro); (first | ((fail_if_success (fail_if_success (have zq : Mk hod5 := trivial))); revert hod5) | have hod5__n := True.intro); (first | ((fail_if_success (fail_if_success (have zq : Mk hbs := trivial))); revert hbs) | have hbs__n := True.intro); (first | ((fail_if_success (fail_if_success (have zq : Mk hb := trivial))); revert hb) | have hb__n := True.intro); (first | ((fail_if_success (fail_if_success (have zq : Mk b := trivial))); revert b) | have b__n := True.intro); (first | ((fail_if_success (fail_if_success (have zq : Mk told := trivial))); revert told) | have told__n := True.intro); (first | ((fail_if_success (fail_if_success (have zq : Mk od5 := trivial))); revert od5) | have od5__n := True.intro); (first | ((fail_if_success (fail_if_success (have zq : Mk z := trivial))); revert z) | have z__n := True.intro); (first | ((fail_if_success (fail_if_success (have zq : Mk hoff := trivial))); revert hoff) | have hoff__n := True.intro); (first | ((fail_if_success (fail_if_success (have zq : Mk hit := trivial))); revert hit) | have hit__n := True.intro); (first | ((fail_if_success (fail_if_success (have zq : Mk tk := trivial))); revert tk) | have tk__n := True.intro); (first | ((fail_if_success (fail_if_success (have zq : Mk h := trivial))); revert h) | have h__n := True.intro); (first | ((fail_if_success (fail_if_success (have zq : Mk n₁ := trivial))); revert n₁) | have n₁__n := True.intro); (first | ((fail_if_success (fail_if_success (have zq : Mk m₁ := trivial))); revert m₁) | have m₁__n := True.intro); (first | ((fail_if_success (fail_if_success (have zq : Mk it := trivial))); revert it) | have it__n := True.intro); (set_option tactic.hygienic false in repeat ((fail_if_success kln_w); with_reducible intro)); (first | clear it__n | kspl_open it); (set_option tactic.hygienic false in repeat ((fail_if_success kln_w); with_reducible intro)); (first | clear m₁__n | kspl_open m₁); (set_option tactic.hygienic false in repeat ((fail_if_success kln_w); with_reducible intro)); (first | clear n₁__n | kspl_open n₁); (set_option tactic.hygienic false in repeat ((fail_if_success kln_w); with_reducible intro)); (first | clear h__n | kspl_open h); (set_option tactic.hygienic false in repeat ((fail_if_success kln_w); with_reducible intro)); (first | clear tk__n | kspl_open tk); (set_option tactic.hygienic false in repeat ((fail_if_success kln_w); with_reducible intro)); (first | clear hit__n | kspl_open hit); (set_option tactic.hygienic false in repeat ((fail_if_success kln_w); with_reducible intro)); (first | clear hoff__n | kspl_open hoff); (set_option tactic.hygienic false in repeat ((fail_if_success kln_w); with_reducible intro)); (first | clear z__n | kspl_open z); (set_option tactic.hygienic false in repeat ((fail_if_success kln_w); with_reducible intro)); (first | clear od5__n | kspl_open od5); (set_option tactic.hygienic false in repeat ((fail_if_success kln_w); with_reducible intro)); (first | clear told__n | kspl_open told); (set_option tactic.hygienic false in repeat ((fail_if_success kln_w); with_reducible intro)); (first | clear b__n | kspl_open b); (set_option tactic.hygienic false in repeat ((fail_if_success kln_w); with_reducible intro)); (first | clear hb__n | kspl_open hb); (set_option tactic.hygienic false in repeat ((fail_if_success kln_w); with_reducible intro)); (first | clear hbs__n | kspl_open hbs); (set_option tactic.hygienic false in repeat ((fail_if_success kln_w); with_reducible intro)); (first | clear hod5__n | kspl_open hod5); (set_option tactic.hygienic false in repeat ((fail_if_success kln_w); with_reducible intro)); (first | clear hto__n | kspl_open hto); (set_option tactic.hygienic false in repeat ((fail_if_success kln_w); with_reducible intro)); (first | clear Fh__n | kspl_open Fh); (set_option tactic.hygienic false in repeat ((fail_if_success kln_w); with_reducible intro)); (first | clear Nh__n | kspl_open Nh); (set_option tactic.hygienic false in intros))
    rw [hoff.eq] at Fh
    have hlen' : items.length = chs.length := hG.1
    rw [hlen', List.take_length] at hb
    dsimp only
    k_steps
    rename_i kF kN kK kR
    subst hb
    exact hret _ _ _ _ kF kN kK kR ⟨_, _, _, rfl, rfl, hod5, hbs, l1⟩
  case zturn =>
    have hNE : NoE := ⟨⟩
    rintro it i v m₁ n₁ h tk io _ hv ⟨hoff, z, od5, told, b, rfl, hb, hbs, hod5, hto⟩ Fh Nh
    rw [hoff.eq] at Fh
    obtain ⟨t, cut, pl', os, ta, tb, tc, rfl, hci, hot, hok⟩ := hG.pickv hv
    have hT : IsTup g' t #[.str (if cut then Str.ofString "truncate" else Str.ofString "write") ta, .int (pl' : Nat) tb, .bytes os tc] := ⟨_, hot, rfl, _, rfl⟩
    have hp1 := hok.pl
    have hp2 := hok.most
    dsimp only at hp1 hp2
    have hk0 := (num_in hns told).1
    cases cut
    · simp only [Bool.false_eq_true, if_false] at hT
      have ho1 : 1 ≤ os.size := hok.some rfl
      have stp := left_step (sec := sec) hci hb hto
      have hnn := hi_nonneg (num ns told) os.size sec hk0 ho1 hsec.1
      k_steps
      · refine' TurnC.ct ?zF ?zN ⟨?zoff, z, _, _, _, rfl, ?zhb, ?zhs, by assumption, ?zht⟩
        case zF => k_asm
        case zN => k_asm
        case zoff => repeat' (first | exact OffV.over | refine' OffV.step ?_ ?_ | exact List.Mem.head _ | refine' List.Mem.tail _ ?_)
        case zht => (intro e; have y1 := hto e; have y2 := ‹ns ≠ [] → _ = told + 1› e; omega)
        case zhb => rw [stp, left_lost ‹(num ns told).fmod 4 = 0›]; rfl
        case zhs => exact hbs
      · have htn := left_torn (pl := pl') hk0 ho1 hsec.1 ‹(num ns told).fmod 4 = 2›
        have hne : ¬ (os.extract 0 (((num ns told).fdiv 4).fmod (if ((os.size : Int) + sec - 1).fdiv sec > 1 then ((os.size : Int) + sec - 1).fdiv sec else 1) * sec).toNat).size = 0 := by
          intro e
          have h9 := ‹(_ != #[].toList) = true›
          rw [Array.eq_empty_of_size_eq_zero e] at h9
          exact absurd h9 (by decide)
        rw [if_neg hne] at htn
        refine' TurnC.nx ?zF ?zN ⟨?zoff, z, _, _, _, rfl, ?zhb, ?zhs, by assumption, ?zht⟩
        case zF => k_asm
        case zN => k_asm
        case zoff => repeat' (first | exact OffV.over | refine' OffV.step ?_ ?_ | exact List.Mem.head _ | refine' List.Mem.tail _ ?_)
        case zht => (intro e; have y1 := hto e; have y2 := ‹ns ≠ [] → _ = told + 1› e; omega)
        case zhb => rw [stp, htn]; rfl
        case zhs => rw [size_putO]; omega
      · have htn := left_torn (pl := pl') hk0 ho1 hsec.1 ‹(num ns told).fmod 4 = 2›
        have hne : (os.extract 0 (((num ns told).fdiv 4).fmod (if ((os.size : Int) + sec - 1).fdiv sec > 1 then ((os.size : Int) + sec - 1).fdiv sec else 1) * sec).toNat).size = 0 := by
          have h9 := ‹(_ != #[].toList) = false›
          simp only [bne_eq_false_iff_eq] at h9
          have := congrArg List.length h9
          simpa using this
        rw [if_pos hne] at htn
        refine' TurnC.nx ?zF ?zN ⟨?zoff, z, _, _, _, rfl, ?zhb, ?zhs, by assumption, ?zht⟩
        case zF => k_asm
        case zN => k_asm
        case zoff => repeat' (first | exact OffV.over | refine' OffV.step ?_ ?_ | exact List.Mem.head _ | refine' List.Mem.tail _ ?_)
        case zht => (intro e; have y1 := hto e; have y2 := ‹ns ≠ [] → _ = told + 1› e; omega)
        case zhb => rw [stp, htn]; rfl
        case zhs => exact hbs
      · refine' TurnC.nx ?zF ?zN ⟨?zoff, z, _, _, _, rfl, ?zhb, ?zhs, by assumption, ?zht⟩
        case zF => k_asm
        case zN => k_asm
        case zoff => repeat' (first | exact OffV.over | refine' OffV.step ?_ ?_ | exact List.Mem.head _ | refine' List.Mem.tail _ ?_)
        case zht => (intro e; have y1 := hto e; have y2 := ‹ns ≠ [] → _ = told + 1› e; omega)
        case zhb => rw [stp, left_kept ‹(num ns told).fmod 4 ≠ 0› ‹(num ns told).fmod 4 ≠ 2›]; rfl
        case zhs => rw [size_putO]; omega
      · exfalso
        have h9 := ‹(os.toList != #[].toList) = false›
        simp only [bne_eq_false_iff_eq] at h9
        have := congrArg List.length h9
        simp at this
        rw [this] at ho1
        exact absurd ho1 (by decide)
    · simp only [if_true] at hT
      have stp := left_step (sec := sec) hci hb hto
      k_steps
      · refine' TurnC.ct ?zF ?zN ⟨?zoff, z, _, _, _, rfl, ?zhb, ?zhs, by assumption, ?zht⟩
        case zF => k_asm
        case zN => k_asm
        case zoff => repeat' (first | exact OffV.over | refine' OffV.step ?_ ?_ | exact List.Mem.head _ | refine' List.Mem.tail _ ?_)
        case zht => (intro e; have y1 := hto e; have y2 := ‹ns ≠ [] → _ = told + 1› e; omega)
        case zhb => rw [stp, left_lost ‹(num ns told).fmod 4 = 0›]; rfl
        case zhs => exact hbs
      · refine' TurnC.ct ?zF ?zN ⟨?zoff, z, _, _, _, rfl, ?zhb, ?zhs, by assumption, ?zht⟩
        case zF => k_asm
        case zN => k_asm
        case zoff => repeat' (first | exact OffV.over | refine' OffV.step ?_ ?_ | exact List.Mem.head _ | refine' List.Mem.tail _ ?_)
        case zht => (intro e; have y1 := hto e; have y2 := ‹ns ≠ [] → _ = told + 1› e; omega)
        case zhb => rw [stp, left_kept ‹(num ns told).fmod 4 ≠ 0› ‹(num ns told).fmod 4 ≠ 2›]; rfl
        case zhs => rw [size_cutO]; omega
      · refine' TurnC.ct ?zF ?zN ⟨?zoff, z, _, _, _, rfl, ?zhb, ?zhs, by assumption, ?zht⟩
        case zF => k_asm
        case zN => k_asm
        case zoff => repeat' (first | exact OffV.over | refine' OffV.step ?_ ?_ | exact List.Mem.head _ | refine' List.Mem.tail _ ?_)
        case zht => (intro e; have y1 := hto e; have y2 := ‹ns ≠ [] → _ = told + 1› e; omega)
        case zhb => rw [stp, left_cut ‹(num ns told).fmod 4 = 2› rfl]; rfl
        case zhs => exact hbs
end
end
section
section
variable {w : World} {p : Program} {loose : List Str} {mean : ExcName → Option Value} {mg mb : Str → Option Value}
theorem survivor_c (A : DS) (l : List (Addr × Obj)) (sec : Nat) (sy now : Array UInt8) (items : List Value) (chs : List Ch) (ql kq : Nat) (vs : List Value) (ns : List Int)
    (hl : DiskIs w A sec sy now items l) (hvs : IntsAre vs ns) (hlen : ns.length ≤ 100) (hns : ∀ z ∈ ns, 0 ≤ z ∧ z < 40) (hsy : sy.size ≤ 25) (hc : chs.length ≤ 10) (hsec : 1 ≤ sec ∧ sec ≤ 8) (hq : ql ∉ A.all) :
    ConC w p loose mean mg mb 362 [.ref A.D, .ref ql] ((ql, listOf vs.toArray kq) :: l) 30 500
      (fun h => ChsIn h (Str.ofString "truncate") items chs (ql :: A.all))
      (fun _ _ v news' => ∃ (A' : DS) (l' : List (Addr × Obj)), v = .ref A'.D ∧ news' = l' ++ ((ql, listOf vs.toArray kq) :: l) ∧ DiskIs w A' sec (applyAll sy (leftFrom sec ns 0 chs)) (applyAll sy (leftFrom sec ns 0 chs)) [] l' ∧ (applyAll sy (leftFrom sec ns 0 chs)).size ≤ 25 ∧
        ∀ a ∈ A'.all, a ∉ ql :: A.all) := by
  revert w p loose mean mg mb A l sec sy now items chs ql kq vs ns hl hvs hlen hns hsy hc hsec hq
  kspl_open w
  kspl_open p
  kspl_open loose
  kspl_open mean
  kspl_open mg
  kspl_open mb
  kspl_open A
  kspl_open l
  kspl_open sec
  kspl_open sy
  kspl_open now
  kspl_open items
  kspl_open chs
  kspl_open ql
  kspl_open kq
  kspl_open vs
  kspl_open ns
  intro hl
  intro hvs
  intro hlen
  intro hns
  intro hsy
  intro hc
  intro hsec
  intro hq
  obtain ⟨nw, pl, f, fdx, fd, D, dx⟩ := A
  ((first | ((fail_if_success (fail_if_success (have zq : Mk dx := trivial))); revert dx) | have dx__n := True.intro); (first | ((fail_if_success (fail_if_success (have zq : Mk D := trivial))); revert D) | have D__n := True.intro); (first | ((fail_if_success (fail_if_success (have zq : Mk fd := trivial))); revert fd) | have fd__n := True.intro); (first | ((fail_if_success (fail_if_success (have zq : Mk fdx := trivial))); revert fdx) | have fdx__n := True.intro); (first | ((fail_if_success (fail_if_success (have zq : Mk f := trivial))); revert f) | have f__n := True.intro); (first | ((fail_if_success (fail_if_success (have zq : Mk pl := trivial))); revert pl) | have pl__n := True.intro); (first | ((fail_if_success (fail_if_success (have zq : Mk nw := trivial))); revert nw) | have nw__n := True.intro); (set_option tactic.hygienic false in repeat ((fail_if_success kln_w); with_reducible intro)); (first | clear nw__n | kspl_open nw); (set_option tactic.hygienic false in repeat ((fail_if_success kln_w); with_reducible intro)); (first | clear pl__n | kspl_open pl); (set_option tactic.hygienic false in repeat ((fail_if_success kln_w); with_reducible intro)); (first | clear f__n | kspl_open f); (set_option tactic.hygienic false in repeat ((fail_if_success kln_w); with_reducible intro)); (first | clear fdx__n | kspl_open fdx); (set_option tactic.hygienic false in repeat ((fail_if_success kln_w); with_reducible intro)); (first | clear fd__n | kspl_open fd); (set_option tactic.hygienic false in repeat ((fail_if_success kln_w); with_reducible intro)); (first | clear D__n | kspl_open D); (set_option tactic.hygienic false in repeat ((fail_if_success kln_w); with_reducible intro)); (first | clear dx__n | kspl_open dx); (set_option tactic.hygienic false in intros))
  obtain ⟨k, ofx, ofd, od, rfl, hfx, hofd, lo, hod, hnd⟩ := hl
  ((first | ((fail_if_success (fail_if_success (have zq : Mk hnd := trivial))); revert hnd) | have hnd__n := True.intro); (first | ((fail_if_success (fail_if_success (have zq : Mk hod := trivial))); revert hod) | have hod__n := True.intro); (first | ((fail_if_success (fail_if_success (have zq : Mk lo := trivial))); revert lo) | have lo__n := True.intro); (first | ((fail_if_success (fail_if_success (have zq : Mk hofd := trivial))); revert hofd) | have hofd__n := True.intro); (first | ((fail_if_success (fail_if_success (have zq : Mk hfx := trivial))); revert hfx) | have hfx__n := True.intro); (first | ((fail_if_success (fail_if_success (have zq : Mk od := trivial))); revert od) | have od__n := True.intro); (first | ((fail_if_success (fail_if_success (have zq : Mk ofd := trivial))); revert ofd) | have ofd__n := True.intro); (first | ((fail_if_success (fail_if_success (have zq : Mk ofx := trivial))); revert ofx) | have ofx__n := True.intro); (first | ((fail_if_success (fail_if_success (have zq : Mk k := trivial))); revert k) | have k__n := True.intro); (set_option tactic.hygienic false in repeat ((fail_if_success kln_w); with_reducible intro)); (first | clear k__n | kspl_open k); (set_option tactic.hygienic false in repeat ((fail_if_success kln_w); with_reducible intro)); (first | clear ofx__n | kspl_open ofx); (set_option tactic.hygienic false in repeat ((fail_if_success kln_w); with_reducible intro)); (first | clear ofd__n | kspl_open ofd); (set_option tactic.hygienic false in repeat ((fail_if_success kln_w); with_reducible intro)); (first | clear od__n | kspl_open od); (set_option tactic.hygienic false in repeat ((fail_if_success kln_w); with_reducible intro)); (first | clear hfx__n | kspl_open hfx); (set_option tactic.hygienic false in repeat ((fail_if_success kln_w); with_reducible intro)); (first | clear hofd__n | kspl_open hofd); (set_option tactic.hygienic false in repeat ((fail_if_success kln_w); with_reducible intro)); (first | clear lo__n | kspl_open lo); (set_option tactic.hygienic false in repeat ((fail_if_success kln_w); with_reducible intro)); (first | clear hod__n | kspl_open hod); (set_option tactic.hygienic false in repeat ((fail_if_success kln_w); with_reducible intro)); (first | clear hnd__n | kspl_open hnd); (set_option tactic.hygienic false in intros))
  have qs : Nq ql nw ∧ Nq ql pl ∧ Nq ql f ∧ Nq ql fdx ∧ Nq ql fd ∧ Nq ql D ∧ Nq ql dx := by
    simp only [DS.all, List.mem_cons, List.not_mem_nil, or_false, not_or] at hq
    exact ⟨⟨hq.1⟩, ⟨hq.2.1⟩, ⟨hq.2.2.1⟩, ⟨hq.2.2.2.1⟩, ⟨hq.2.2.2.2.1⟩, ⟨hq.2.2.2.2.2.1⟩, ⟨hq.2.2.2.2.2.2⟩⟩
  obtain ⟨m1, m2, m3, m4, m5, m6, m7⟩ := qs
  have hfx2 := hfx
  have hod2 := hod
  obtain ⟨dF, rfl⟩ := hfx.o
  ((first | ((fail_if_success (fail_if_success (have zq : Mk dF := trivial))); revert dF) | have dF__n := True.intro); (set_option tactic.hygienic false in repeat ((fail_if_success kln_w); with_reducible intro)); (first | clear dF__n | kspl_open dF); (set_option tactic.hygienic false in intros))
  obtain ⟨dD, rfl⟩ := hod.o
  ((first | ((fail_if_success (fail_if_success (have zq : Mk dD := trivial))); revert dD) | have dD__n := True.intro); (set_option tactic.hygienic false in repeat ((fail_if_success kln_w); with_reducible intro)); (first | clear dD__n | kspl_open dD); (set_option tactic.hygienic false in intros))
  obtain ⟨⟨h1, h2, h3, h4, h5, h6⟩, ⟨i1, i2, i3, i4, i5⟩, ⟨j1, j2, j3, j4⟩, ⟨k1, k2, k3⟩, ⟨e1, e2⟩, e3⟩ := nq7 hnd
  dsimp only at hofd lo ⊢
  unfold ConC
  w_top off
  k_fill
  (kspl_open dp; kspl_open un; kspl_open cn; kspl_open cs; kspl_open a; kspl_open ccd; kspl_open cl; kspl_open outer; kspl_open A₀; kspl_open base; kspl_open h₀; kspl_open L; kspl_open m; kspl_open s; kspl_open Q; kspl_open E; intro B F X N T hk hp hd hu hret)
  refine wpC_call ?_
  k_dflt ktr_enter
  have hG := ChsIn.kept hp ‹Kept s.heap _ _›
  k_steps
  with_reducible rename News _ _ _ _ => N9
  have O9 := Old.of N9
  simp only [addrs, List.map_cons, List.map_nil] at O9
  k_dflt (refine' usePA (disk2_c _ _) ?zB ?zF ?zX N9 ?zT ?zhk Part.nil ?zO trivial ?zhd ?zhu ?_; (case zB => k_asm); (case zF => k_asm); (case zX => k_asm); (case zT => k_asm); (case zhk => exact rfl); (case zO => exact fun q hq a ha => nomatch ha); (case zhd => ktr_room); (case zhu => ktr_units))
  rintro v0 n0 h0 tk0 F0 N0 R0 K0 ⟨D', dx', fd', od', ofd', rfl, rfl, hdD', hofd', lo', l1', l2'⟩
  ((first | ((fail_if_success (fail_if_success (have zq : Mk l2' := trivial))); revert l2') | have l2'__n := True.intro); (first | ((fail_if_success (fail_if_success (have zq : Mk l1' := trivial))); revert l1') | have l1'__n := True.intro); (first | ((fail_if_success (fail_if_success (have zq : Mk lo' := trivial))); revert lo') | have lo'__n := True.intro); (first | ((fail_if_success (fail_if_success (have zq : Mk hofd' := trivial))); revert hofd') | have hofd'__n := True.intro); (first | ((fail_if_success (fail_if_success (have zq : Mk hdD' := trivial))); revert hdD') | have hdD'__n := True.intro); (first | ((fail_if_success (fail_if_success (have zq : Mk ofd' := trivial))); revert ofd') | have ofd'__n := True.intro); (first | ((fail_if_success (fail_if_success (have zq : Mk od' := trivial))); revert od') | have od'__n := True.intro); (first | ((fail_if_success (fail_if_success (have zq : Mk fd' := trivial))); revert fd') | have fd'__n := True.intro); (first | ((fail_if_success (fail_if_success (have zq : Mk dx' := trivial))); revert dx') | have dx'__n := True.intro); (first | ((fail_if_success (fail_if_success (have zq : Mk D' := trivial))); revert D') | have D'__n := True.intro); (first | ((fail_if_success (fail_if_success (have zq : Mk K0 := trivial))); revert K0) | have K0__n := True.intro); (first | ((fail_if_success (fail_if_success (have zq : Mk R0 := trivial))); revert R0) | have R0__n := True.intro); (first | ((fail_if_success (fail_if_success (have zq : Mk N0 := trivial))); revert N0) | have N0__n := True.intro); (first | ((fail_if_success (fail_if_success (have zq : Mk F0 := trivial))); revert F0) | have F0__n := True.intro); (first | ((fail_if_success (fail_if_success (have zq : Mk tk0 := trivial))); revert tk0) | have tk0__n := True.intro); (first | ((fail_if_success (fail_if_success (have zq : Mk h0 := trivial))); revert h0) | have h0__n := True.intro); (first | ((fail_if_success (fail_if_success (have zq : Mk n0 := trivial))); revert n0) | have n0__n := True.intro); (first | ((fail_if_success (fail_if_success (have zq : Mk v0 := trivial))); revert v0) | have v0__n := True.intro); (set_option tactic.hygienic false in repeat ((fail_if_success kln_w); with_reducible intro)); (first | clear v0__n | kspl_open v0); (set_option tactic.hygienic false in repeat ((fail_if_success kln_w); with_reducible intro)); (first | clear n0__n | kspl_open n0); (set_option tactic.hygienic false in repeat ((fail_if_success kln_w); with_reducible intro)); (first | clear h0__n | kspl_open h0); (set_option tactic.hygienic false in repeat ((fail_if_success kln_w); with_reducible intro)); (first | clear tk0__n | kspl_open tk0); (set_option tactic.hygienic false in repeat ((fail_if_success kln_w); with_reducible intro)); (first | clear F0__n | kspl_open F0); (set_option tactic.hygienic false in repeat ((fail_if_success kln_w); with_reducible intro)); (first | clear N0__n | kspl_open N0); (set_option tactic.hygienic false in repeat ((fail_if_success kln_w); with_reducible intro)); (first | clear R0__n | kspl_open R0); (set_option tactic.hygienic false in repeat ((fail_if_success kln_w); with_reducible intro)); (first | clear K0__n | kspl_open K0); (set_option tactic.hygienic false in repeat ((fail_if_success kln_w); with_reducible intro)); (first | clear D'__n | kspl_open D'); (set_option tactic.hygienic false in repeat ((fail_if_success kln_w); with_reducible intro)); (first | clear dx'__n | kspl_open dx'); (set_option tactic.hygienic false in repeat ((fail_if_success kln_w); with_reducible intro)); (first | clear fd'__n | kspl_open fd'); (set_option tactic.hygienic false in repeat ((fail_if_success kln_w); with_reducible intro)); (first | clear od'__n | kspl_open od'); (set_option tactic.hygienic false in repeat ((fail_if_success kln_w); with_reducible intro)); (first | clear ofd'__n | kspl_open ofd'); (set_option tactic.hygienic false in repeat ((fail_if_success kln_w); with_reducible intro)); (first | clear hdD'__n | kspl_open hdD'); (set_option tactic.hygienic false in repeat ((fail_if_success kln_w); with_reducible intro)); (first | clear hofd'__n | kspl_open hofd'); (set_option tactic.hygienic false in repeat ((fail_if_success kln_w); with_reducible intro)); (first | clear lo'__n | kspl_open lo'); (set_option tactic.hygienic false in repeat ((fail_if_success kln_w); with_reducible intro)); (first | clear l1'__n | kspl_open l1'); (set_option tactic.hygienic false in repeat ((fail_if_success kln_w); with_reducible intro)); (first | clear l2'__n | kspl_open l2'); (set_option tactic.hygienic false in intros))
  have y1 : Nq fd' D' := ⟨Nat.ne_of_gt l2'⟩
  have y2 : Nq D' dx' := ⟨Nat.ne_of_gt l1'⟩
  have y3 : Nq fd' dx' := ⟨Nat.ne_of_gt (Nat.lt_trans l1' l2')⟩
  have g1 : Gone _ fd' := gone_of (R0 _ (.head _)) (fun h => nomatch h)
  have g2 : Gone _ D' := gone_of (R0 _ (.tail _ (.head _))) (fun h => nomatch h)
  have g3 : Gone _ dx' := gone_of (R0 _ (.tail _ (.tail _ (.head _)))) (fun h => nomatch h)
  clear R0 K0
  try simp only [List.cons_append, List.nil_append] at N0
  k_sweep
  k_steps
  refine wpC_For ?_
  k_steps
  (try kso_lit)
  rename_i B' h4 tk4 tB l4 h5 k5 F5 N5
  obtain ⟨dE, rfl⟩ := hdD'.o
  ((first | ((fail_if_success (fail_if_success (have zq : Mk dE := trivial))); revert dE) | have dE__n := True.intro); (set_option tactic.hygienic false in repeat ((fail_if_success kln_w); with_reducible intro)); (first | clear dE__n | kspl_open dE); (set_option tactic.hygienic false in intros))
  refine forC1V [Str.ofString "name", Str.ofString "file", Str.ofString "left"] (fun it n₁ => (∀ q ∈ n₁, q.1 ≠ it) ∧ ∃ (A' : DS) (l' : List (Addr × Obj)), A'.D = D' ∧ DiskIs w A' sec (applyAll sy (leftFrom sec ns 0 chs)) (applyAll sy (leftFrom sec ns 0 chs)) [] l' ∧ (applyAll sy (leftFrom sec ns 0 chs)).size ≤ 25 ∧ (∀ a ∈ A'.all, a ∉ [ql, nw, pl, f, fdx, fd, D, dx]) ∧
    n₁ = l' ++ [(ql, listOf vs.toArray kq), (nw, ba now), (pl, listOf items.toArray k), (f, instObj 266 fdx), (fdx, fileO w D sy pl nw dF), (fd, ofd), (D, instObj 372 dx), (dx, diskO w sec fd dD)] ++ [(B', listOf #[.str (Str.ofString "a") tB] k5)]) rfl F5 N5 ⟨_, List.Mem.head _⟩ ?zhl ?zhne ?zhgo ?zturn ?zdone
  case zhl =>
    rintro it n ⟨_, A', l', _, _, _, _, rfl⟩
    exact ⟨_, List.mem_append_right _ (.head _)⟩
  case zhne => exact fun it n j => j.1
  case zhgo => exact fun it i v s Q hv hit hq => by obtain rfl := List.mem_singleton.mp hv; exact wpAny_pure hq
  case zdone =>
    rintro it u n₁ h tk hit ⟨_, A', l', rfl, hDI, hsz, hoff, rfl⟩ Fh Nh
    ((first | ((fail_if_success (fail_if_success (have zq : Mk Nh := trivial))); revert Nh) | have Nh__n := True.intro); (first | ((fail_if_success (fail_if_success (have zq : Mk Fh := trivial))); revert Fh) | have Fh__n := True.intro); (first | ((fail_if_success (fail_if_success (have zq : Mk hoff := trivial))); revert hoff) | have hoff__n := True.intro); (first | ((fail_if_success (fail_if_success (have zq : Mk hsz := trivial))); revert hsz) | have hsz__n := True.intro); (first | ((fail_if_success (fail_if_success (have zq : Mk hDI := trivial))); revert hDI) | have hDI__n := True.intro); (first | ((fail_if_success (fail_if_success (have zq : Mk l' := trivial))); revert l') | have l'__n := True.intro); (first | ((fail_if_success (fail_if_success (have zq : Mk A' := trivial))); revert A') | have A'__n := True.intro); (first | ((fail_if_success (fail_if_success (have zq : Mk hit := trivial))); revert hit) | have hit__n := True.intro); (first | ((fail_if_success (fail_if_success (have zq : Mk tk := trivial))); revert tk) | have tk__n := True.intro); (first | ((fail_if_success (fail_if_success (have zq : Mk h := trivial))); revert h) | have h__n := True.intro); (first | ((fail_if_success (fail_if_success (have zq : Mk n₁ := trivial))); revert n₁) | have n₁__n := True.intro); (first | ((fail_if_success (fail_if_success (have zq : Mk u := trivial))); revert u) | have u__n := True.intro); (first | ((fail_if_success (fail_if_success (have zq : Mk it := trivial))); revert it) | have it__n := True.intro); (set_option tactic.hygienic false in repeat ((fail_if_success kln_w); with_reducible intro)); (first | clear it__n | kspl_open it); (set_option tactic.hygienic false in repeat ((fail_if_success kln_w); with_reducible intro)); (first | clear u__n | kspl_open u); (set_option tactic.hygienic false in repeat ((fail_if_success kln_w); with_reducible intro)); (first | clear n₁__n | kspl_open n₁); (set_option tactic.hygienic false in repeat ((fail_if_success kln_w); with_reducible intro)); (first | clear h__n | kspl_open h); (set_option tactic.hygienic false in repeat ((fail_if_success kln_w); with_reducible intro)); (first | clear tk__n | kspl_open tk); (set_option tactic.hygienic false in repeat ((fail_if_success kln_w); with_reducible intro)); (first | clear hit__n | kspl_open hit); (set_option tactic.hygienic false in repeat ((fail_if_success kln_w); with_reducible intro)); (first | clear A'__n | kspl_open A'); (set_option tactic.hygienic false in repeat ((fail_if_success kln_w); with_reducible intro)); (first | clear l'__n | kspl_open l'); (set_option tactic.hygienic false in repeat ((fail_if_success kln_w); with_reducible intro)); (first | clear hDI__n | kspl_open hDI); (set_option tactic.hygienic false in repeat ((fail_if_success kln_w); with_reducible intro)); (first | clear hsz__n | kspl_open hsz); (set_option tactic.hygienic false in repeat ((fail_if_success kln_w); with_reducible intro)); (first | clear hoff__n | kspl_open hoff); (set_option tactic.hygienic false in repeat ((fail_if_success kln_w); with_reducible intro)); (first | clear Fh__n | kspl_open Fh); (set_option tactic.hygienic false in repeat ((fail_if_success kln_w); with_reducible intro)); (first | clear Nh__n | kspl_open Nh); (set_option tactic.hygienic false in intros))
    dsimp only
    k_steps
    rename_i kF kN kK kR
    exact hret _ _ _ _ kF (newsAll kN fun q hq => List.mem_append_left _ hq) kK (fun q hq => kR q (List.mem_append_left _ hq)) ⟨A', l', rfl, rfl, hDI, hsz, hoff⟩
  case zturn =>
    intro it h tk io hit Fh Nh
    ((first | ((fail_if_success (fail_if_success (have zq : Mk Nh := trivial))); revert Nh) | have Nh__n := True.intro); (first | ((fail_if_success (fail_if_success (have zq : Mk Fh := trivial))); revert Fh) | have Fh__n := True.intro); (first | ((fail_if_success (fail_if_success (have zq : Mk hit := trivial))); revert hit) | have hit__n := True.intro); (first | ((fail_if_success (fail_if_success (have zq : Mk io := trivial))); revert io) | have io__n := True.intro); (first | ((fail_if_success (fail_if_success (have zq : Mk tk := trivial))); revert tk) | have tk__n := True.intro); (first | ((fail_if_success (fail_if_success (have zq : Mk h := trivial))); revert h) | have h__n := True.intro); (first | ((fail_if_success (fail_if_success (have zq : Mk it := trivial))); revert it) | have it__n := True.intro); (set_option tactic.hygienic false in repeat ((fail_if_success kln_w); with_reducible intro)); (first | clear it__n | kspl_open it); (set_option tactic.hygienic false in repeat ((fail_if_success kln_w); with_reducible intro)); (first | clear h__n | kspl_open h); (set_option tactic.hygienic false in repeat ((fail_if_success kln_w); with_reducible intro)); (first | clear tk__n | kspl_open tk); (set_option tactic.hygienic false in repeat ((fail_if_success kln_w); with_reducible intro)); (first | clear io__n | kspl_open io); (set_option tactic.hygienic false in repeat ((fail_if_success kln_w); with_reducible intro)); (first | clear hit__n | kspl_open hit); (set_option tactic.hygienic false in repeat ((fail_if_success kln_w); with_reducible intro)); (first | clear Fh__n | kspl_open Fh); (set_option tactic.hygienic false in repeat ((fail_if_success kln_w); with_reducible intro)); (first | clear Nh__n | kspl_open Nh); (set_option tactic.hygienic false in intros))
    dsimp only
    k_lt hit
    have hS9 : Stop := ⟨⟩
    k_steps
    try unfold Halt
    with_reducible rename News _ _ _ _ => N6
    have O6 := Old.of N6
    simp only [addrs, List.map_cons, List.map_nil] at O6
    k_dflt (refine' usePC (open_c _ _ _ _ _ _ _ diskO_D hofd' lo' ?zn1 ?zn2 ?zn3) ?zB ?zF ?zX N6 ?zT ?zhk ?zP ?zO trivial ?zhd ?zhu ?_; (case zB => k_asm); (case zF => k_asm); (case zX => k_asm); (case zT => k_asm); (case zhk => exact rfl); (case zP => repeat' (first | exact Part.nil | refine' Part.cons ?_ ?_ | exact Pick.head | refine' Pick.tail ?_)); (case zO => (intro q hq a ha; revert a ha; revert q hq; (repeat' (first | exact List.forall_mem_nil _ | refine List.forall_mem_cons.mpr ⟨?_, ?_⟩)) <;> k_ne)); (case zn1 => k_ne); (case zn2 => k_ne); (case zn3 => k_ne); (case zhd => ktr_room); (case zhu => ktr_units))
    rintro v9 n9 h9 tk9 F9 N9 R9 K9 ⟨⟨nw9, pl9, f9, fdx9, fd9, D9, dx9⟩, rfl, eD, efd, edx, k9, ofx9, ofd9, od9, rfl, hfx9, hofd9, lo9, hod9, hnd9⟩
    ((first | ((fail_if_success (fail_if_success (have zq : Mk hnd9 := trivial))); revert hnd9) | have hnd9__n := True.intro); (first | ((fail_if_success (fail_if_success (have zq : Mk hod9 := trivial))); revert hod9) | have hod9__n := True.intro); (first | ((fail_if_success (fail_if_success (have zq : Mk lo9 := trivial))); revert lo9) | have lo9__n := True.intro); (first | ((fail_if_success (fail_if_success (have zq : Mk hofd9 := trivial))); revert hofd9) | have hofd9__n := True.intro); (first | ((fail_if_success (fail_if_success (have zq : Mk hfx9 := trivial))); revert hfx9) | have hfx9__n := True.intro); (first | ((fail_if_success (fail_if_success (have zq : Mk od9 := trivial))); revert od9) | have od9__n := True.intro); (first | ((fail_if_success (fail_if_success (have zq : Mk ofd9 := trivial))); revert ofd9) | have ofd9__n := True.intro); (first | ((fail_if_success (fail_if_success (have zq : Mk ofx9 := trivial))); revert ofx9) | have ofx9__n := True.intro); (first | ((fail_if_success (fail_if_success (have zq : Mk k9 := trivial))); revert k9) | have k9__n := True.intro); (first | ((fail_if_success (fail_if_success (have zq : Mk edx := trivial))); revert edx) | have edx__n := True.intro); (first | ((fail_if_success (fail_if_success (have zq : Mk efd := trivial))); revert efd) | have efd__n := True.intro); (first | ((fail_if_success (fail_if_success (have zq : Mk eD := trivial))); revert eD) | have eD__n := True.intro); (first | ((fail_if_success (fail_if_success (have zq : Mk dx9 := trivial))); revert dx9) | have dx9__n := True.intro); (first | ((fail_if_success (fail_if_success (have zq : Mk D9 := trivial))); revert D9) | have D9__n := True.intro); (first | ((fail_if_success (fail_if_success (have zq : Mk fd9 := trivial))); revert fd9) | have fd9__n := True.intro); (first | ((fail_if_success (fail_if_success (have zq : Mk fdx9 := trivial))); revert fdx9) | have fdx9__n := True.intro); (first | ((fail_if_success (fail_if_success (have zq : Mk f9 := trivial))); revert f9) | have f9__n := True.intro); (first | ((fail_if_success (fail_if_success (have zq : Mk pl9 := trivial))); revert pl9) | have pl9__n := True.intro); (first | ((fail_if_success (fail_if_success (have zq : Mk nw9 := trivial))); revert nw9) | have nw9__n := True.intro); (first | ((fail_if_success (fail_if_success (have zq : Mk K9 := trivial))); revert K9) | have K9__n := True.intro); (first | ((fail_if_success (fail_if_success (have zq : Mk R9 := trivial))); revert R9) | have R9__n := True.intro); (first | ((fail_if_success (fail_if_success (have zq : Mk N9 := trivial))); revert N9) | have N9__n := True.intro); (first | ((fail_if_success (fail_if_success (have zq : Mk F9 := trivial))); revert F9) | have F9__n := True.intro); (first | ((fail_if_success (fail_if_success (have zq : Mk tk9 := trivial))); revert tk9) | have tk9__n := True.intro); (first | ((fail_if_success (fail_if_success (have zq : Mk h9 := trivial))); revert h9) | have h9__n := True.intro); (first | ((fail_if_success (fail_if_success (have zq : Mk n9 := trivial))); revert n9) | have n9__n := True.intro); (first | ((fail_if_success (fail_if_success (have zq : Mk v9 := trivial))); revert v9) | have v9__n := True.intro); (set_option tactic.hygienic false in repeat ((fail_if_success kln_w); with_reducible intro)); (first | clear v9__n | kspl_open v9); (set_option tactic.hygienic false in repeat ((fail_if_success kln_w); with_reducible intro)); (first | clear n9__n | kspl_open n9); (set_option tactic.hygienic false in repeat ((fail_if_success kln_w); with_reducible intro)); (first | clear h9__n | kspl_open h9); (set_option tactic.hygienic false in repeat ((fail_if_success kln_w); with_reducible intro)); (first | clear tk9__n | kspl_open tk9); (set_option tactic.hygienic false in repeat ((fail_if_success kln_w); with_reducible intro)); (first | clear F9__n | kspl_open F9); (set_option tactic.hygienic false in repeat ((fail_if_success kln_w); with_reducible intro)); (first | clear N9__n | kspl_open N9); (set_option tactic.hygienic false in repeat ((fail_if_success kln_w); with_reducible intro)); (first | clear R9__n | kspl_open R9); (set_option tactic.hygienic false in repeat ((fail_if_success kln_w); with_reducible intro)); (first | clear K9__n | kspl_open K9); (set_option tactic.hygienic false in repeat ((fail_if_success kln_w); with_reducible intro)); (first | clear nw9__n | kspl_open nw9); (set_option tactic.hygienic false in repeat ((fail_if_success kln_w); with_reducible intro)); (first | clear pl9__n | kspl_open pl9); (set_option tactic.hygienic false in repeat ((fail_if_success kln_w); with_reducible intro)); (first | clear f9__n | kspl_open f9); (set_option tactic.hygienic false in repeat ((fail_if_success kln_w); with_reducible intro)); (first | clear fdx9__n | kspl_open fdx9); (set_option tactic.hygienic false in repeat ((fail_if_success kln_w); with_reducible intro)); (first | clear fd9__n | kspl_open fd9); (set_option tactic.hygienic false in repeat ((fail_if_success kln_w); with_reducible intro)); (first | clear D9__n | kspl_open D9); (set_option tactic.hygienic false in repeat ((fail_if_success kln_w); with_reducible intro)); (first | clear dx9__n | kspl_open dx9); (set_option tactic.hygienic false in repeat ((fail_if_success kln_w); with_reducible intro)); (first | clear eD__n | kspl_open eD); (set_option tactic.hygienic false in repeat ((fail_if_success kln_w); with_reducible intro)); (first | clear efd__n | kspl_open efd); (set_option tactic.hygienic false in repeat ((fail_if_success kln_w); with_reducible intro)); (first | clear edx__n | kspl_open edx); (set_option tactic.hygienic false in repeat ((fail_if_success kln_w); with_reducible intro)); (first | clear k9__n | kspl_open k9); (set_option tactic.hygienic false in repeat ((fail_if_success kln_w); with_reducible intro)); (first | clear ofx9__n | kspl_open ofx9); (set_option tactic.hygienic false in repeat ((fail_if_success kln_w); with_reducible intro)); (first | clear ofd9__n | kspl_open ofd9); (set_option tactic.hygienic false in repeat ((fail_if_success kln_w); with_reducible intro)); (first | clear od9__n | kspl_open od9); (set_option tactic.hygienic false in repeat ((fail_if_success kln_w); with_reducible intro)); (first | clear hfx9__n | kspl_open hfx9); (set_option tactic.hygienic false in repeat ((fail_if_success kln_w); with_reducible intro)); (first | clear hofd9__n | kspl_open hofd9); (set_option tactic.hygienic false in repeat ((fail_if_success kln_w); with_reducible intro)); (first | clear lo9__n | kspl_open lo9); (set_option tactic.hygienic false in repeat ((fail_if_success kln_w); with_reducible intro)); (first | clear hod9__n | kspl_open hod9); (set_option tactic.hygienic false in repeat ((fail_if_success kln_w); with_reducible intro)); (first | clear hnd9__n | kspl_open hnd9); (set_option tactic.hygienic false in intros))
    obtain ⟨dG, rfl⟩ := hfx9.o
    ((first | ((fail_if_success (fail_if_success (have zq : Mk dG := trivial))); revert dG) | have dG__n := True.intro); (set_option tactic.hygienic false in repeat ((fail_if_success kln_w); with_reducible intro)); (first | clear dG__n | kspl_open dG); (set_option tactic.hygienic false in intros))
    obtain ⟨dH, rfl⟩ := hod9.o
    ((first | ((fail_if_success (fail_if_success (have zq : Mk dH := trivial))); revert dH) | have dH__n := True.intro); (set_option tactic.hygienic false in repeat ((fail_if_success kln_w); with_reducible intro)); (first | clear dH__n | kspl_open dH); (set_option tactic.hygienic false in intros))
    dsimp only at eD efd edx hofd9 lo9 hod9 hnd9 F9 N9 R9 K9 ⊢
    subst eD efd edx
    obtain ⟨g4, g5, g6, g7⟩ := gone4 hnd9 R9
    obtain ⟨⟨z1, z2, z3, z4, z5, z6⟩, ⟨z7, z8, z9, z10, z11⟩, ⟨z12, z13, z14, z15⟩, ⟨z16, z17, z18⟩, _⟩ := nq7 hnd9
    clear R9 K9
    try simp only [List.cons_append, List.nil_append] at N9
    k_sweep
    k_steps
    try unfold Halt
    with_reducible rename News _ _ _ _ => N7
    with_reducible rename Fr _ _ _ _ => F7
    have O7 := Old.of N7
    simp only [addrs, List.map_cons, List.map_nil] at O7
    k_dflt (refine' usePC (surv_c _ _ _ _ _ _ _ _ _ _ sy items chs k _ vs ns sec _ fileO_D ⟨_, _, _, rfl⟩ hvs hlen hns hsy hc hsec ?znd) ?zB F7 ?zX N7 ?zT ?zhk ?zP ?zO ?zpre ?zhd ?zhu ?_; (case zB => k_asm); (case zX => k_asm); (case zT => k_asm); (case zhk => exact rfl); (case zP => repeat' (first | exact Part.nil | refine' Part.cons ?_ ?_ | exact Pick.head | refine' Pick.tail ?_)); (case zO => (intro q hq a ha; revert a ha; revert q hq; (repeat' (first | exact List.forall_mem_nil _ | refine List.forall_mem_cons.mpr ⟨?_, ?_⟩)) <;> k_ne)); (case zhd => ktr_room); (case zhu => ktr_units))
    case znd =>
      simp only [List.nodup_cons, List.mem_cons, List.not_mem_nil, or_false, not_or, List.nodup_nil, and_true, not_false_eq_true]
      repeat' (first | apply And.intro | k_ne)
    case zpre =>
      refine hG.led F7 N7 ?_
      (repeat' (first | exact List.forall_mem_nil _ | refine List.forall_mem_cons.mpr ⟨?_, ?_⟩)) <;> (refine' led_has ?_) <;> (repeat' (first | exact List.Mem.head _ | refine' List.Mem.tail _ ?_))
    rintro v8 n8 h8 tk8 F8 N8 R8 K8 ⟨x8, od8, told8, rfl, rfl, hod8, hsz8, l8⟩
    ((first | ((fail_if_success (fail_if_success (have zq : Mk l8 := trivial))); revert l8) | have l8__n := True.intro); (first | ((fail_if_success (fail_if_success (have zq : Mk hsz8 := trivial))); revert hsz8) | have hsz8__n := True.intro); (first | ((fail_if_success (fail_if_success (have zq : Mk hod8 := trivial))); revert hod8) | have hod8__n := True.intro); (first | ((fail_if_success (fail_if_success (have zq : Mk told8 := trivial))); revert told8) | have told8__n := True.intro); (first | ((fail_if_success (fail_if_success (have zq : Mk od8 := trivial))); revert od8) | have od8__n := True.intro); (first | ((fail_if_success (fail_if_success (have zq : Mk x8 := trivial))); revert x8) | have x8__n := True.intro); (first | ((fail_if_success (fail_if_success (have zq : Mk K8 := trivial))); revert K8) | have K8__n := True.intro); (first | ((fail_if_success (fail_if_success (have zq : Mk R8 := trivial))); revert R8) | have R8__n := True.intro); (first | ((fail_if_success (fail_if_success (have zq : Mk N8 := trivial))); revert N8) | have N8__n := True.intro); (first | ((fail_if_success (fail_if_success (have zq : Mk F8 := trivial))); revert F8) | have F8__n := True.intro); (first | ((fail_if_success (fail_if_success (have zq : Mk tk8 := trivial))); revert tk8) | have tk8__n := True.intro); (first | ((fail_if_success (fail_if_success (have zq : Mk h8 := trivial))); revert h8) | have h8__n := True.intro); (first | ((fail_if_success (fail_if_success (have zq : Mk n8 := trivial))); revert n8) | have n8__n := True.intro); (first | ((fail_if_success (fail_if_success (have zq : Mk v8 := trivial))); revert v8) | have v8__n := True.intro); (set_option tactic.hygienic false in repeat ((fail_if_success kln_w); with_reducible intro)); (first | clear v8__n | kspl_open v8); (set_option tactic.hygienic false in repeat ((fail_if_success kln_w); with_reducible intro)); (first | clear n8__n | kspl_open n8); (set_option tactic.hygienic false in repeat ((fail_if_success kln_w); with_reducible intro)); (first | clear h8__n | kspl_open h8); (set_option tactic.hygienic false in repeat ((fail_if_success kln_w); with_reducible intro)); (first | clear tk8__n | kspl_open tk8); (set_option tactic.hygienic false in repeat ((fail_if_success kln_w); with_reducible intro)); (first | clear F8__n | kspl_open F8); (set_option tactic.hygienic false in repeat ((fail_if_success kln_w); with_reducible intro)); (first | clear N8__n | kspl_open N8); (set_option tactic.hygienic false in repeat ((fail_if_success kln_w); with_reducible intro)); (first | clear R8__n | kspl_open R8); (set_option tactic.hygienic false in repeat ((fail_if_success kln_w); with_reducible intro)); (first | clear K8__n | kspl_open K8); (set_option tactic.hygienic false in repeat ((fail_if_success kln_w); with_reducible intro)); (first | clear x8__n | kspl_open x8); (set_option tactic.hygienic false in repeat ((fail_if_success kln_w); with_reducible intro)); (first | clear od8__n | kspl_open od8); (set_option tactic.hygienic false in repeat ((fail_if_success kln_w); with_reducible intro)); (first | clear told8__n | kspl_open told8); (set_option tactic.hygienic false in repeat ((fail_if_success kln_w); with_reducible intro)); (first | clear hod8__n | kspl_open hod8); (set_option tactic.hygienic false in repeat ((fail_if_success kln_w); with_reducible intro)); (first | clear hsz8__n | kspl_open hsz8); (set_option tactic.hygienic false in repeat ((fail_if_success kln_w); with_reducible intro)); (first | clear l8__n | kspl_open l8); (set_option tactic.hygienic false in intros))
    try dsimp only at l8
    have g8 : Gone _ x8 := gone_of (R8 _ (.head _)) (fun hm => l8.mem hm rfl)
    clear R8 K8
    try simp only [List.cons_append, List.nil_append] at N8
    k_sweep
    k_steps
    have hF9 := ‹Fr _ _ _ _›
    have hN9 := ‹News _ _ _ _›
    refine' TurnC.nx hF9 (newsAll hN9 ?zmem) ⟨?zoff, ?zhne, ⟨x8, pl9, f9, fdx9, fd9, D9, dx9⟩, _, rfl, ⟨_, _, _, _, rfl, fileO_D, hofd9, lo9, diskO_D, ?ze3⟩, hsz8, ?ze4, rfl⟩
    case zmem =>
      simp only [List.cons_append, List.nil_append]
      (repeat' (first | exact List.forall_mem_nil _ | refine List.forall_mem_cons.mpr ⟨?_, ?_⟩)) <;> (repeat' (first | exact List.Mem.head _ | refine' List.Mem.tail _ ?_))
    case zoff => repeat' (first | exact OffV.refl | exact OffV.over | refine' OffV.step ?_ ?_ | exact List.Mem.head _ | refine' List.Mem.tail _ ?_)
    case zhne =>
      simp only [List.cons_append, List.nil_append]
      (repeat' (first | exact List.forall_mem_nil _ | refine List.forall_mem_cons.mpr ⟨?_, ?_⟩)) <;> k_ne
    case ze4 =>
      refine off7 ?_ ?_ ?_ ?_ ?_ ?_ ?_
      · exact g8.off O7 (by (repeat' (first | exact List.forall_mem_nil _ | refine List.forall_mem_cons.mpr ⟨?_, ?_⟩)) <;> (repeat' (first | exact List.Mem.head _ | refine' List.Mem.tail _ ?_)))
      · exact g5.off O6 (by (repeat' (first | exact List.forall_mem_nil _ | refine List.forall_mem_cons.mpr ⟨?_, ?_⟩)) <;> (repeat' (first | exact List.Mem.head _ | refine' List.Mem.tail _ ?_)))
      · exact g6.off O6 (by (repeat' (first | exact List.forall_mem_nil _ | refine List.forall_mem_cons.mpr ⟨?_, ?_⟩)) <;> (repeat' (first | exact List.Mem.head _ | refine' List.Mem.tail _ ?_)))
      · exact g7.off O6 (by (repeat' (first | exact List.forall_mem_nil _ | refine List.forall_mem_cons.mpr ⟨?_, ?_⟩)) <;> (repeat' (first | exact List.Mem.head _ | refine' List.Mem.tail _ ?_)))
      · exact g1.off O9 (by (repeat' (first | exact List.forall_mem_nil _ | refine List.forall_mem_cons.mpr ⟨?_, ?_⟩)) <;> (repeat' (first | exact List.Mem.head _ | refine' List.Mem.tail _ ?_)))
      · exact g2.off O9 (by (repeat' (first | exact List.forall_mem_nil _ | refine List.forall_mem_cons.mpr ⟨?_, ?_⟩)) <;> (repeat' (first | exact List.Mem.head _ | refine' List.Mem.tail _ ?_)))
      · exact g3.off O9 (by (repeat' (first | exact List.forall_mem_nil _ | refine List.forall_mem_cons.mpr ⟨?_, ?_⟩)) <;> (repeat' (first | exact List.Mem.head _ | refine' List.Mem.tail _ ?_)))
    case ze3 =>
      refine nod7 ?_
      dsimp only
      repeat' (first | apply And.intro | k_ne)
end
end
section
section
variable {w : World} {p : Program} {loose : List Str} {mean : ExcName → Option Value} {mg mb : Str → Option Value}
theorem sync_c (A : DS) (l : List (Addr × Obj)) (sec : Int) (sy now : Array UInt8) (items : List Value) (hl : DiskIs w A sec sy now items l) (hb : now.size ≤ 100) :
    ConA w p loose mean mg mb 249 [.ref A.f] l 8 120 anyH
      (fun _ _ v news' => ∃ x, v = .none ∧ DiskIs w { A with pl := x } sec now now [] news' ∧ x ∉ A.all) := by
  revert w p loose mean mg mb A l sec sy now items hl hb
  kspl_open w
  kspl_open p
  kspl_open loose
  kspl_open mean
  kspl_open mg
  kspl_open mb
  kspl_open A
  kspl_open l
  kspl_open sec
  kspl_open sy
  kspl_open now
  kspl_open items
  intro hl
  intro hb
  obtain ⟨nw, pl, f, fdx, fd, D, dx⟩ := A
  ((first | ((fail_if_success (fail_if_success (have zq : Mk dx := trivial))); revert dx) | have dx__n := True.intro); (first | ((fail_if_success (fail_if_success (have zq : Mk D := trivial))); revert D) | have D__n := True.intro); (first | ((fail_if_success (fail_if_success (have zq : Mk fd := trivial))); revert fd) | have fd__n := True.intro); (first | ((fail_if_success (fail_if_success (have zq : Mk fdx := trivial))); revert fdx) | have fdx__n := True.intro); (first | ((fail_if_success (fail_if_success (have zq : Mk f := trivial))); revert f) | have f__n := True.intro); (first | ((fail_if_success (fail_if_success (have zq : Mk pl := trivial))); revert pl) | have pl__n := True.intro); (first | ((fail_if_success (fail_if_success (have zq : Mk nw := trivial))); revert nw) | have nw__n := True.intro); (set_option tactic.hygienic false in repeat ((fail_if_success kln_w); with_reducible intro)); (first | clear nw__n | kspl_open nw); (set_option tactic.hygienic false in repeat ((fail_if_success kln_w); with_reducible intro)); (first | clear pl__n | kspl_open pl); (set_option tactic.hygienic false in repeat ((fail_if_success kln_w); with_reducible intro)); (first | clear f__n | kspl_open f); (set_option tactic.hygienic false in repeat ((fail_if_success kln_w); with_reducible intro)); (first | clear fdx__n | kspl_open fdx); (set_option tactic.hygienic false in repeat ((fail_if_success kln_w); with_reducible intro)); (first | clear fd__n | kspl_open fd); (set_option tactic.hygienic false in repeat ((fail_if_success kln_w); with_reducible intro)); (first | clear D__n | kspl_open D); (set_option tactic.hygienic false in repeat ((fail_if_success kln_w); with_reducible intro)); (first | clear dx__n | kspl_open dx); (set_option tactic.hygienic false in intros))
  obtain ⟨k, ofx, ofd, od, rfl, hfx, hofd, lo, hod, hnd⟩ := hl
  ((first | ((fail_if_success (fail_if_success (have zq : Mk hnd := trivial))); revert hnd) | have hnd__n := True.intro); (first | ((fail_if_success (fail_if_success (have zq : Mk hod := trivial))); revert hod) | have hod__n := True.intro); (first | ((fail_if_success (fail_if_success (have zq : Mk lo := trivial))); revert lo) | have lo__n := True.intro); (first | ((fail_if_success (fail_if_success (have zq : Mk hofd := trivial))); revert hofd) | have hofd__n := True.intro); (first | ((fail_if_success (fail_if_success (have zq : Mk hfx := trivial))); revert hfx) | have hfx__n := True.intro); (first | ((fail_if_success (fail_if_success (have zq : Mk od := trivial))); revert od) | have od__n := True.intro); (first | ((fail_if_success (fail_if_success (have zq : Mk ofd := trivial))); revert ofd) | have ofd__n := True.intro); (first | ((fail_if_success (fail_if_success (have zq : Mk ofx := trivial))); revert ofx) | have ofx__n := True.intro); (first | ((fail_if_success (fail_if_success (have zq : Mk k := trivial))); revert k) | have k__n := True.intro); (set_option tactic.hygienic false in repeat ((fail_if_success kln_w); with_reducible intro)); (first | clear k__n | kspl_open k); (set_option tactic.hygienic false in repeat ((fail_if_success kln_w); with_reducible intro)); (first | clear ofx__n | kspl_open ofx); (set_option tactic.hygienic false in repeat ((fail_if_success kln_w); with_reducible intro)); (first | clear ofd__n | kspl_open ofd); (set_option tactic.hygienic false in repeat ((fail_if_success kln_w); with_reducible intro)); (first | clear od__n | kspl_open od); (set_option tactic.hygienic false in repeat ((fail_if_success kln_w); with_reducible intro)); (first | clear hfx__n | kspl_open hfx); (set_option tactic.hygienic false in repeat ((fail_if_success kln_w); with_reducible intro)); (first | clear hofd__n | kspl_open hofd); (set_option tactic.hygienic false in repeat ((fail_if_success kln_w); with_reducible intro)); (first | clear lo__n | kspl_open lo); (set_option tactic.hygienic false in repeat ((fail_if_success kln_w); with_reducible intro)); (first | clear hod__n | kspl_open hod); (set_option tactic.hygienic false in repeat ((fail_if_success kln_w); with_reducible intro)); (first | clear hnd__n | kspl_open hnd); (set_option tactic.hygienic false in intros))
  obtain ⟨d1, rfl⟩ := hfx.o
  ((first | ((fail_if_success (fail_if_success (have zq : Mk d1 := trivial))); revert d1) | have d1__n := True.intro); (set_option tactic.hygienic false in repeat ((fail_if_success kln_w); with_reducible intro)); (first | clear d1__n | kspl_open d1); (set_option tactic.hygienic false in intros))
  obtain ⟨d2, rfl⟩ := hod.o
  ((first | ((fail_if_success (fail_if_success (have zq : Mk d2 := trivial))); revert d2) | have d2__n := True.intro); (set_option tactic.hygienic false in repeat ((fail_if_success kln_w); with_reducible intro)); (first | clear d2__n | kspl_open d2); (set_option tactic.hygienic false in intros))
  obtain ⟨⟨h1, h2, h3, h4, h5, h6⟩, ⟨i1, i2, i3, i4, i5⟩, ⟨j1, j2, j3, j4⟩, ⟨k1, k2, k3⟩, ⟨e1, e2⟩, e3⟩ := nq7 hnd
  dsimp only at hofd lo ⊢
  unfold ConA
  w_top off
  k_fill
  (kspl_open dp; kspl_open un; kspl_open cn; kspl_open cs; kspl_open a; kspl_open ccd; kspl_open cl; kspl_open outer; kspl_open A₀; kspl_open base; kspl_open h₀; kspl_open L; kspl_open m; kspl_open s; kspl_open Q; kspl_open E; intro B F X N T hk hp hd hu hret)
  refine wpAny_call ?_
  k_dflt cell_enter
  k_steps
  rename_i kF kN kK kR
  refine hret _ _ _ _ kF (newsAll kN memS) kK (fun q hq => kR q (memS q hq)) ⟨_, rfl, ⟨_, _, _, _, rfl, fileO_D, hofd, lo, diskO_D, ?znd⟩, ?zx⟩
  case znd =>
    refine nod7 ?_
    dsimp only
    repeat' (first | apply And.intro | k_ne)
  case zx =>
    refine not7 ?_
    repeat' (first | apply And.intro | k_ne)
theorem whole_c (A : DS) (l : List (Addr × Obj)) (sec : Int) (sy now : Array UInt8) (items : List Value) (hl : DiskIs w A sec sy now items l) (hb : now.size ≤ 100) :
    ConA w p loose mean mg mb 449 [.ref A.D] l 8 120 anyH
      (fun _ _ v news' => news' = l ∧ ∃ t, v = .bytes now t) := by
  revert w p loose mean mg mb A l sec sy now items hl hb
  kspl_open w
  kspl_open p
  kspl_open loose
  kspl_open mean
  kspl_open mg
  kspl_open mb
  kspl_open A
  kspl_open l
  kspl_open sec
  kspl_open sy
  kspl_open now
  kspl_open items
  intro hl
  intro hb
  obtain ⟨nw, pl, f, fdx, fd, D, dx⟩ := A
  ((first | ((fail_if_success (fail_if_success (have zq : Mk dx := trivial))); revert dx) | have dx__n := True.intro); (first | ((fail_if_success (fail_if_success (have zq : Mk D := trivial))); revert D) | have D__n := True.intro); (first | ((fail_if_success (fail_if_success (have zq : Mk fd := trivial))); revert fd) | have fd__n := True.intro); (first | ((fail_if_success (fail_if_success (have zq : Mk fdx := trivial))); revert fdx) | have fdx__n := True.intro); (first | ((fail_if_success (fail_if_success (have zq : Mk f := trivial))); revert f) | have f__n := True.intro); (first | ((fail_if_success (fail_if_success (have zq : Mk pl := trivial))); revert pl) | have pl__n := True.intro); (first | ((fail_if_success (fail_if_success (have zq : Mk nw := trivial))); revert nw) | have nw__n := True.intro); (set_option tactic.hygienic false in repeat ((fail_if_success kln_w); with_reducible intro)); (first | clear nw__n | kspl_open nw); (set_option tactic.hygienic false in repeat ((fail_if_success kln_w); with_reducible intro)); (first | clear pl__n | kspl_open pl); (set_option tactic.hygienic false in repeat ((fail_if_success kln_w); with_reducible intro)); (first | clear f__n | kspl_open f); (set_option tactic.hygienic false in repeat ((fail_if_success kln_w); with_reducible intro)); (first | clear fdx__n | kspl_open fdx); (set_option tactic.hygienic false in repeat ((fail_if_success kln_w); with_reducible intro)); (first | clear fd__n | kspl_open fd); (set_option tactic.hygienic false in repeat ((fail_if_success kln_w); with_reducible intro)); (first | clear D__n | kspl_open D); (set_option tactic.hygienic false in repeat ((fail_if_success kln_w); with_reducible intro)); (first | clear dx__n | kspl_open dx); (set_option tactic.hygienic false in intros))
  obtain ⟨k, ofx, ofd, od, rfl, hfx, hofd, lo, hod, hnd⟩ := hl
  ((first | ((fail_if_success (fail_if_success (have zq : Mk hnd := trivial))); revert hnd) | have hnd__n := True.intro); (first | ((fail_if_success (fail_if_success (have zq : Mk hod := trivial))); revert hod) | have hod__n := True.intro); (first | ((fail_if_success (fail_if_success (have zq : Mk lo := trivial))); revert lo) | have lo__n := True.intro); (first | ((fail_if_success (fail_if_success (have zq : Mk hofd := trivial))); revert hofd) | have hofd__n := True.intro); (first | ((fail_if_success (fail_if_success (have zq : Mk hfx := trivial))); revert hfx) | have hfx__n := True.intro); (first | ((fail_if_success (fail_if_success (have zq : Mk od := trivial))); revert od) | have od__n := True.intro); (first | ((fail_if_success (fail_if_success (have zq : Mk ofd := trivial))); revert ofd) | have ofd__n := True.intro); (first | ((fail_if_success (fail_if_success (have zq : Mk ofx := trivial))); revert ofx) | have ofx__n := True.intro); (first | ((fail_if_success (fail_if_success (have zq : Mk k := trivial))); revert k) | have k__n := True.intro); (set_option tactic.hygienic false in repeat ((fail_if_success kln_w); with_reducible intro)); (first | clear k__n | kspl_open k); (set_option tactic.hygienic false in repeat ((fail_if_success kln_w); with_reducible intro)); (first | clear ofx__n | kspl_open ofx); (set_option tactic.hygienic false in repeat ((fail_if_success kln_w); with_reducible intro)); (first | clear ofd__n | kspl_open ofd); (set_option tactic.hygienic false in repeat ((fail_if_success kln_w); with_reducible intro)); (first | clear od__n | kspl_open od); (set_option tactic.hygienic false in repeat ((fail_if_success kln_w); with_reducible intro)); (first | clear hfx__n | kspl_open hfx); (set_option tactic.hygienic false in repeat ((fail_if_success kln_w); with_reducible intro)); (first | clear hofd__n | kspl_open hofd); (set_option tactic.hygienic false in repeat ((fail_if_success kln_w); with_reducible intro)); (first | clear lo__n | kspl_open lo); (set_option tactic.hygienic false in repeat ((fail_if_success kln_w); with_reducible intro)); (first | clear hod__n | kspl_open hod); (set_option tactic.hygienic false in repeat ((fail_if_success kln_w); with_reducible intro)); (first | clear hnd__n | kspl_open hnd); (set_option tactic.hygienic false in intros))
  obtain ⟨d1, rfl⟩ := hfx.o
  ((first | ((fail_if_success (fail_if_success (have zq : Mk d1 := trivial))); revert d1) | have d1__n := True.intro); (set_option tactic.hygienic false in repeat ((fail_if_success kln_w); with_reducible intro)); (first | clear d1__n | kspl_open d1); (set_option tactic.hygienic false in intros))
  obtain ⟨d2, rfl⟩ := hod.o
  ((first | ((fail_if_success (fail_if_success (have zq : Mk d2 := trivial))); revert d2) | have d2__n := True.intro); (set_option tactic.hygienic false in repeat ((fail_if_success kln_w); with_reducible intro)); (first | clear d2__n | kspl_open d2); (set_option tactic.hygienic false in intros))
  obtain ⟨⟨h1, h2, h3, h4, h5, h6⟩, ⟨i1, i2, i3, i4, i5⟩, ⟨j1, j2, j3, j4⟩, ⟨k1, k2, k3⟩, ⟨e1, e2⟩, e3⟩ := nq7 hnd
  dsimp only at hofd lo ⊢
  unfold ConA
  w_top off
  k_fill
  (kspl_open dp; kspl_open un; kspl_open cn; kspl_open cs; kspl_open a; kspl_open ccd; kspl_open cl; kspl_open outer; kspl_open A₀; kspl_open base; kspl_open h₀; kspl_open L; kspl_open m; kspl_open s; kspl_open Q; kspl_open E; intro B F X N T hk hp hd hu hret)
  refine wpAny_call ?_
  k_dflt cell_enter
  k_steps
  rename_i kF kN kK kR
  exact hret _ _ _ _ kF (newsSub kN (List.sublist_cons_self _ _)) kK (kR.sub (List.sublist_cons_self _ _)) ⟨rfl, _, rfl⟩
end
end
section
section
variable {w : World} {p : Program} {loose : List Str} {mean : ExcName → Option Value} {mg mb : Str → Option Value}
theorem one_or {c : Prop} [Decidable c] : (0 : Int) ≤ if c then 1 else 0 := by split <;> decide
theorem pool_c (l : Addr) (vs : List Value) (ns : List Int) (k : Int) (t : Tok) (hvs : IntsAre vs ns) (hlen : ns.length ≤ 63) (h0 : 0 ≤ k) (h1 : k ≤ 1) :
    ConA w p loose mean mg mb 397 [.ref l, .int k t] [] 4 40 (fun h => h.IsList l vs.toArray)
      (fun _ _ v news' => ∃ x o', v = .ref x ∧ news' = [(x, o')] ∧ Src o') := by
  revert w p loose mean mg mb l vs ns k t hvs hlen h0 h1
  kspl_open w
  kspl_open p
  kspl_open loose
  kspl_open mean
  kspl_open mg
  kspl_open mb
  kspl_open l
  kspl_open vs
  kspl_open ns
  kspl_open k
  kspl_open t
  intro hvs
  intro hlen
  intro h0
  intro h1
  unfold ConA
  w_top off
  k_fill
  (kspl_open dp; kspl_open un; kspl_open cn; kspl_open cs; kspl_open a; kspl_open ccd; kspl_open cl; kspl_open outer; kspl_open A₀; kspl_open base; kspl_open h₀; kspl_open L; kspl_open m; kspl_open s; kspl_open Q; kspl_open E; intro B F X N T hk hp hd hu hret)
  refine wpAny_call ?_
  k_dflt cell_enter
  have hL := isList_kept hp ‹Kept s.heap _ _› (by simp)
  k_steps
  · rename_i kF kN kK kR
    refine hret _ _ _ _ kF kN kK kR ⟨_, _, rfl, rfl, _, _, _, _, _, rfl, ?_, fmod_lo _ (by decide), fmod_hi _ (by decide)⟩
    exact Int.mul_nonneg (by split <;> omega) one_or
  · rename_i kF kN kK kR
    refine hret _ _ _ _ kF kN kK kR ⟨_, _, rfl, rfl, _, _, _, _, _, rfl, ?_, fmod_lo _ (by decide), fmod_hi _ (by decide)⟩
    exact Int.mul_nonneg (by split <;> omega) one_or
theorem choices_c (ql k : Nat) (vs : List Value) (hlen : vs.length ≤ 100) :
    ConA w p loose mean mg mb 294 [.ref ql] [(ql, listOf vs.toArray k)] 8 80 anyH
      (fun _ _ v news' => ∃ x cdx nl od n, v = .ref x ∧ news' = [(nl, listOf vs.toArray n), (x, instObj 294 cdx), (cdx, od), (ql, listOf vs.toArray k)] ∧ ChoiceD w nl 0 od ∧ [x, cdx, nl, ql].Nodup) := by
  revert w p loose mean mg mb ql k vs hlen
  kspl_open w
  kspl_open p
  kspl_open loose
  kspl_open mean
  kspl_open mg
  kspl_open mb
  kspl_open ql
  kspl_open k
  kspl_open vs
  intro hlen
  unfold ConA
  w_top off
  k_fill
  (kspl_open dp; kspl_open un; kspl_open cn; kspl_open cs; kspl_open a; kspl_open ccd; kspl_open cl; kspl_open outer; kspl_open A₀; kspl_open base; kspl_open h₀; kspl_open L; kspl_open m; kspl_open s; kspl_open Q; kspl_open E; intro B F X N T hk hp hd hu hret)
  k_steps
  rename_i kF kN kK kR
  have K1 := ‹Kept s.heap _ []›
  refine hret _ _ _ _ kF kN (K1.made ?zhza ?zhzb kK) (Fresh.made K1 ?za ?zb kR) ⟨_, _, _, _, _, rfl, rfl, ⟨_, _, _, rfl⟩, ?znd⟩
  case znd =>
    simp only [List.nodup_cons, List.mem_cons, List.not_mem_nil, or_false, not_or, List.nodup_nil, and_true, not_false_eq_true]
    repeat' (first | apply And.intro | k_ne)
  all_goals assumption
end
end
section
section
variable {w : World} {p : Program} {loose : List Str} {mean : ExcName → Option Value} {mg mb : Str → Option Value}
theorem octet_c (l : Addr) (items : List Value) (chs : List Ch) (sy : Array UInt8) (place : Nat) (ts tp : Tok) (hc : chs.length ≤ 10) (hsy : sy.size ≤ 100) (hpl : place ≤ 100) :
    ConA w p loose mean mg mb 430 [.bytes sy ts, .ref l, .int (place : Nat) tp] [] 4 80 (fun h => h.IsList l items.toArray ∧ ChsIn h (Str.ofString "cut") items chs [])
      (fun _ _ v news' => news' = [] ∧ ∃ t, v = .int (octR sy place chs.reverse) t) := by
  revert w p loose mean mg mb l items chs sy place ts tp hc hsy hpl
  kspl_open w
  kspl_open p
  kspl_open loose
  kspl_open mean
  kspl_open mg
  kspl_open mb
  kspl_open l
  kspl_open items
  kspl_open chs
  kspl_open sy
  kspl_open place
  kspl_open ts
  kspl_open tp
  intro hc
  intro hsy
  intro hpl
  unfold ConA
  w_top off
  k_fill
  (kspl_open dp; kspl_open un; kspl_open cn; kspl_open cs; kspl_open a; kspl_open ccd; kspl_open cl; kspl_open outer; kspl_open A₀; kspl_open base; kspl_open h₀; kspl_open L; kspl_open m; kspl_open s; kspl_open Q; kspl_open E; intro B F X N T hk hp hd hu hret)
  refine wpAny_call ?_
  k_dflt cell_enter
  have hL := isList_kept hp.1 ‹Kept s.heap _ _› (by simp)
  have hG := ChsIn.kept hp.2 ‹Kept s.heap _ _›
  have hil : items.length = chs.length := hG.1
  k_steps
  try unfold Halt
  refine wpAny_For ?_
  k_steps
  try unfold Halt
  kso_lit
  with_reducible rename IsRange _ _ _ _ _ _ _ _ => hr
  with_reducible rename Fr _ _ _ _ => F1
  with_reducible rename News _ _ _ _ => N1
  refine forRA [Str.ofString "back", Str.ofString "word", Str.ofString "at", Str.ofString "octets"] chs.length (fun it i n => n = [] ∧ octR sy place chs.reverse = octR sy place (chs.reverse.drop i)) rfl F1 N1 hr ?zhsm ?zhc ?zhne ?zhgo ?zh0 ?zturn ?zdone
  case zhne => rintro it i n ⟨rfl, _⟩ q hq; cases hq
  case zhgo => exact fun it x tx s Q E hq => wpAny_pure hq
  case zh0 => exact fun it hit => ⟨rfl, rfl⟩
  case zhsm => exact small_up (by omega) (by omega) (by omega) (by omega)
  case zhc => rw [rangeSize_up]; omega
  case zdone =>
    rintro it u n₁ h tk hit ⟨rfl, hJ⟩ Fh Nh
    ((first | ((fail_if_success (fail_if_success (have zq : Mk Nh := trivial))); revert Nh) | have Nh__n := True.intro); (first | ((fail_if_success (fail_if_success (have zq : Mk Fh := trivial))); revert Fh) | have Fh__n := True.intro); (first | ((fail_if_success (fail_if_success (have zq : Mk hJ := trivial))); revert hJ) | have hJ__n := True.intro); (first | ((fail_if_success (fail_if_success (have zq : Mk hit := trivial))); revert hit) | have hit__n := True.intro); (first | ((fail_if_success (fail_if_success (have zq : Mk tk := trivial))); revert tk) | have tk__n := True.intro); (first | ((fail_if_success (fail_if_success (have zq : Mk h := trivial))); revert h) | have h__n := True.intro); (first | ((fail_if_success (fail_if_success (have zq : Mk n₁ := trivial))); revert n₁) | have n₁__n := True.intro); (first | ((fail_if_success (fail_if_success (have zq : Mk u := trivial))); revert u) | have u__n := True.intro); (first | ((fail_if_success (fail_if_success (have zq : Mk it := trivial))); revert it) | have it__n := True.intro); (set_option tactic.hygienic false in repeat ((fail_if_success kln_w); with_reducible intro)); (first | clear it__n | kspl_open it); (set_option tactic.hygienic false in repeat ((fail_if_success kln_w); with_reducible intro)); (first | clear u__n | kspl_open u); (set_option tactic.hygienic false in repeat ((fail_if_success kln_w); with_reducible intro)); (first | clear n₁__n | kspl_open n₁); (set_option tactic.hygienic false in repeat ((fail_if_success kln_w); with_reducible intro)); (first | clear h__n | kspl_open h); (set_option tactic.hygienic false in repeat ((fail_if_success kln_w); with_reducible intro)); (first | clear tk__n | kspl_open tk); (set_option tactic.hygienic false in repeat ((fail_if_success kln_w); with_reducible intro)); (first | clear hit__n | kspl_open hit); (set_option tactic.hygienic false in repeat ((fail_if_success kln_w); with_reducible intro)); (first | clear hJ__n | kspl_open hJ); (set_option tactic.hygienic false in repeat ((fail_if_success kln_w); with_reducible intro)); (first | clear Fh__n | kspl_open Fh); (set_option tactic.hygienic false in repeat ((fail_if_success kln_w); with_reducible intro)); (first | clear Nh__n | kspl_open Nh); (set_option tactic.hygienic false in intros))
    dsimp only
    rw [List.drop_eq_nil_of_le (by simp)] at hJ
    k_steps
    · rename_i kF kN kK kR
      refine hret _ _ _ _ kF kN kK kR ⟨rfl, _, congrArg (fun z => Value.int z _) ?_⟩
      rw [hJ, octR, if_pos (by omega), Int.toNat_natCast]
    · rename_i kF kN kK kR
      refine hret _ _ _ _ kF kN kK kR ⟨rfl, _, congrArg (fun z => Value.int z _) ?_⟩
      rw [hJ, octR, if_neg (by omega)]
  case zturn =>
    rintro it i tx u n₁ h tk io hit hi ⟨rfl, hJ⟩ Fh Nh
    ((first | ((fail_if_success (fail_if_success (have zq : Mk Nh := trivial))); revert Nh) | have Nh__n := True.intro); (first | ((fail_if_success (fail_if_success (have zq : Mk Fh := trivial))); revert Fh) | have Fh__n := True.intro); (first | ((fail_if_success (fail_if_success (have zq : Mk hJ := trivial))); revert hJ) | have hJ__n := True.intro); (first | ((fail_if_success (fail_if_success (have zq : Mk hi := trivial))); revert hi) | have hi__n := True.intro); (first | ((fail_if_success (fail_if_success (have zq : Mk hit := trivial))); revert hit) | have hit__n := True.intro); (first | ((fail_if_success (fail_if_success (have zq : Mk io := trivial))); revert io) | have io__n := True.intro); (first | ((fail_if_success (fail_if_success (have zq : Mk tk := trivial))); revert tk) | have tk__n := True.intro); (first | ((fail_if_success (fail_if_success (have zq : Mk h := trivial))); revert h) | have h__n := True.intro); (first | ((fail_if_success (fail_if_success (have zq : Mk n₁ := trivial))); revert n₁) | have n₁__n := True.intro); (first | ((fail_if_success (fail_if_success (have zq : Mk u := trivial))); revert u) | have u__n := True.intro); (first | ((fail_if_success (fail_if_success (have zq : Mk tx := trivial))); revert tx) | have tx__n := True.intro); (first | ((fail_if_success (fail_if_success (have zq : Mk i := trivial))); revert i) | have i__n := True.intro); (first | ((fail_if_success (fail_if_success (have zq : Mk it := trivial))); revert it) | have it__n := True.intro); (set_option tactic.hygienic false in repeat ((fail_if_success kln_w); with_reducible intro)); (first | clear it__n | kspl_open it); (set_option tactic.hygienic false in repeat ((fail_if_success kln_w); with_reducible intro)); (first | clear i__n | kspl_open i); (set_option tactic.hygienic false in repeat ((fail_if_success kln_w); with_reducible intro)); (first | clear tx__n | kspl_open tx); (set_option tactic.hygienic false in repeat ((fail_if_success kln_w); with_reducible intro)); (first | clear u__n | kspl_open u); (set_option tactic.hygienic false in repeat ((fail_if_success kln_w); with_reducible intro)); (first | clear n₁__n | kspl_open n₁); (set_option tactic.hygienic false in repeat ((fail_if_success kln_w); with_reducible intro)); (first | clear h__n | kspl_open h); (set_option tactic.hygienic false in repeat ((fail_if_success kln_w); with_reducible intro)); (first | clear tk__n | kspl_open tk); (set_option tactic.hygienic false in repeat ((fail_if_success kln_w); with_reducible intro)); (first | clear io__n | kspl_open io); (set_option tactic.hygienic false in repeat ((fail_if_success kln_w); with_reducible intro)); (first | clear hit__n | kspl_open hit); (set_option tactic.hygienic false in repeat ((fail_if_success kln_w); with_reducible intro)); (first | clear hi__n | kspl_open hi); (set_option tactic.hygienic false in repeat ((fail_if_success kln_w); with_reducible intro)); (first | clear hJ__n | kspl_open hJ); (set_option tactic.hygienic false in repeat ((fail_if_success kln_w); with_reducible intro)); (first | clear Fh__n | kspl_open Fh); (set_option tactic.hygienic false in repeat ((fail_if_success kln_w); with_reducible intro)); (first | clear Nh__n | kspl_open Nh); (set_option tactic.hygienic false in intros))
    have hj : chs.length - 1 - i < chs.length := by omega
    obtain ⟨t, cut, pl', os, ta, tb, tc, hx0, hci, hot, hok⟩ := hG.pick hj
    ((first | ((fail_if_success (fail_if_success (have zq : Mk hok := trivial))); revert hok) | have hok__n := True.intro); (first | ((fail_if_success (fail_if_success (have zq : Mk hot := trivial))); revert hot) | have hot__n := True.intro); (first | ((fail_if_success (fail_if_success (have zq : Mk hci := trivial))); revert hci) | have hci__n := True.intro); (first | ((fail_if_success (fail_if_success (have zq : Mk hx0 := trivial))); revert hx0) | have hx0__n := True.intro); (first | ((fail_if_success (fail_if_success (have zq : Mk tc := trivial))); revert tc) | have tc__n := True.intro); (first | ((fail_if_success (fail_if_success (have zq : Mk tb := trivial))); revert tb) | have tb__n := True.intro); (first | ((fail_if_success (fail_if_success (have zq : Mk ta := trivial))); revert ta) | have ta__n := True.intro); (first | ((fail_if_success (fail_if_success (have zq : Mk os := trivial))); revert os) | have os__n := True.intro); (first | ((fail_if_success (fail_if_success (have zq : Mk pl' := trivial))); revert pl') | have pl'__n := True.intro); (first | ((fail_if_success (fail_if_success (have zq : Mk cut := trivial))); revert cut) | have cut__n := True.intro); (first | ((fail_if_success (fail_if_success (have zq : Mk t := trivial))); revert t) | have t__n := True.intro); (set_option tactic.hygienic false in repeat ((fail_if_success kln_w); with_reducible intro)); (first | clear t__n | kspl_open t); (set_option tactic.hygienic false in repeat ((fail_if_success kln_w); with_reducible intro)); (first | clear cut__n | kspl_open cut); (set_option tactic.hygienic false in repeat ((fail_if_success kln_w); with_reducible intro)); (first | clear pl'__n | kspl_open pl'); (set_option tactic.hygienic false in repeat ((fail_if_success kln_w); with_reducible intro)); (first | clear os__n | kspl_open os); (set_option tactic.hygienic false in repeat ((fail_if_success kln_w); with_reducible intro)); (first | clear ta__n | kspl_open ta); (set_option tactic.hygienic false in repeat ((fail_if_success kln_w); with_reducible intro)); (first | clear tb__n | kspl_open tb); (set_option tactic.hygienic false in repeat ((fail_if_success kln_w); with_reducible intro)); (first | clear tc__n | kspl_open tc); (set_option tactic.hygienic false in repeat ((fail_if_success kln_w); with_reducible intro)); (first | clear hx0__n | kspl_open hx0); (set_option tactic.hygienic false in repeat ((fail_if_success kln_w); with_reducible intro)); (first | clear hci__n | kspl_open hci); (set_option tactic.hygienic false in repeat ((fail_if_success kln_w); with_reducible intro)); (first | clear hot__n | kspl_open hot); (set_option tactic.hygienic false in repeat ((fail_if_success kln_w); with_reducible intro)); (first | clear hok__n | kspl_open hok); (set_option tactic.hygienic false in intros))
    have hx : items[((items.length : Int) - (1 + (i : Int))).toNat]? = some (.ref t) := by
      rw [show ((items.length : Int) - (1 + (i : Int))).toNat = chs.length - 1 - i by omega]
      exact hx0
    have hd9 : chs.reverse.drop i = ⟨cut, pl', os⟩ :: chs.reverse.drop (i + 1) := by
      rw [List.drop_eq_getElem_cons (by simpa using hi), List.getElem_reverse]
      exact congrArg (· :: _) (List.getElem?_eq_some_iff.mp hci).2
    rw [hd9] at hJ
    have hT : IsTup _ t #[.str (if cut then Str.ofString "cut" else Str.ofString "write") ta, .int (pl' : Nat) tb, .bytes os tc] := ⟨_, hot, rfl, _, rfl⟩
    have hp1 := hok.pl
    have hp2 := hok.most
    dsimp only at hp1 hp2
    cases cut
    · simp only [Bool.false_eq_true, if_false] at hT
      k_steps
      · refine TurnC.rt ?_
        dsimp only
        k_steps
        rename_i kF kN kK kR
        refine hret _ [] _ _ kF (fun q hq => nomatch hq) kK (fun q hq => nomatch hq) ⟨rfl, _, congrArg (fun z => Value.int z _) ?_⟩
        rw [hJ, octR, if_neg (by simp), if_pos ⟨rfl, by dsimp only; omega, by dsimp only; omega⟩]
        dsimp only
        congr 1
        omega
      · refine' TurnC.nx ?zF ?zN ⟨?zoff, rfl, ?zhb⟩
        case zF => k_asm
        case zN => k_asm
        case zoff => repeat' (first | exact OffV.over | refine' OffV.step ?_ ?_ | exact List.Mem.head _ | refine' List.Mem.tail _ ?_)
        case zhb => rw [hJ, octR, if_neg (by simp), if_neg (fun e => by have := e.2.2; dsimp only at this; omega)]
      · refine' TurnC.nx ?zF ?zN ⟨?zoff, rfl, ?zhb⟩
        case zF => k_asm
        case zN => k_asm
        case zoff => repeat' (first | exact OffV.over | refine' OffV.step ?_ ?_ | exact List.Mem.head _ | refine' List.Mem.tail _ ?_)
        case zhb => rw [hJ, octR, if_neg (by simp), if_neg (fun e => by have := e.2.1; dsimp only at this; omega)]
    · simp only [if_true] at hT
      k_steps
      · refine TurnC.rt ?_
        dsimp only
        k_steps
        rename_i kF kN kK kR
        refine hret _ [] _ _ kF (fun q hq => nomatch hq) kK (fun q hq => nomatch hq) ⟨rfl, _, congrArg (fun z => Value.int z _) ?_⟩
        rw [hJ, octR, if_pos ⟨rfl, by dsimp only; omega⟩]
      · refine' TurnC.nx ?zF ?zN ⟨?zoff, rfl, ?zhb⟩
        case zF => k_asm
        case zN => k_asm
        case zoff => repeat' (first | exact OffV.over | refine' OffV.step ?_ ?_ | exact List.Mem.head _ | refine' List.Mem.tail _ ?_)
        case zhb => rw [hJ, octR, if_neg (fun e => by have := e.2; dsimp only at this; omega), if_neg (by simp)]
end
end
section
section
variable {w : World} {p : Program} {loose : List Str} {mean : ExcName → Option Value} {mg mb : Str → Option Value}
theorem due_c (l : Addr) (items : List Value) (chs : List Ch) (sy : Array UInt8) (ts : Tok) (hc : chs.length ≤ 10) (hsy : sy.size ≤ 25) :
    ConA w p loose mean mg mb 435 [.bytes sy ts, .ref l] [] 8 160 (fun h => h.IsList l items.toArray ∧ ChsIn h (Str.ofString "cut") items chs [])
      (fun _ _ v news' => news' = [] ∧ ∃ t, v = .bytes (dueO sy chs) t) := by
  revert w p loose mean mg mb l items chs sy ts hc hsy
  kspl_open w
  kspl_open p
  kspl_open loose
  kspl_open mean
  kspl_open mg
  kspl_open mb
  kspl_open l
  kspl_open items
  kspl_open chs
  kspl_open sy
  kspl_open ts
  intro hc
  intro hsy
  unfold ConA
  w_top off
  k_fill
  (kspl_open dp; kspl_open un; kspl_open cn; kspl_open cs; kspl_open a; kspl_open ccd; kspl_open cl; kspl_open outer; kspl_open A₀; kspl_open base; kspl_open h₀; kspl_open L; kspl_open m; kspl_open s; kspl_open Q; kspl_open E; intro B F X N T hk hp hd hu hret)
  have hS0 : Stop := ⟨⟩
  have hS1 : StopC := ⟨⟩
  refine wpAny_call ?_
  k_dflt cell_enter
  have hL := isList_kept hp.1 ‹Kept s.heap _ _› (by simp)
  have hG := ChsIn.kept hp.2 ‹Kept s.heap _ _›
  have hil : items.length = chs.length := hG.1
  k_steps
  try unfold Halt
  refine wpAny_For ?_
  k_steps
  try unfold Halt
  have hF1 := ‹Fr _ _ _ _›
  have hN1 := ‹News _ _ _ _›
  refine forAK0 (Str.ofString "size") [Str.ofString "word", Str.ofString "at", Str.ofString "octets"] (fun i x => ∃ t, x = .int (szAll sy.size (chs.take i) : Nat) t) rfl hF1 hN1 hL ?zhgo ⟨_, _, _, rfl⟩ ⟨_, rfl⟩ ?zturn ?zdone
  case zhgo =>
    intro v hv
    obtain ⟨j, hj⟩ := List.getElem?_of_mem hv
    have hlt : j < chs.length := by
      rw [← hil]
      rcases Nat.lt_or_ge j items.length with h | h
      · exact h
      · rw [List.getElem?_eq_none_iff.mpr h] at hj; cases hj
    obtain ⟨t, ot, rfl, _⟩ := hG.2 j v chs[j] hj (List.getElem?_eq_getElem hlt)
    exact ⟨t, rfl⟩
  case zdone =>
    rintro u h tk x ⟨tx, rfl⟩ Fh Nh
    ((first | ((fail_if_success (fail_if_success (have zq : Mk Nh := trivial))); revert Nh) | have Nh__n := True.intro); (first | ((fail_if_success (fail_if_success (have zq : Mk Fh := trivial))); revert Fh) | have Fh__n := True.intro); (first | ((fail_if_success (fail_if_success (have zq : Mk tx := trivial))); revert tx) | have tx__n := True.intro); (first | ((fail_if_success (fail_if_success (have zq : Mk x := trivial))); revert x) | have x__n := True.intro); (first | ((fail_if_success (fail_if_success (have zq : Mk tk := trivial))); revert tk) | have tk__n := True.intro); (first | ((fail_if_success (fail_if_success (have zq : Mk h := trivial))); revert h) | have h__n := True.intro); (first | ((fail_if_success (fail_if_success (have zq : Mk u := trivial))); revert u) | have u__n := True.intro); (set_option tactic.hygienic false in repeat ((fail_if_success kln_w); with_reducible intro)); (first | clear u__n | kspl_open u); (set_option tactic.hygienic false in repeat ((fail_if_success kln_w); with_reducible intro)); (first | clear h__n | kspl_open h); (set_option tactic.hygienic false in repeat ((fail_if_success kln_w); with_reducible intro)); (first | clear tk__n | kspl_open tk); (set_option tactic.hygienic false in repeat ((fail_if_success kln_w); with_reducible intro)); (first | clear x__n | kspl_open x); (set_option tactic.hygienic false in repeat ((fail_if_success kln_w); with_reducible intro)); (first | clear tx__n | kspl_open tx); (set_option tactic.hygienic false in repeat ((fail_if_success kln_w); with_reducible intro)); (first | clear Fh__n | kspl_open Fh); (set_option tactic.hygienic false in repeat ((fail_if_success kln_w); with_reducible intro)); (first | clear Nh__n | kspl_open Nh); (set_option tactic.hygienic false in intros))
    rw [hil, List.take_length] at Fh
    have hsz : szAll sy.size chs ≤ 25 := szAll_le (fun c hc => by
      obtain ⟨j, hj, rfl⟩ := List.getElem_of_mem hc
      obtain ⟨_, _, _, _, _, _, ok⟩ := hG.2 j _ _ (List.getElem?_eq_getElem (hil ▸ hj)) (List.getElem?_eq_getElem hj)
      exact ok) hsy
    dsimp only
    k_steps
    try unfold Halt
    have hF2 := ‹Fr _ _ _ _›
    have hN2 := ‹News _ _ _ _›
    refine LCg.CompSrc.range rfl hF2 hN2 ‹IsRange _ _ _ _ _ _ _ _› (small_up (by omega) (by omega) (by omega) (by omega)) (n := szAll sy.size chs) (by rw [rangeSize_up]; omega) (by rw [sizeLine_eq]; omega) ?_
    intro g2
    ((first | ((fail_if_success (fail_if_success (have zq : Mk g2 := trivial))); revert g2) | have g2__n := True.intro); (set_option tactic.hygienic false in repeat ((fail_if_success kln_w); with_reducible intro)); (first | clear g2__n | kspl_open g2); (set_option tactic.hygienic false in intros))
    refine comp_J (fun i ys nw => nw = _ ∧ IntsAre ys ((List.range i).map fun j => octR sy j chs.reverse)) ⟨rfl, .nil⟩ ?zcturn ?zcfin
    case zcfin =>
      rintro ys nw ⟨rfl, hI⟩
      ((first | ((fail_if_success (fail_if_success (have zq : Mk hI := trivial))); revert hI) | have hI__n := True.intro); (first | ((fail_if_success (fail_if_success (have zq : Mk nw := trivial))); revert nw) | have nw__n := True.intro); (first | ((fail_if_success (fail_if_success (have zq : Mk ys := trivial))); revert ys) | have ys__n := True.intro); (set_option tactic.hygienic false in repeat ((fail_if_success kln_w); with_reducible intro)); (first | clear ys__n | kspl_open ys); (set_option tactic.hygienic false in repeat ((fail_if_success kln_w); with_reducible intro)); (first | clear nw__n | kspl_open nw); (set_option tactic.hygienic false in repeat ((fail_if_success kln_w); with_reducible intro)); (first | clear hI__n | kspl_open hI); (set_option tactic.hygienic false in intros))
      intro D9 h9 tk9 F9 N9 off9
      ((first | ((fail_if_success (fail_if_success (have zq : Mk off9 := trivial))); revert off9) | have off9__n := True.intro); (first | ((fail_if_success (fail_if_success (have zq : Mk N9 := trivial))); revert N9) | have N9__n := True.intro); (first | ((fail_if_success (fail_if_success (have zq : Mk F9 := trivial))); revert F9) | have F9__n := True.intro); (first | ((fail_if_success (fail_if_success (have zq : Mk tk9 := trivial))); revert tk9) | have tk9__n := True.intro); (first | ((fail_if_success (fail_if_success (have zq : Mk h9 := trivial))); revert h9) | have h9__n := True.intro); (first | ((fail_if_success (fail_if_success (have zq : Mk D9 := trivial))); revert D9) | have D9__n := True.intro); (set_option tactic.hygienic false in repeat ((fail_if_success kln_w); with_reducible intro)); (first | clear D9__n | kspl_open D9); (set_option tactic.hygienic false in repeat ((fail_if_success kln_w); with_reducible intro)); (first | clear h9__n | kspl_open h9); (set_option tactic.hygienic false in repeat ((fail_if_success kln_w); with_reducible intro)); (first | clear tk9__n | kspl_open tk9); (set_option tactic.hygienic false in repeat ((fail_if_success kln_w); with_reducible intro)); (first | clear F9__n | kspl_open F9); (set_option tactic.hygienic false in repeat ((fail_if_success kln_w); with_reducible intro)); (first | clear N9__n | kspl_open N9); (set_option tactic.hygienic false in repeat ((fail_if_success kln_w); with_reducible intro)); (first | clear off9__n | kspl_open off9); (set_option tactic.hygienic false in intros))
      have hIn : KBa.In ((List.range (szAll sy.size chs)).map fun j => octR sy j chs.reverse) := fun z hz => by
        obtain ⟨j, _, rfl⟩ := List.mem_map.mp hz
        exact octR_in sy j _
      dsimp only
      k_steps
      k_dflt (refine' KBa.make_K F9 N9 rfl (News.isList N9 (.head _)) hI hIn ?zhn ?_; (case zhn => (rw [List.length_map, List.length_range]; omega)))
      intro h10 t10 k10 F10 N10 _
      ((first | ((fail_if_success (fail_if_success (have zq : Mk N10 := trivial))); revert N10) | have N10__n := True.intro); (first | ((fail_if_success (fail_if_success (have zq : Mk F10 := trivial))); revert F10) | have F10__n := True.intro); (first | ((fail_if_success (fail_if_success (have zq : Mk k10 := trivial))); revert k10) | have k10__n := True.intro); (first | ((fail_if_success (fail_if_success (have zq : Mk t10 := trivial))); revert t10) | have t10__n := True.intro); (first | ((fail_if_success (fail_if_success (have zq : Mk h10 := trivial))); revert h10) | have h10__n := True.intro); (set_option tactic.hygienic false in repeat ((fail_if_success kln_w); with_reducible intro)); (first | clear h10__n | kspl_open h10); (set_option tactic.hygienic false in repeat ((fail_if_success kln_w); with_reducible intro)); (first | clear t10__n | kspl_open t10); (set_option tactic.hygienic false in repeat ((fail_if_success kln_w); with_reducible intro)); (first | clear k10__n | kspl_open k10); (set_option tactic.hygienic false in repeat ((fail_if_success kln_w); with_reducible intro)); (first | clear F10__n | kspl_open F10); (set_option tactic.hygienic false in repeat ((fail_if_success kln_w); with_reducible intro)); (first | clear N10__n | kspl_open N10); (set_option tactic.hygienic false in intros))
      k_steps
      rename_i kF kN kK kR
      exact hret _ [] _ _ kF (fun q hq => nomatch hq) kK (fun q hq => nomatch hq) ⟨rfl, _, rfl⟩
    case zcturn =>
      rintro i v I oI C oC D m₂ ys nw h tk E' hi ⟨tv, rfl⟩ ⟨rfl, hI⟩ hC hx Fc Nc off ne
      ((first | ((fail_if_success (fail_if_success (have zq : Mk ne := trivial))); revert ne) | have ne__n := True.intro); (first | ((fail_if_success (fail_if_success (have zq : Mk off := trivial))); revert off) | have off__n := True.intro); (first | ((fail_if_success (fail_if_success (have zq : Mk Nc := trivial))); revert Nc) | have Nc__n := True.intro); (first | ((fail_if_success (fail_if_success (have zq : Mk Fc := trivial))); revert Fc) | have Fc__n := True.intro); (first | ((fail_if_success (fail_if_success (have zq : Mk hx := trivial))); revert hx) | have hx__n := True.intro); (first | ((fail_if_success (fail_if_success (have zq : Mk hC := trivial))); revert hC) | have hC__n := True.intro); (first | ((fail_if_success (fail_if_success (have zq : Mk hI := trivial))); revert hI) | have hI__n := True.intro); (first | ((fail_if_success (fail_if_success (have zq : Mk tv := trivial))); revert tv) | have tv__n := True.intro); (first | ((fail_if_success (fail_if_success (have zq : Mk hi := trivial))); revert hi) | have hi__n := True.intro); (first | ((fail_if_success (fail_if_success (have zq : Mk E' := trivial))); revert E') | have E'__n := True.intro); (first | ((fail_if_success (fail_if_success (have zq : Mk tk := trivial))); revert tk) | have tk__n := True.intro); (first | ((fail_if_success (fail_if_success (have zq : Mk h := trivial))); revert h) | have h__n := True.intro); (first | ((fail_if_success (fail_if_success (have zq : Mk nw := trivial))); revert nw) | have nw__n := True.intro); (first | ((fail_if_success (fail_if_success (have zq : Mk ys := trivial))); revert ys) | have ys__n := True.intro); (first | ((fail_if_success (fail_if_success (have zq : Mk m₂ := trivial))); revert m₂) | have m₂__n := True.intro); (first | ((fail_if_success (fail_if_success (have zq : Mk D := trivial))); revert D) | have D__n := True.intro); (first | ((fail_if_success (fail_if_success (have zq : Mk oC := trivial))); revert oC) | have oC__n := True.intro); (first | ((fail_if_success (fail_if_success (have zq : Mk C := trivial))); revert C) | have C__n := True.intro); (first | ((fail_if_success (fail_if_success (have zq : Mk oI := trivial))); revert oI) | have oI__n := True.intro); (first | ((fail_if_success (fail_if_success (have zq : Mk I := trivial))); revert I) | have I__n := True.intro); (first | ((fail_if_success (fail_if_success (have zq : Mk v := trivial))); revert v) | have v__n := True.intro); (first | ((fail_if_success (fail_if_success (have zq : Mk i := trivial))); revert i) | have i__n := True.intro); (set_option tactic.hygienic false in repeat ((fail_if_success kln_w); with_reducible intro)); (first | clear i__n | kspl_open i); (set_option tactic.hygienic false in repeat ((fail_if_success kln_w); with_reducible intro)); (first | clear v__n | kspl_open v); (set_option tactic.hygienic false in repeat ((fail_if_success kln_w); with_reducible intro)); (first | clear I__n | kspl_open I); (set_option tactic.hygienic false in repeat ((fail_if_success kln_w); with_reducible intro)); (first | clear oI__n | kspl_open oI); (set_option tactic.hygienic false in repeat ((fail_if_success kln_w); with_reducible intro)); (first | clear C__n | kspl_open C); (set_option tactic.hygienic false in repeat ((fail_if_success kln_w); with_reducible intro)); (first | clear oC__n | kspl_open oC); (set_option tactic.hygienic false in repeat ((fail_if_success kln_w); with_reducible intro)); (first | clear D__n | kspl_open D); (set_option tactic.hygienic false in repeat ((fail_if_success kln_w); with_reducible intro)); (first | clear m₂__n | kspl_open m₂); (set_option tactic.hygienic false in repeat ((fail_if_success kln_w); with_reducible intro)); (first | clear ys__n | kspl_open ys); (set_option tactic.hygienic false in repeat ((fail_if_success kln_w); with_reducible intro)); (first | clear nw__n | kspl_open nw); (set_option tactic.hygienic false in repeat ((fail_if_success kln_w); with_reducible intro)); (first | clear h__n | kspl_open h); (set_option tactic.hygienic false in repeat ((fail_if_success kln_w); with_reducible intro)); (first | clear tk__n | kspl_open tk); (set_option tactic.hygienic false in repeat ((fail_if_success kln_w); with_reducible intro)); (first | clear E'__n | kspl_open E'); (set_option tactic.hygienic false in repeat ((fail_if_success kln_w); with_reducible intro)); (first | clear hi__n | kspl_open hi); (set_option tactic.hygienic false in repeat ((fail_if_success kln_w); with_reducible intro)); (first | clear tv__n | kspl_open tv); (set_option tactic.hygienic false in repeat ((fail_if_success kln_w); with_reducible intro)); (first | clear hI__n | kspl_open hI); (set_option tactic.hygienic false in repeat ((fail_if_success kln_w); with_reducible intro)); (first | clear hC__n | kspl_open hC); (set_option tactic.hygienic false in repeat ((fail_if_success kln_w); with_reducible intro)); (first | clear hx__n | kspl_open hx); (set_option tactic.hygienic false in repeat ((fail_if_success kln_w); with_reducible intro)); (first | clear Fc__n | kspl_open Fc); (set_option tactic.hygienic false in repeat ((fail_if_success kln_w); with_reducible intro)); (first | clear Nc__n | kspl_open Nc); (set_option tactic.hygienic false in repeat ((fail_if_success kln_w); with_reducible intro)); (first | clear off__n | kspl_open off); (set_option tactic.hygienic false in repeat ((fail_if_success kln_w); with_reducible intro)); (first | clear ne__n | kspl_open ne); (set_option tactic.hygienic false in intros))
      rw [Int.zero_add] at hx
      k_steps
      try unfold Halt
      k_dflt (refine' usePA (octet_c l items chs sy i ts tv hc (by omega) (by omega)) ?zB Fc ?zX Nc ?zT ?zhk Part.nil ?zO ⟨hL.at fun o e => Fc.keep l o e, hG.led Fc Nc (fun a ha => nomatch ha)⟩ ?zhd ?zhu ?_; (case zB => k_asm); (case zX => k_asm); (case zT => k_asm); (case zhk => exact rfl); (case zO => exact fun q hq a ha => nomatch ha); (case zhd => ktr_room); (case zhu => ktr_units))
      rintro v9 n9 h9 tk9 F9 N9 R9 K9 ⟨rfl, t9, rfl⟩
      ((first | ((fail_if_success (fail_if_success (have zq : Mk t9 := trivial))); revert t9) | have t9__n := True.intro); (first | ((fail_if_success (fail_if_success (have zq : Mk K9 := trivial))); revert K9) | have K9__n := True.intro); (first | ((fail_if_success (fail_if_success (have zq : Mk R9 := trivial))); revert R9) | have R9__n := True.intro); (first | ((fail_if_success (fail_if_success (have zq : Mk N9 := trivial))); revert N9) | have N9__n := True.intro); (first | ((fail_if_success (fail_if_success (have zq : Mk F9 := trivial))); revert F9) | have F9__n := True.intro); (first | ((fail_if_success (fail_if_success (have zq : Mk tk9 := trivial))); revert tk9) | have tk9__n := True.intro); (first | ((fail_if_success (fail_if_success (have zq : Mk h9 := trivial))); revert h9) | have h9__n := True.intro); (first | ((fail_if_success (fail_if_success (have zq : Mk n9 := trivial))); revert n9) | have n9__n := True.intro); (first | ((fail_if_success (fail_if_success (have zq : Mk v9 := trivial))); revert v9) | have v9__n := True.intro); (set_option tactic.hygienic false in repeat ((fail_if_success kln_w); with_reducible intro)); (first | clear v9__n | kspl_open v9); (set_option tactic.hygienic false in repeat ((fail_if_success kln_w); with_reducible intro)); (first | clear n9__n | kspl_open n9); (set_option tactic.hygienic false in repeat ((fail_if_success kln_w); with_reducible intro)); (first | clear h9__n | kspl_open h9); (set_option tactic.hygienic false in repeat ((fail_if_success kln_w); with_reducible intro)); (first | clear tk9__n | kspl_open tk9); (set_option tactic.hygienic false in repeat ((fail_if_success kln_w); with_reducible intro)); (first | clear F9__n | kspl_open F9); (set_option tactic.hygienic false in repeat ((fail_if_success kln_w); with_reducible intro)); (first | clear N9__n | kspl_open N9); (set_option tactic.hygienic false in repeat ((fail_if_success kln_w); with_reducible intro)); (first | clear R9__n | kspl_open R9); (set_option tactic.hygienic false in repeat ((fail_if_success kln_w); with_reducible intro)); (first | clear K9__n | kspl_open K9); (set_option tactic.hygienic false in repeat ((fail_if_success kln_w); with_reducible intro)); (first | clear t9__n | kspl_open t9); (set_option tactic.hygienic false in intros))
      refine LCg.CompEnd.intro F9 N9 _ (fun p hp => hp) off trivial ⟨rfl, ?_⟩
      rw [List.range_succ, List.map_append]
      exact ints_snoc hI
  case zturn =>
    rintro it i v u h tk io x hit hx ⟨tx, rfl⟩ Fh Nh
    ((first | ((fail_if_success (fail_if_success (have zq : Mk Nh := trivial))); revert Nh) | have Nh__n := True.intro); (first | ((fail_if_success (fail_if_success (have zq : Mk Fh := trivial))); revert Fh) | have Fh__n := True.intro); (first | ((fail_if_success (fail_if_success (have zq : Mk tx := trivial))); revert tx) | have tx__n := True.intro); (first | ((fail_if_success (fail_if_success (have zq : Mk hx := trivial))); revert hx) | have hx__n := True.intro); (first | ((fail_if_success (fail_if_success (have zq : Mk hit := trivial))); revert hit) | have hit__n := True.intro); (first | ((fail_if_success (fail_if_success (have zq : Mk x := trivial))); revert x) | have x__n := True.intro); (first | ((fail_if_success (fail_if_success (have zq : Mk io := trivial))); revert io) | have io__n := True.intro); (first | ((fail_if_success (fail_if_success (have zq : Mk tk := trivial))); revert tk) | have tk__n := True.intro); (first | ((fail_if_success (fail_if_success (have zq : Mk h := trivial))); revert h) | have h__n := True.intro); (first | ((fail_if_success (fail_if_success (have zq : Mk u := trivial))); revert u) | have u__n := True.intro); (first | ((fail_if_success (fail_if_success (have zq : Mk v := trivial))); revert v) | have v__n := True.intro); (first | ((fail_if_success (fail_if_success (have zq : Mk i := trivial))); revert i) | have i__n := True.intro); (first | ((fail_if_success (fail_if_success (have zq : Mk it := trivial))); revert it) | have it__n := True.intro); (set_option tactic.hygienic false in repeat ((fail_if_success kln_w); with_reducible intro)); (first | clear it__n | kspl_open it); (set_option tactic.hygienic false in repeat ((fail_if_success kln_w); with_reducible intro)); (first | clear i__n | kspl_open i); (set_option tactic.hygienic false in repeat ((fail_if_success kln_w); with_reducible intro)); (first | clear v__n | kspl_open v); (set_option tactic.hygienic false in repeat ((fail_if_success kln_w); with_reducible intro)); (first | clear u__n | kspl_open u); (set_option tactic.hygienic false in repeat ((fail_if_success kln_w); with_reducible intro)); (first | clear h__n | kspl_open h); (set_option tactic.hygienic false in repeat ((fail_if_success kln_w); with_reducible intro)); (first | clear tk__n | kspl_open tk); (set_option tactic.hygienic false in repeat ((fail_if_success kln_w); with_reducible intro)); (first | clear io__n | kspl_open io); (set_option tactic.hygienic false in repeat ((fail_if_success kln_w); with_reducible intro)); (first | clear x__n | kspl_open x); (set_option tactic.hygienic false in repeat ((fail_if_success kln_w); with_reducible intro)); (first | clear hit__n | kspl_open hit); (set_option tactic.hygienic false in repeat ((fail_if_success kln_w); with_reducible intro)); (first | clear hx__n | kspl_open hx); (set_option tactic.hygienic false in repeat ((fail_if_success kln_w); with_reducible intro)); (first | clear tx__n | kspl_open tx); (set_option tactic.hygienic false in repeat ((fail_if_success kln_w); with_reducible intro)); (first | clear Fh__n | kspl_open Fh); (set_option tactic.hygienic false in repeat ((fail_if_success kln_w); with_reducible intro)); (first | clear Nh__n | kspl_open Nh); (set_option tactic.hygienic false in intros))
    k_lt hit
    obtain ⟨t, cut, pl', os, ta, tb, tc, rfl, hci, hot, hok⟩ := hG.pickv hx
    ((first | ((fail_if_success (fail_if_success (have zq : Mk hok := trivial))); revert hok) | have hok__n := True.intro); (first | ((fail_if_success (fail_if_success (have zq : Mk hot := trivial))); revert hot) | have hot__n := True.intro); (first | ((fail_if_success (fail_if_success (have zq : Mk hci := trivial))); revert hci) | have hci__n := True.intro); (first | ((fail_if_success (fail_if_success (have zq : Mk tc := trivial))); revert tc) | have tc__n := True.intro); (first | ((fail_if_success (fail_if_success (have zq : Mk tb := trivial))); revert tb) | have tb__n := True.intro); (first | ((fail_if_success (fail_if_success (have zq : Mk ta := trivial))); revert ta) | have ta__n := True.intro); (first | ((fail_if_success (fail_if_success (have zq : Mk os := trivial))); revert os) | have os__n := True.intro); (first | ((fail_if_success (fail_if_success (have zq : Mk pl' := trivial))); revert pl') | have pl'__n := True.intro); (first | ((fail_if_success (fail_if_success (have zq : Mk cut := trivial))); revert cut) | have cut__n := True.intro); (first | ((fail_if_success (fail_if_success (have zq : Mk t := trivial))); revert t) | have t__n := True.intro); (set_option tactic.hygienic false in repeat ((fail_if_success kln_w); with_reducible intro)); (first | clear t__n | kspl_open t); (set_option tactic.hygienic false in repeat ((fail_if_success kln_w); with_reducible intro)); (first | clear cut__n | kspl_open cut); (set_option tactic.hygienic false in repeat ((fail_if_success kln_w); with_reducible intro)); (first | clear pl'__n | kspl_open pl'); (set_option tactic.hygienic false in repeat ((fail_if_success kln_w); with_reducible intro)); (first | clear os__n | kspl_open os); (set_option tactic.hygienic false in repeat ((fail_if_success kln_w); with_reducible intro)); (first | clear ta__n | kspl_open ta); (set_option tactic.hygienic false in repeat ((fail_if_success kln_w); with_reducible intro)); (first | clear tb__n | kspl_open tb); (set_option tactic.hygienic false in repeat ((fail_if_success kln_w); with_reducible intro)); (first | clear tc__n | kspl_open tc); (set_option tactic.hygienic false in repeat ((fail_if_success kln_w); with_reducible intro)); (first | clear hci__n | kspl_open hci); (set_option tactic.hygienic false in repeat ((fail_if_success kln_w); with_reducible intro)); (first | clear hot__n | kspl_open hot); (set_option tactic.hygienic false in repeat ((fail_if_success kln_w); with_reducible intro)); (first | clear hok__n | kspl_open hok); (set_option tactic.hygienic false in intros))
    have hsz := szAll_take (n := sy.size) hci
    have hT : IsTup _ t #[.str (if cut then Str.ofString "cut" else Str.ofString "write") ta, .int (pl' : Nat) tb, .bytes os tc] := ⟨_, hot, rfl, _, rfl⟩
    have hp1 := hok.pl
    have hp2 := hok.most
    dsimp only at hp1 hp2 hsz
    cases cut
    · simp only [Bool.false_eq_true, if_false] at hT hsz
      k_steps
      refine' TurnC.nx ?zF ?zN ⟨⟨_, ⟨_, congrArg (fun z => Value.int z _) ?ze⟩, OffV.key ?zoff⟩, rfl⟩
      case zF => k_asm
      case zN => k_asm
      case zoff => repeat' (first | exact OffV.under | refine' OffV.step ?_ ?_ | exact List.Mem.head _ | refine' List.Mem.tail _ ?_)
      case ze => rw [hsz, Nat.max_def]; split <;> split <;> omega
    · simp only [if_true] at hT hsz
      k_steps
      refine' TurnC.nx ?zF ?zN ⟨⟨_, ⟨_, congrArg (fun z => Value.int z _) ?ze⟩, OffV.key ?zoff⟩, rfl⟩
      case zF => k_asm
      case zN => k_asm
      case zoff => repeat' (first | exact OffV.under | refine' OffV.step ?_ ?_ | exact List.Mem.head _ | refine' List.Mem.tail _ ?_)
      case ze => rw [hsz]
end
end
section
section
variable {w : World} {p : Program} {loose : List Str} {mean : ExcName → Option Value} {mg mb : Str → Option Value}
theorem left_c (lc nl : Addr) (items vs : List Value) (chs : List Ch) (ns : List Int) (sec : Nat) (st : Tok) (hc : chs.length ≤ 10) (hvs : IntsAre vs ns) (hlen : ns.length ≤ 100) (hns : ∀ z ∈ ns, 0 ≤ z ∧ z < 40) (hsec : 1 ≤ sec ∧ sec ≤ 8) :
    ConA w p loose mean mg mb 423 [.ref lc, .ref nl, .int (sec : Nat) st] [] 8 160 (fun h => (h.IsList lc items.toArray ∧ ChsIn h (Str.ofString "cut") items chs []) ∧ h.IsList nl vs.toArray)
      (fun _ h' v news' => ∃ (x : Addr) (n : Nat) (its : List Value) (tups : List (Addr × Obj)), v = .ref x ∧ news' = (x, listOf its.toArray n) :: tups ∧ ChsIn h' (Str.ofString "cut") its (leftFrom sec ns 0 chs) [] ∧ ∀ v ∈ its, v ∈ items ∨ ∃ t ot, v = .ref t ∧ (t, ot) ∈ tups) := by
  revert w p loose mean mg mb lc nl items vs chs ns sec st hc hvs hlen hns hsec
  kspl_open w
  kspl_open p
  kspl_open loose
  kspl_open mean
  kspl_open mg
  kspl_open mb
  kspl_open lc
  kspl_open nl
  kspl_open items
  kspl_open vs
  kspl_open chs
  kspl_open ns
  kspl_open sec
  kspl_open st
  intro hc
  intro hvs
  intro hlen
  intro hns
  intro hsec
  unfold ConA
  w_top off
  k_fill
  (kspl_open dp; kspl_open un; kspl_open cn; kspl_open cs; kspl_open a; kspl_open ccd; kspl_open cl; kspl_open outer; kspl_open A₀; kspl_open base; kspl_open h₀; kspl_open L; kspl_open m; kspl_open s; kspl_open Q; kspl_open E; intro B F X N T hk hp hd hu hret)
  have hS0 : StopC := ⟨⟩
  refine wpAny_call ?_
  k_dflt cell_enter
  have KG1 := ‹Kept s.heap _ _›
  have hL := isList_kept hp.1.1 KG1 (by simp)
  have hG := ChsIn.kept hp.1.2 KG1
  have hNL := isList_kept hp.2 KG1 (by simp)
  have hil : items.length = chs.length := hG.1
  have hvl : vs.length = ns.length := hvs.length
  k_steps
  try unfold Halt
  refine wpAny_For ?_
  k_steps
  try unfold Halt
  kso_lit
  with_reducible rename IsRange _ _ _ _ _ _ _ _ => hr
  with_reducible rename Fr _ _ _ _ => F6
  with_reducible rename News _ _ _ _ => N6
  (try kso_lit)
  rename_i g1 L1 _ _ _ _ _ _ x _ _ _ _ _ _ _ _ _ _
  refine forRA [Str.ofString "at", Str.ofString "word", Str.ofString "place", Str.ofString "octets", Str.ofString "number", Str.ofString "sectors", Str.ofString "kept"] chs.length (fun it i n => ∃ (its : List Value) (k : Nat) (tups : List (Addr × Obj)), n = (x, listOf its.toArray k) :: tups ∧ (∀ p ∈ tups, p.1 ≠ x) ∧ (∀ q ∈ n, q.1 ≠ it) ∧ its.length ≤ i ∧ ChsG g1 tups (Str.ofString "cut") its (leftFrom sec ns 0 (chs.take i)) ∧ ∀ v ∈ its, v ∈ items ∨ ∃ t ot, v = .ref t ∧ (t, ot) ∈ tups) rfl F6 N6 hr ?zhsm ?zhc ?zhne ?zhgo ?zh0 ?zturn ?zdone
  case zhne => exact fun it i n ⟨_, _, _, _, _, h, _⟩ => h
  case zhgo => exact fun it x tx s Q E hq => wpAny_pure hq
  case zh0 => exact fun it hit => ⟨[], 0, [], rfl, (fun _ h => nomatch h), fun q hq => Nat.ne_of_lt (hit q hq), Nat.le_refl _, ⟨rfl, fun _ _ _ h => nomatch h⟩, fun _ h => nomatch h⟩
  case zhsm => exact small_up (by omega) (by omega) (by omega) (by omega)
  case zhc => rw [rangeSize_up]; omega
  case zdone =>
    rintro it u n₁ h tk hit ⟨its, k, tups, rfl, hx, hni, hle, hCh, hin⟩ Fh Nh
    ((first | ((fail_if_success (fail_if_success (have zq : Mk Nh := trivial))); revert Nh) | have Nh__n := True.intro); (first | ((fail_if_success (fail_if_success (have zq : Mk Fh := trivial))); revert Fh) | have Fh__n := True.intro); (first | ((fail_if_success (fail_if_success (have zq : Mk hin := trivial))); revert hin) | have hin__n := True.intro); (first | ((fail_if_success (fail_if_success (have zq : Mk hCh := trivial))); revert hCh) | have hCh__n := True.intro); (first | ((fail_if_success (fail_if_success (have zq : Mk hle := trivial))); revert hle) | have hle__n := True.intro); (first | ((fail_if_success (fail_if_success (have zq : Mk hni := trivial))); revert hni) | have hni__n := True.intro); (first | ((fail_if_success (fail_if_success (have zq : Mk hx := trivial))); revert hx) | have hx__n := True.intro); (first | ((fail_if_success (fail_if_success (have zq : Mk tups := trivial))); revert tups) | have tups__n := True.intro); (first | ((fail_if_success (fail_if_success (have zq : Mk k := trivial))); revert k) | have k__n := True.intro); (first | ((fail_if_success (fail_if_success (have zq : Mk its := trivial))); revert its) | have its__n := True.intro); (first | ((fail_if_success (fail_if_success (have zq : Mk hit := trivial))); revert hit) | have hit__n := True.intro); (first | ((fail_if_success (fail_if_success (have zq : Mk tk := trivial))); revert tk) | have tk__n := True.intro); (first | ((fail_if_success (fail_if_success (have zq : Mk h := trivial))); revert h) | have h__n := True.intro); (first | ((fail_if_success (fail_if_success (have zq : Mk n₁ := trivial))); revert n₁) | have n₁__n := True.intro); (first | ((fail_if_success (fail_if_success (have zq : Mk u := trivial))); revert u) | have u__n := True.intro); (first | ((fail_if_success (fail_if_success (have zq : Mk it := trivial))); revert it) | have it__n := True.intro); (set_option tactic.hygienic false in repeat ((fail_if_success kln_w); with_reducible intro)); (first | clear it__n | kspl_open it); (set_option tactic.hygienic false in repeat ((fail_if_success kln_w); with_reducible intro)); (first | clear u__n | kspl_open u); (set_option tactic.hygienic false in repeat ((fail_if_success kln_w); with_reducible intro)); (first | clear n₁__n | kspl_open n₁); (set_option tactic.hygienic false in repeat ((fail_if_success kln_w); with_reducible intro)); (first | clear h__n | kspl_open h); (set_option tactic.hygienic false in repeat ((fail_if_success kln_w); with_reducible intro)); (first | clear tk__n | kspl_open tk); (set_option tactic.hygienic false in repeat ((fail_if_success kln_w); with_reducible intro)); (first | clear hit__n | kspl_open hit); (set_option tactic.hygienic false in repeat ((fail_if_success kln_w); with_reducible intro)); (first | clear its__n | kspl_open its); (set_option tactic.hygienic false in repeat ((fail_if_success kln_w); with_reducible intro)); (first | clear k__n | kspl_open k); (set_option tactic.hygienic false in repeat ((fail_if_success kln_w); with_reducible intro)); (first | clear tups__n | kspl_open tups); (set_option tactic.hygienic false in repeat ((fail_if_success kln_w); with_reducible intro)); (first | clear hx__n | kspl_open hx); (set_option tactic.hygienic false in repeat ((fail_if_success kln_w); with_reducible intro)); (first | clear hni__n | kspl_open hni); (set_option tactic.hygienic false in repeat ((fail_if_success kln_w); with_reducible intro)); (first | clear hle__n | kspl_open hle); (set_option tactic.hygienic false in repeat ((fail_if_success kln_w); with_reducible intro)); (first | clear hCh__n | kspl_open hCh); (set_option tactic.hygienic false in repeat ((fail_if_success kln_w); with_reducible intro)); (first | clear hin__n | kspl_open hin); (set_option tactic.hygienic false in repeat ((fail_if_success kln_w); with_reducible intro)); (first | clear Fh__n | kspl_open Fh); (set_option tactic.hygienic false in repeat ((fail_if_success kln_w); with_reducible intro)); (first | clear Nh__n | kspl_open Nh); (set_option tactic.hygienic false in intros))
    rw [List.take_length] at hCh
    dsimp only
    k_steps
    rename_i kF kN kK kR
    exact hret _ _ _ _ kF kN kK kR ⟨_, _, _, _, rfl, rfl, hCh.here Fh Nh (fun q hq => .tail _ hq) (fun a ha => nomatch ha), hin⟩
  case zturn =>
    rintro it i tx u n₁ h tk io hit hi ⟨its, k, tups, rfl, hx, hni, hle, hCh, hin⟩ Fh Nh
    ((first | ((fail_if_success (fail_if_success (have zq : Mk Nh := trivial))); revert Nh) | have Nh__n := True.intro); (first | ((fail_if_success (fail_if_success (have zq : Mk Fh := trivial))); revert Fh) | have Fh__n := True.intro); (first | ((fail_if_success (fail_if_success (have zq : Mk hin := trivial))); revert hin) | have hin__n := True.intro); (first | ((fail_if_success (fail_if_success (have zq : Mk hCh := trivial))); revert hCh) | have hCh__n := True.intro); (first | ((fail_if_success (fail_if_success (have zq : Mk hle := trivial))); revert hle) | have hle__n := True.intro); (first | ((fail_if_success (fail_if_success (have zq : Mk hni := trivial))); revert hni) | have hni__n := True.intro); (first | ((fail_if_success (fail_if_success (have zq : Mk hx := trivial))); revert hx) | have hx__n := True.intro); (first | ((fail_if_success (fail_if_success (have zq : Mk tups := trivial))); revert tups) | have tups__n := True.intro); (first | ((fail_if_success (fail_if_success (have zq : Mk k := trivial))); revert k) | have k__n := True.intro); (first | ((fail_if_success (fail_if_success (have zq : Mk its := trivial))); revert its) | have its__n := True.intro); (first | ((fail_if_success (fail_if_success (have zq : Mk hi := trivial))); revert hi) | have hi__n := True.intro); (first | ((fail_if_success (fail_if_success (have zq : Mk hit := trivial))); revert hit) | have hit__n := True.intro); (first | ((fail_if_success (fail_if_success (have zq : Mk io := trivial))); revert io) | have io__n := True.intro); (first | ((fail_if_success (fail_if_success (have zq : Mk tk := trivial))); revert tk) | have tk__n := True.intro); (first | ((fail_if_success (fail_if_success (have zq : Mk h := trivial))); revert h) | have h__n := True.intro); (first | ((fail_if_success (fail_if_success (have zq : Mk n₁ := trivial))); revert n₁) | have n₁__n := True.intro); (first | ((fail_if_success (fail_if_success (have zq : Mk u := trivial))); revert u) | have u__n := True.intro); (first | ((fail_if_success (fail_if_success (have zq : Mk tx := trivial))); revert tx) | have tx__n := True.intro); (first | ((fail_if_success (fail_if_success (have zq : Mk i := trivial))); revert i) | have i__n := True.intro); (first | ((fail_if_success (fail_if_success (have zq : Mk it := trivial))); revert it) | have it__n := True.intro); (set_option tactic.hygienic false in repeat ((fail_if_success kln_w); with_reducible intro)); (first | clear it__n | kspl_open it); (set_option tactic.hygienic false in repeat ((fail_if_success kln_w); with_reducible intro)); (first | clear i__n | kspl_open i); (set_option tactic.hygienic false in repeat ((fail_if_success kln_w); with_reducible intro)); (first | clear tx__n | kspl_open tx); (set_option tactic.hygienic false in repeat ((fail_if_success kln_w); with_reducible intro)); (first | clear u__n | kspl_open u); (set_option tactic.hygienic false in repeat ((fail_if_success kln_w); with_reducible intro)); (first | clear n₁__n | kspl_open n₁); (set_option tactic.hygienic false in repeat ((fail_if_success kln_w); with_reducible intro)); (first | clear h__n | kspl_open h); (set_option tactic.hygienic false in repeat ((fail_if_success kln_w); with_reducible intro)); (first | clear tk__n | kspl_open tk); (set_option tactic.hygienic false in repeat ((fail_if_success kln_w); with_reducible intro)); (first | clear io__n | kspl_open io); (set_option tactic.hygienic false in repeat ((fail_if_success kln_w); with_reducible intro)); (first | clear hit__n | kspl_open hit); (set_option tactic.hygienic false in repeat ((fail_if_success kln_w); with_reducible intro)); (first | clear hi__n | kspl_open hi); (set_option tactic.hygienic false in repeat ((fail_if_success kln_w); with_reducible intro)); (first | clear its__n | kspl_open its); (set_option tactic.hygienic false in repeat ((fail_if_success kln_w); with_reducible intro)); (first | clear k__n | kspl_open k); (set_option tactic.hygienic false in repeat ((fail_if_success kln_w); with_reducible intro)); (first | clear tups__n | kspl_open tups); (set_option tactic.hygienic false in repeat ((fail_if_success kln_w); with_reducible intro)); (first | clear hx__n | kspl_open hx); (set_option tactic.hygienic false in repeat ((fail_if_success kln_w); with_reducible intro)); (first | clear hni__n | kspl_open hni); (set_option tactic.hygienic false in repeat ((fail_if_success kln_w); with_reducible intro)); (first | clear hle__n | kspl_open hle); (set_option tactic.hygienic false in repeat ((fail_if_success kln_w); with_reducible intro)); (first | clear hCh__n | kspl_open hCh); (set_option tactic.hygienic false in repeat ((fail_if_success kln_w); with_reducible intro)); (first | clear hin__n | kspl_open hin); (set_option tactic.hygienic false in repeat ((fail_if_success kln_w); with_reducible intro)); (first | clear Fh__n | kspl_open Fh); (set_option tactic.hygienic false in repeat ((fail_if_success kln_w); with_reducible intro)); (first | clear Nh__n | kspl_open Nh); (set_option tactic.hygienic false in intros))
    rw [Int.zero_add]
    have hxi : @Ne Nat x it := hni _ (.head _)
    have hi' : i < items.length := by omega
    obtain ⟨t, cut, pl', os, ta, tb, tc, hx0, hci, hot, hok⟩ := hG.pick hi
    ((first | ((fail_if_success (fail_if_success (have zq : Mk hok := trivial))); revert hok) | have hok__n := True.intro); (first | ((fail_if_success (fail_if_success (have zq : Mk hot := trivial))); revert hot) | have hot__n := True.intro); (first | ((fail_if_success (fail_if_success (have zq : Mk hci := trivial))); revert hci) | have hci__n := True.intro); (first | ((fail_if_success (fail_if_success (have zq : Mk hx0 := trivial))); revert hx0) | have hx0__n := True.intro); (first | ((fail_if_success (fail_if_success (have zq : Mk tc := trivial))); revert tc) | have tc__n := True.intro); (first | ((fail_if_success (fail_if_success (have zq : Mk tb := trivial))); revert tb) | have tb__n := True.intro); (first | ((fail_if_success (fail_if_success (have zq : Mk ta := trivial))); revert ta) | have ta__n := True.intro); (first | ((fail_if_success (fail_if_success (have zq : Mk os := trivial))); revert os) | have os__n := True.intro); (first | ((fail_if_success (fail_if_success (have zq : Mk pl' := trivial))); revert pl') | have pl'__n := True.intro); (first | ((fail_if_success (fail_if_success (have zq : Mk cut := trivial))); revert cut) | have cut__n := True.intro); (first | ((fail_if_success (fail_if_success (have zq : Mk t := trivial))); revert t) | have t__n := True.intro); (set_option tactic.hygienic false in repeat ((fail_if_success kln_w); with_reducible intro)); (first | clear t__n | kspl_open t); (set_option tactic.hygienic false in repeat ((fail_if_success kln_w); with_reducible intro)); (first | clear cut__n | kspl_open cut); (set_option tactic.hygienic false in repeat ((fail_if_success kln_w); with_reducible intro)); (first | clear pl'__n | kspl_open pl'); (set_option tactic.hygienic false in repeat ((fail_if_success kln_w); with_reducible intro)); (first | clear os__n | kspl_open os); (set_option tactic.hygienic false in repeat ((fail_if_success kln_w); with_reducible intro)); (first | clear ta__n | kspl_open ta); (set_option tactic.hygienic false in repeat ((fail_if_success kln_w); with_reducible intro)); (first | clear tb__n | kspl_open tb); (set_option tactic.hygienic false in repeat ((fail_if_success kln_w); with_reducible intro)); (first | clear tc__n | kspl_open tc); (set_option tactic.hygienic false in repeat ((fail_if_success kln_w); with_reducible intro)); (first | clear hx0__n | kspl_open hx0); (set_option tactic.hygienic false in repeat ((fail_if_success kln_w); with_reducible intro)); (first | clear hci__n | kspl_open hci); (set_option tactic.hygienic false in repeat ((fail_if_success kln_w); with_reducible intro)); (first | clear hot__n | kspl_open hot); (set_option tactic.hygienic false in repeat ((fail_if_success kln_w); with_reducible intro)); (first | clear hok__n | kspl_open hok); (set_option tactic.hygienic false in intros))
    have hgx : items[((i : Int)).toNat]? = some (.ref t) := by
      rw [Int.toNat_natCast]
      exact hx0
    have hlf := leftFrom_take sec ns hci
    have hch2 : TupO (Str.ofString "cut") ⟨cut, pl', os⟩ _ := ⟨ta, tb, tc, rfl⟩
    have hT : IsTup _ t #[.str (if cut then Str.ofString "cut" else Str.ofString "write") ta, .int (pl' : Nat) tb, .bytes os tc] := ⟨_, hot, rfl, _, rfl⟩
    have hp1 := hok.pl
    have hp2 := hok.most
    dsimp only at hp1 hp2
    have hk0 := num_in hns i
    have hk1 : 0 ≤ ns.getD ((i : Int).fmod (vs.length : Int)).toNat 0 := by
      by_cases e : ns = []
      · subst e; simp
      · rw [← num_at e hvl]; exact hk0.1
    cases cut
    · simp only [Bool.false_eq_true, if_false] at hT
      have ho1 : 1 ≤ os.size := hok.some rfl
      have hnn := hi_nonneg' _ os.size sec hk1 ho1 hsec.1
      have hsp := secs_pos os.size sec ho1 hsec.1
      have htn := fun h => left_torn' (pl := pl') hk1 ho1 hsec.1 h
      k_steps
      · have hF9 := ‹Fr _ _ _ _›
        have hN9 := ‹News _ _ _ _›
        refine' TurnC.nx hF9 (newsAll hN9 fun q hq => .tail _ hq) ⟨?zoff, _, _, _, rfl, hx, hni, by omega, ?zhb, hin⟩
        case zoff => repeat' (first | exact OffV.over | refine' OffV.step ?_ ?_ | exact List.Mem.head _ | refine' List.Mem.tail _ ?_)
        case zhb => rw [hlf, num_nil (of_decide_eq_true ‹decide (ns = []) = true›), left_even (by decide) (by decide) (by decide)]; simpa using hCh
      · exact absurd (List.eq_nil_of_length_eq_zero (by omega)) (of_decide_eq_false ‹decide (ns = []) = false›)
      · have hF9 := ‹Fr _ _ _ _›
        have hN9 := ‹News _ _ _ _›
        rw [List.push_toArray] at hN9
        refine' TurnC.nx hF9 (newsAll hN9 fun q hq => .tail _ hq) ⟨?zoff, _, _, _, rfl, hx, (fun q hq => by rcases List.mem_cons.mp hq with rfl | hq; exact hxi; exact hni q (.tail _ hq)), by rw [List.length_append, List.length_singleton]; omega, ?zhb, ?zhv⟩
        case zhv => exact fun v hv => by rcases List.mem_append.mp hv with hv | hv; exact hin v hv; rcases List.mem_singleton.mp hv with rfl; exact .inl (List.mem_of_getElem? hgx)
        case zoff => repeat' (first | exact OffV.over | refine' OffV.step ?_ ?_ | exact List.Mem.head _ | refine' List.Mem.tail _ ?_)
        case zhb => rw [hlf, num_at (of_decide_eq_false ‹decide (ns = []) = false›) hvl, left_odd hk1 ‹_ = (1 : Int)›]; exact hCh.snoc (fun q h => h) (.inl hot) hch2 hok
      · have hF9 := ‹Fr _ _ _ _›
        have hN9 := ‹News _ _ _ _›
        have hlt := ‹LtAll _ (_ :: _ :: _ :: List.map _ tups)›
        rw [List.push_toArray] at hN9
        have h9 := htn ‹_ = (2 : Int)›
        rw [if_neg (toList_ne ‹_ = true›)] at h9
        refine' TurnC.nx hF9 (newsAll hN9 memT) ⟨?zoff, _, _, _, rfl, ?zhx9, ?zhni9, by rw [List.length_append, List.length_singleton]; omega, ?zhb, ?zhv⟩
        case zhv => exact fun v hv => by rcases List.mem_append.mp hv with hv | hv; exact (hin v hv).imp id (fun ⟨t, ot, e, m⟩ => ⟨t, ot, e, .tail _ m⟩); rcases List.mem_singleton.mp hv with rfl; exact .inr ⟨_, _, rfl, .head _⟩
        case zoff => repeat' (first | exact OffV.over | refine' OffV.step ?_ ?_ | exact List.Mem.head _ | refine' List.Mem.tail _ ?_)
        case zhx9 => exact List.forall_mem_cons.mpr ⟨Nat.ne_of_gt hlt.2.2.1, hx⟩
        case zhni9 => exact List.forall_mem_cons.mpr ⟨hxi, List.forall_mem_cons.mpr ⟨Nat.ne_of_gt hlt.2.1, fun q hq => hni q (.tail _ hq)⟩⟩
        case zhb => rw [hlf, num_at (of_decide_eq_false ‹decide (ns = []) = false›) hvl, h9]; exact hCh.snoc (fun q h => .tail _ h) (.inr (.head _)) ⟨_, _, _, rfl⟩ (leftOne_ok hok h9)
      · have hF9 := ‹Fr _ _ _ _›
        have hN9 := ‹News _ _ _ _›
        refine' TurnC.nx hF9 (newsAll hN9 fun q hq => .tail _ hq) ⟨?zoff, _, _, _, rfl, hx, hni, by omega, ?zhb, hin⟩
        case zoff => repeat' (first | exact OffV.over | refine' OffV.step ?_ ?_ | exact List.Mem.head _ | refine' List.Mem.tail _ ?_)
        case zhb => rw [hlf, num_at (of_decide_eq_false ‹decide (ns = []) = false›) hvl, htn ‹_ = (2 : Int)›, if_pos (toList_eq ‹_ = false›)]; simpa using hCh
      · have hF9 := ‹Fr _ _ _ _›
        have hN9 := ‹News _ _ _ _›
        refine' TurnC.nx hF9 (newsAll hN9 fun q hq => .tail _ hq) ⟨?zoff, _, _, _, rfl, hx, hni, by omega, ?zhb, hin⟩
        case zoff => repeat' (first | exact OffV.over | refine' OffV.step ?_ ?_ | exact List.Mem.head _ | refine' List.Mem.tail _ ?_)
        case zhb => rw [hlf, num_at (of_decide_eq_false ‹decide (ns = []) = false›) hvl, left_even hk1 ‹_ ≠ (1 : Int)› ‹_ ≠ (2 : Int)›]; simpa using hCh
    · simp only [if_true] at hT
      k_steps
      · have hF9 := ‹Fr _ _ _ _›
        have hN9 := ‹News _ _ _ _›
        refine' TurnC.nx hF9 (newsAll hN9 fun q hq => .tail _ hq) ⟨?zoff, _, _, _, rfl, hx, hni, by omega, ?zhb, hin⟩
        case zoff => repeat' (first | exact OffV.over | refine' OffV.step ?_ ?_ | exact List.Mem.head _ | refine' List.Mem.tail _ ?_)
        case zhb => rw [hlf, num_nil (of_decide_eq_true ‹decide (ns = []) = true›), left_even (by decide) (by decide) (by decide)]; simpa using hCh
      · exact absurd (List.eq_nil_of_length_eq_zero (by omega)) (of_decide_eq_false ‹decide (ns = []) = false›)
      · have hF9 := ‹Fr _ _ _ _›
        have hN9 := ‹News _ _ _ _›
        rw [List.push_toArray] at hN9
        refine' TurnC.nx hF9 (newsAll hN9 fun q hq => .tail _ hq) ⟨?zoff, _, _, _, rfl, hx, (fun q hq => by rcases List.mem_cons.mp hq with rfl | hq; exact hxi; exact hni q (.tail _ hq)), by rw [List.length_append, List.length_singleton]; omega, ?zhb, ?zhv⟩
        case zhv => exact fun v hv => by rcases List.mem_append.mp hv with hv | hv; exact hin v hv; rcases List.mem_singleton.mp hv with rfl; exact .inl (List.mem_of_getElem? hgx)
        case zoff => repeat' (first | exact OffV.over | refine' OffV.step ?_ ?_ | exact List.Mem.head _ | refine' List.Mem.tail _ ?_)
        case zhb => rw [hlf, num_at (of_decide_eq_false ‹decide (ns = []) = false›) hvl, left_odd hk1 ‹_ = (1 : Int)›]; exact hCh.snoc (fun q h => h) (.inl hot) hch2 hok
      · have hF9 := ‹Fr _ _ _ _›
        have hN9 := ‹News _ _ _ _›
        refine' TurnC.nx hF9 (newsAll hN9 fun q hq => .tail _ hq) ⟨?zoff, _, _, _, rfl, hx, hni, by omega, ?zhb, hin⟩
        case zoff => repeat' (first | exact OffV.over | refine' OffV.step ?_ ?_ | exact List.Mem.head _ | refine' List.Mem.tail _ ?_)
        case zhb => rw [hlf, num_at (of_decide_eq_false ‹decide (ns = []) = false›) hvl, left_cut ‹_ = (2 : Int)› rfl]; simpa using hCh
      · have hF9 := ‹Fr _ _ _ _›
        have hN9 := ‹News _ _ _ _›
        refine' TurnC.nx hF9 (newsAll hN9 fun q hq => .tail _ hq) ⟨?zoff, _, _, _, rfl, hx, hni, by omega, ?zhb, hin⟩
        case zoff => repeat' (first | exact OffV.over | refine' OffV.step ?_ ?_ | exact List.Mem.head _ | refine' List.Mem.tail _ ?_)
        case zhb => rw [hlf, num_at (of_decide_eq_false ‹decide (ns = []) = false›) hvl, left_even hk1 ‹_ ≠ (1 : Int)› ‹_ ≠ (2 : Int)›]; simpa using hCh
end
end
section
section
variable {w : World} {p : Program} {loose : List Str} {mean : ExcName → Option Value} {mg mb : Str → Option Value}
theorem done_c (l : Addr) (items : List Value) (chs : List Ch) (sy : Array UInt8) (ts : Tok) (hc : chs.length ≤ 10) (hsy : sy.size ≤ 25) :
    ConC w p loose mean mg mb 442 [.bytes sy ts, .ref l] [] 8 160 (fun h => h.IsList l items.toArray ∧ ChsIn h (Str.ofString "cut") items chs [])
      (fun _ _ v news' => news' = [] ∧ ∃ t, v = .bytes (applyAll sy chs) t) := by
  revert w p loose mean mg mb l items chs sy ts hc hsy
  kspl_open w
  kspl_open p
  kspl_open loose
  kspl_open mean
  kspl_open mg
  kspl_open mb
  kspl_open l
  kspl_open items
  kspl_open chs
  kspl_open sy
  kspl_open ts
  intro hc
  intro hsy
  unfold ConC
  w_top off
  k_fill
  (kspl_open dp; kspl_open un; kspl_open cn; kspl_open cs; kspl_open a; kspl_open ccd; kspl_open cl; kspl_open outer; kspl_open A₀; kspl_open base; kspl_open h₀; kspl_open L; kspl_open m; kspl_open s; kspl_open Q; kspl_open E; intro B F X N T hk hp hd hu hret)
  refine wpC_call ?_
  k_dflt ktr_enter
  have KG1 := ‹Kept s.heap _ _›
  have hL := isList_kept hp.1 KG1 (by simp)
  have hG := ChsIn.kept hp.2 KG1
  have hil : items.length = chs.length := hG.1
  k_steps
  refine wpC_For ?_
  k_steps
  have hF2 := ‹Fr _ _ _ _›
  have hN2 := ‹News _ _ _ _›
  (try kso_lit)
  rename_i x h4 l4 h5
  refine forCV [Str.ofString "word", Str.ofString "at", Str.ofString "octets"] (fun it i n => @LT.lt Nat _ x it ∧ n = [(x, ba (applyAll sy (chs.take i)))] ∧ (applyAll sy (chs.take i)).size ≤ 25) rfl hF2 hN2 (hL.at fun o e => hF2.keep l o e) ?zhl ?zhne ?zhgo ?zh0 ?zturn ?zdone
  case zhl => exact fun it i m n h _ Fh _ => hL.at fun o e => Fh.keep l o e
  case zhne => rintro it i n ⟨h, rfl, _⟩ q hq; rcases List.mem_singleton.mp hq with rfl; exact Nat.ne_of_lt h
  case zhgo =>
    intro it i v s Q hv hit hq
    obtain ⟨j, hj⟩ := List.getElem?_of_mem hv
    have hlt : j < chs.length := by
      rw [← hil]
      rcases Nat.lt_or_ge j items.length with h | h
      · exact h
      · rw [List.getElem?_eq_none_iff.mpr h] at hj; cases hj
    obtain ⟨t, ot, rfl, _⟩ := hG.2 j v chs[j] hj (List.getElem?_eq_getElem hlt)
    exact wpAny_letOwnedTupleGo_listiter hit hq
  case zh0 => exact fun it hit => ⟨hit _ (.head _), rfl, hsy⟩
  case zdone =>
    rintro it u n₁ h tk hit ⟨hx, rfl, hsz⟩ Fh Nh
    ((first | ((fail_if_success (fail_if_success (have zq : Mk Nh := trivial))); revert Nh) | have Nh__n := True.intro); (first | ((fail_if_success (fail_if_success (have zq : Mk Fh := trivial))); revert Fh) | have Fh__n := True.intro); (first | ((fail_if_success (fail_if_success (have zq : Mk hsz := trivial))); revert hsz) | have hsz__n := True.intro); (first | ((fail_if_success (fail_if_success (have zq : Mk hx := trivial))); revert hx) | have hx__n := True.intro); (first | ((fail_if_success (fail_if_success (have zq : Mk hit := trivial))); revert hit) | have hit__n := True.intro); (first | ((fail_if_success (fail_if_success (have zq : Mk tk := trivial))); revert tk) | have tk__n := True.intro); (first | ((fail_if_success (fail_if_success (have zq : Mk h := trivial))); revert h) | have h__n := True.intro); (first | ((fail_if_success (fail_if_success (have zq : Mk n₁ := trivial))); revert n₁) | have n₁__n := True.intro); (first | ((fail_if_success (fail_if_success (have zq : Mk u := trivial))); revert u) | have u__n := True.intro); (first | ((fail_if_success (fail_if_success (have zq : Mk it := trivial))); revert it) | have it__n := True.intro); (set_option tactic.hygienic false in repeat ((fail_if_success kln_w); with_reducible intro)); (first | clear it__n | kspl_open it); (set_option tactic.hygienic false in repeat ((fail_if_success kln_w); with_reducible intro)); (first | clear u__n | kspl_open u); (set_option tactic.hygienic false in repeat ((fail_if_success kln_w); with_reducible intro)); (first | clear n₁__n | kspl_open n₁); (set_option tactic.hygienic false in repeat ((fail_if_success kln_w); with_reducible intro)); (first | clear h__n | kspl_open h); (set_option tactic.hygienic false in repeat ((fail_if_success kln_w); with_reducible intro)); (first | clear tk__n | kspl_open tk); (set_option tactic.hygienic false in repeat ((fail_if_success kln_w); with_reducible intro)); (first | clear hit__n | kspl_open hit); (set_option tactic.hygienic false in repeat ((fail_if_success kln_w); with_reducible intro)); (first | clear hx__n | kspl_open hx); (set_option tactic.hygienic false in repeat ((fail_if_success kln_w); with_reducible intro)); (first | clear hsz__n | kspl_open hsz); (set_option tactic.hygienic false in repeat ((fail_if_success kln_w); with_reducible intro)); (first | clear Fh__n | kspl_open Fh); (set_option tactic.hygienic false in repeat ((fail_if_success kln_w); with_reducible intro)); (first | clear Nh__n | kspl_open Nh); (set_option tactic.hygienic false in intros))
    rw [hil, List.take_length] at Nh hsz
    dsimp only
    k_steps
    rename_i kF kN kK kR
    exact hret _ [] _ _ kF (fun q hq => nomatch hq) kK (fun q hq => nomatch hq) ⟨rfl, _, rfl⟩
  case zturn =>
    rintro it i v u n₁ h tk io hit hv ⟨hx, rfl, hsz⟩ Fh Nh
    ((first | ((fail_if_success (fail_if_success (have zq : Mk Nh := trivial))); revert Nh) | have Nh__n := True.intro); (first | ((fail_if_success (fail_if_success (have zq : Mk Fh := trivial))); revert Fh) | have Fh__n := True.intro); (first | ((fail_if_success (fail_if_success (have zq : Mk hsz := trivial))); revert hsz) | have hsz__n := True.intro); (first | ((fail_if_success (fail_if_success (have zq : Mk hx := trivial))); revert hx) | have hx__n := True.intro); (first | ((fail_if_success (fail_if_success (have zq : Mk hv := trivial))); revert hv) | have hv__n := True.intro); (first | ((fail_if_success (fail_if_success (have zq : Mk hit := trivial))); revert hit) | have hit__n := True.intro); (first | ((fail_if_success (fail_if_success (have zq : Mk io := trivial))); revert io) | have io__n := True.intro); (first | ((fail_if_success (fail_if_success (have zq : Mk tk := trivial))); revert tk) | have tk__n := True.intro); (first | ((fail_if_success (fail_if_success (have zq : Mk h := trivial))); revert h) | have h__n := True.intro); (first | ((fail_if_success (fail_if_success (have zq : Mk n₁ := trivial))); revert n₁) | have n₁__n := True.intro); (first | ((fail_if_success (fail_if_success (have zq : Mk u := trivial))); revert u) | have u__n := True.intro); (first | ((fail_if_success (fail_if_success (have zq : Mk v := trivial))); revert v) | have v__n := True.intro); (first | ((fail_if_success (fail_if_success (have zq : Mk i := trivial))); revert i) | have i__n := True.intro); (first | ((fail_if_success (fail_if_success (have zq : Mk it := trivial))); revert it) | have it__n := True.intro); (set_option tactic.hygienic false in repeat ((fail_if_success kln_w); with_reducible intro)); (first | clear it__n | kspl_open it); (set_option tactic.hygienic false in repeat ((fail_if_success kln_w); with_reducible intro)); (first | clear i__n | kspl_open i); (set_option tactic.hygienic false in repeat ((fail_if_success kln_w); with_reducible intro)); (first | clear v__n | kspl_open v); (set_option tactic.hygienic false in repeat ((fail_if_success kln_w); with_reducible intro)); (first | clear u__n | kspl_open u); (set_option tactic.hygienic false in repeat ((fail_if_success kln_w); with_reducible intro)); (first | clear n₁__n | kspl_open n₁); (set_option tactic.hygienic false in repeat ((fail_if_success kln_w); with_reducible intro)); (first | clear h__n | kspl_open h); (set_option tactic.hygienic false in repeat ((fail_if_success kln_w); with_reducible intro)); (first | clear tk__n | kspl_open tk); (set_option tactic.hygienic false in repeat ((fail_if_success kln_w); with_reducible intro)); (first | clear io__n | kspl_open io); (set_option tactic.hygienic false in repeat ((fail_if_success kln_w); with_reducible intro)); (first | clear hit__n | kspl_open hit); (set_option tactic.hygienic false in repeat ((fail_if_success kln_w); with_reducible intro)); (first | clear hv__n | kspl_open hv); (set_option tactic.hygienic false in repeat ((fail_if_success kln_w); with_reducible intro)); (first | clear hx__n | kspl_open hx); (set_option tactic.hygienic false in repeat ((fail_if_success kln_w); with_reducible intro)); (first | clear hsz__n | kspl_open hsz); (set_option tactic.hygienic false in repeat ((fail_if_success kln_w); with_reducible intro)); (first | clear Fh__n | kspl_open Fh); (set_option tactic.hygienic false in repeat ((fail_if_success kln_w); with_reducible intro)); (first | clear Nh__n | kspl_open Nh); (set_option tactic.hygienic false in intros))
    obtain ⟨t, cut, pl', os, ta, tb, tc, rfl, hci, hot, hok⟩ := hG.pickv hv
    ((first | ((fail_if_success (fail_if_success (have zq : Mk hok := trivial))); revert hok) | have hok__n := True.intro); (first | ((fail_if_success (fail_if_success (have zq : Mk hot := trivial))); revert hot) | have hot__n := True.intro); (first | ((fail_if_success (fail_if_success (have zq : Mk hci := trivial))); revert hci) | have hci__n := True.intro); (first | ((fail_if_success (fail_if_success (have zq : Mk tc := trivial))); revert tc) | have tc__n := True.intro); (first | ((fail_if_success (fail_if_success (have zq : Mk tb := trivial))); revert tb) | have tb__n := True.intro); (first | ((fail_if_success (fail_if_success (have zq : Mk ta := trivial))); revert ta) | have ta__n := True.intro); (first | ((fail_if_success (fail_if_success (have zq : Mk os := trivial))); revert os) | have os__n := True.intro); (first | ((fail_if_success (fail_if_success (have zq : Mk pl' := trivial))); revert pl') | have pl'__n := True.intro); (first | ((fail_if_success (fail_if_success (have zq : Mk cut := trivial))); revert cut) | have cut__n := True.intro); (first | ((fail_if_success (fail_if_success (have zq : Mk t := trivial))); revert t) | have t__n := True.intro); (set_option tactic.hygienic false in repeat ((fail_if_success kln_w); with_reducible intro)); (first | clear t__n | kspl_open t); (set_option tactic.hygienic false in repeat ((fail_if_success kln_w); with_reducible intro)); (first | clear cut__n | kspl_open cut); (set_option tactic.hygienic false in repeat ((fail_if_success kln_w); with_reducible intro)); (first | clear pl'__n | kspl_open pl'); (set_option tactic.hygienic false in repeat ((fail_if_success kln_w); with_reducible intro)); (first | clear os__n | kspl_open os); (set_option tactic.hygienic false in repeat ((fail_if_success kln_w); with_reducible intro)); (first | clear ta__n | kspl_open ta); (set_option tactic.hygienic false in repeat ((fail_if_success kln_w); with_reducible intro)); (first | clear tb__n | kspl_open tb); (set_option tactic.hygienic false in repeat ((fail_if_success kln_w); with_reducible intro)); (first | clear tc__n | kspl_open tc); (set_option tactic.hygienic false in repeat ((fail_if_success kln_w); with_reducible intro)); (first | clear hci__n | kspl_open hci); (set_option tactic.hygienic false in repeat ((fail_if_success kln_w); with_reducible intro)); (first | clear hot__n | kspl_open hot); (set_option tactic.hygienic false in repeat ((fail_if_success kln_w); with_reducible intro)); (first | clear hok__n | kspl_open hok); (set_option tactic.hygienic false in intros))
    have hap := applyAll_take (sy := sy) hci
    have hs1 := apply1_size hsz hok
    have hT : IsTup _ t #[.str (if cut then Str.ofString "cut" else Str.ofString "write") ta, .int (pl' : Nat) tb, .bytes os tc] := ⟨_, hot, rfl, _, rfl⟩
    have hp1 := hok.pl
    have hp2 := hok.most
    dsimp only at hp1 hp2
    cases cut
    · simp only [Bool.false_eq_true, if_false] at hT
      k_steps
      rw [← hap] at hs1
      refine' TurnC.nxV (n' := [(x, ba (applyAll sy (chs.take (i + 1))))]) ?zF (newsAll ?zN ?zmem) ?zoff ?zj
      case zj => exact ⟨hx, rfl, hs1⟩
      case zF => k_asm
      case zN => k_asm
      case zmem => rw [hap]; intro q hq; simp only [List.mem_cons, List.not_mem_nil, or_false] at hq ⊢; first | exact hq.symm | exact hq
      case zoff => repeat' (first | exact OffV.over | refine' OffV.step ?_ ?_ | exact List.Mem.head _ | refine' List.Mem.tail _ ?_)
    · simp only [if_true] at hT
      k_steps
      rw [← hap] at hs1
      refine' TurnC.nxV (n' := [(x, ba (applyAll sy (chs.take (i + 1))))]) ?zF (newsAll ?zN ?zmem) ?zoff ?zj
      case zj => exact ⟨hx, rfl, hs1⟩
      case zF => k_asm
      case zN => k_asm
      case zmem => rw [hap]; intro q hq; simp only [List.mem_cons, List.not_mem_nil, or_false] at hq ⊢; first | exact hq.symm | exact hq
      case zoff => repeat' (first | exact OffV.over | refine' OffV.step ?_ ?_ | exact List.Mem.head _ | refine' List.Mem.tail _ ?_)
end
end
section
theorem ltAll_mem {d : Nat} {l : List (Addr × Obj)} (h : LtAll d (l.map (·.1))) : ∀ q ∈ l, q.1 < d := fun q hq => h.lt (List.mem_map_of_mem hq)
section
variable {w : World} {p : Program} {loose : List Str} {mean : ExcName → Option Value} {mg mb : Str → Option Value}
theorem openA_c (A : DS) (l : List (Addr × Obj)) (sec : Int) (sy now : Array UInt8) (items : List Value) (t : Tok) (hl : DiskIs w A sec sy now items l) :
    ConA w p loose mean mg mb 348 [.ref A.D, .str (Str.ofString "a") t] l 4 80 anyH (fun _ _ v news' => news' = l ∧ v = .ref A.f) := by
  revert w p loose mean mg mb A l sec sy now items t hl
  kspl_open w
  kspl_open p
  kspl_open loose
  kspl_open mean
  kspl_open mg
  kspl_open mb
  kspl_open A
  kspl_open l
  kspl_open sec
  kspl_open sy
  kspl_open now
  kspl_open items
  kspl_open t
  intro hl
  have hl2 := hl
  obtain ⟨nw, pl, f, fdx, fd, D, dx⟩ := A
  ((first | ((fail_if_success (fail_if_success (have zq : Mk dx := trivial))); revert dx) | have dx__n := True.intro); (first | ((fail_if_success (fail_if_success (have zq : Mk D := trivial))); revert D) | have D__n := True.intro); (first | ((fail_if_success (fail_if_success (have zq : Mk fd := trivial))); revert fd) | have fd__n := True.intro); (first | ((fail_if_success (fail_if_success (have zq : Mk fdx := trivial))); revert fdx) | have fdx__n := True.intro); (first | ((fail_if_success (fail_if_success (have zq : Mk f := trivial))); revert f) | have f__n := True.intro); (first | ((fail_if_success (fail_if_success (have zq : Mk pl := trivial))); revert pl) | have pl__n := True.intro); (first | ((fail_if_success (fail_if_success (have zq : Mk nw := trivial))); revert nw) | have nw__n := True.intro); (set_option tactic.hygienic false in repeat ((fail_if_success kln_w); with_reducible intro)); (first | clear nw__n | kspl_open nw); (set_option tactic.hygienic false in repeat ((fail_if_success kln_w); with_reducible intro)); (first | clear pl__n | kspl_open pl); (set_option tactic.hygienic false in repeat ((fail_if_success kln_w); with_reducible intro)); (first | clear f__n | kspl_open f); (set_option tactic.hygienic false in repeat ((fail_if_success kln_w); with_reducible intro)); (first | clear fdx__n | kspl_open fdx); (set_option tactic.hygienic false in repeat ((fail_if_success kln_w); with_reducible intro)); (first | clear fd__n | kspl_open fd); (set_option tactic.hygienic false in repeat ((fail_if_success kln_w); with_reducible intro)); (first | clear D__n | kspl_open D); (set_option tactic.hygienic false in repeat ((fail_if_success kln_w); with_reducible intro)); (first | clear dx__n | kspl_open dx); (set_option tactic.hygienic false in intros))
  obtain ⟨k, ofx, ofd, od, rfl, hfx, hofd, lo, ⟨ts, st, tst, sh, lk, t1, t2, t3, t4, t5, t6, t7, rfl⟩, hnd⟩ := hl
  ((first | ((fail_if_success (fail_if_success (have zq : Mk hnd := trivial))); revert hnd) | have hnd__n := True.intro); (first | ((fail_if_success (fail_if_success (have zq : Mk t7 := trivial))); revert t7) | have t7__n := True.intro); (first | ((fail_if_success (fail_if_success (have zq : Mk t6 := trivial))); revert t6) | have t6__n := True.intro); (first | ((fail_if_success (fail_if_success (have zq : Mk t5 := trivial))); revert t5) | have t5__n := True.intro); (first | ((fail_if_success (fail_if_success (have zq : Mk t4 := trivial))); revert t4) | have t4__n := True.intro); (first | ((fail_if_success (fail_if_success (have zq : Mk t3 := trivial))); revert t3) | have t3__n := True.intro); (first | ((fail_if_success (fail_if_success (have zq : Mk t2 := trivial))); revert t2) | have t2__n := True.intro); (first | ((fail_if_success (fail_if_success (have zq : Mk t1 := trivial))); revert t1) | have t1__n := True.intro); (first | ((fail_if_success (fail_if_success (have zq : Mk lk := trivial))); revert lk) | have lk__n := True.intro); (first | ((fail_if_success (fail_if_success (have zq : Mk sh := trivial))); revert sh) | have sh__n := True.intro); (first | ((fail_if_success (fail_if_success (have zq : Mk tst := trivial))); revert tst) | have tst__n := True.intro); (first | ((fail_if_success (fail_if_success (have zq : Mk st := trivial))); revert st) | have st__n := True.intro); (first | ((fail_if_success (fail_if_success (have zq : Mk ts := trivial))); revert ts) | have ts__n := True.intro); (first | ((fail_if_success (fail_if_success (have zq : Mk lo := trivial))); revert lo) | have lo__n := True.intro); (first | ((fail_if_success (fail_if_success (have zq : Mk hofd := trivial))); revert hofd) | have hofd__n := True.intro); (first | ((fail_if_success (fail_if_success (have zq : Mk hfx := trivial))); revert hfx) | have hfx__n := True.intro); (first | ((fail_if_success (fail_if_success (have zq : Mk od := trivial))); revert od) | have od__n := True.intro); (first | ((fail_if_success (fail_if_success (have zq : Mk ofd := trivial))); revert ofd) | have ofd__n := True.intro); (first | ((fail_if_success (fail_if_success (have zq : Mk ofx := trivial))); revert ofx) | have ofx__n := True.intro); (first | ((fail_if_success (fail_if_success (have zq : Mk k := trivial))); revert k) | have k__n := True.intro); (set_option tactic.hygienic false in repeat ((fail_if_success kln_w); with_reducible intro)); (first | clear k__n | kspl_open k); (set_option tactic.hygienic false in repeat ((fail_if_success kln_w); with_reducible intro)); (first | clear ofx__n | kspl_open ofx); (set_option tactic.hygienic false in repeat ((fail_if_success kln_w); with_reducible intro)); (first | clear ofd__n | kspl_open ofd); (set_option tactic.hygienic false in repeat ((fail_if_success kln_w); with_reducible intro)); (first | clear od__n | kspl_open od); (set_option tactic.hygienic false in repeat ((fail_if_success kln_w); with_reducible intro)); (first | clear hfx__n | kspl_open hfx); (set_option tactic.hygienic false in repeat ((fail_if_success kln_w); with_reducible intro)); (first | clear hofd__n | kspl_open hofd); (set_option tactic.hygienic false in repeat ((fail_if_success kln_w); with_reducible intro)); (first | clear lo__n | kspl_open lo); (set_option tactic.hygienic false in repeat ((fail_if_success kln_w); with_reducible intro)); (first | clear ts__n | kspl_open ts); (set_option tactic.hygienic false in repeat ((fail_if_success kln_w); with_reducible intro)); (first | clear st__n | kspl_open st); (set_option tactic.hygienic false in repeat ((fail_if_success kln_w); with_reducible intro)); (first | clear tst__n | kspl_open tst); (set_option tactic.hygienic false in repeat ((fail_if_success kln_w); with_reducible intro)); (first | clear sh__n | kspl_open sh); (set_option tactic.hygienic false in repeat ((fail_if_success kln_w); with_reducible intro)); (first | clear lk__n | kspl_open lk); (set_option tactic.hygienic false in repeat ((fail_if_success kln_w); with_reducible intro)); (first | clear t1__n | kspl_open t1); (set_option tactic.hygienic false in repeat ((fail_if_success kln_w); with_reducible intro)); (first | clear t2__n | kspl_open t2); (set_option tactic.hygienic false in repeat ((fail_if_success kln_w); with_reducible intro)); (first | clear t3__n | kspl_open t3); (set_option tactic.hygienic false in repeat ((fail_if_success kln_w); with_reducible intro)); (first | clear t4__n | kspl_open t4); (set_option tactic.hygienic false in repeat ((fail_if_success kln_w); with_reducible intro)); (first | clear t5__n | kspl_open t5); (set_option tactic.hygienic false in repeat ((fail_if_success kln_w); with_reducible intro)); (first | clear t6__n | kspl_open t6); (set_option tactic.hygienic false in repeat ((fail_if_success kln_w); with_reducible intro)); (first | clear t7__n | kspl_open t7); (set_option tactic.hygienic false in repeat ((fail_if_success kln_w); with_reducible intro)); (first | clear hnd__n | kspl_open hnd); (set_option tactic.hygienic false in intros))
  dsimp only at hofd lo ⊢
  unfold ConA
  w_top off
  k_fill
  (kspl_open dp; kspl_open un; kspl_open cn; kspl_open cs; kspl_open a; kspl_open ccd; kspl_open cl; kspl_open outer; kspl_open A₀; kspl_open base; kspl_open h₀; kspl_open L; kspl_open m; kspl_open s; kspl_open Q; kspl_open E; intro B F X N T hk hp hd hu hret)
  refine wpAny_call ?_
  k_dflt cell_enter
  k_steps
  rename_i kF kN kK kR
  exact hret _ _ _ _ kF kN kK kR ⟨rfl, rfl⟩
theorem size_c (A : DS) (l : List (Addr × Obj)) (sec : Int) (sy now : Array UInt8) (items : List Value) (hl : DiskIs w A sec sy now items l) (hb : now.size ≤ 100) :
    ConA w p loose mean mg mb 221 [.ref A.f] l 4 80 anyH (fun _ _ v news' => news' = l ∧ ∃ t, v = .int (now.size : Nat) t) := by
  revert w p loose mean mg mb A l sec sy now items hl hb
  kspl_open w
  kspl_open p
  kspl_open loose
  kspl_open mean
  kspl_open mg
  kspl_open mb
  kspl_open A
  kspl_open l
  kspl_open sec
  kspl_open sy
  kspl_open now
  kspl_open items
  intro hl
  intro hb
  obtain ⟨nw, pl, f, fdx, fd, D, dx⟩ := A
  ((first | ((fail_if_success (fail_if_success (have zq : Mk dx := trivial))); revert dx) | have dx__n := True.intro); (first | ((fail_if_success (fail_if_success (have zq : Mk D := trivial))); revert D) | have D__n := True.intro); (first | ((fail_if_success (fail_if_success (have zq : Mk fd := trivial))); revert fd) | have fd__n := True.intro); (first | ((fail_if_success (fail_if_success (have zq : Mk fdx := trivial))); revert fdx) | have fdx__n := True.intro); (first | ((fail_if_success (fail_if_success (have zq : Mk f := trivial))); revert f) | have f__n := True.intro); (first | ((fail_if_success (fail_if_success (have zq : Mk pl := trivial))); revert pl) | have pl__n := True.intro); (first | ((fail_if_success (fail_if_success (have zq : Mk nw := trivial))); revert nw) | have nw__n := True.intro); (set_option tactic.hygienic false in repeat ((fail_if_success kln_w); with_reducible intro)); (first | clear nw__n | kspl_open nw); (set_option tactic.hygienic false in repeat ((fail_if_success kln_w); with_reducible intro)); (first | clear pl__n | kspl_open pl); (set_option tactic.hygienic false in repeat ((fail_if_success kln_w); with_reducible intro)); (first | clear f__n | kspl_open f); (set_option tactic.hygienic false in repeat ((fail_if_success kln_w); with_reducible intro)); (first | clear fdx__n | kspl_open fdx); (set_option tactic.hygienic false in repeat ((fail_if_success kln_w); with_reducible intro)); (first | clear fd__n | kspl_open fd); (set_option tactic.hygienic false in repeat ((fail_if_success kln_w); with_reducible intro)); (first | clear D__n | kspl_open D); (set_option tactic.hygienic false in repeat ((fail_if_success kln_w); with_reducible intro)); (first | clear dx__n | kspl_open dx); (set_option tactic.hygienic false in intros))
  obtain ⟨k, ofx, ofd, od, rfl, ⟨tn, ty, u1, u2, u3, u4, u5, rfl⟩, hofd, lo, hod, hnd⟩ := hl
  ((first | ((fail_if_success (fail_if_success (have zq : Mk hnd := trivial))); revert hnd) | have hnd__n := True.intro); (first | ((fail_if_success (fail_if_success (have zq : Mk hod := trivial))); revert hod) | have hod__n := True.intro); (first | ((fail_if_success (fail_if_success (have zq : Mk lo := trivial))); revert lo) | have lo__n := True.intro); (first | ((fail_if_success (fail_if_success (have zq : Mk hofd := trivial))); revert hofd) | have hofd__n := True.intro); (first | ((fail_if_success (fail_if_success (have zq : Mk u5 := trivial))); revert u5) | have u5__n := True.intro); (first | ((fail_if_success (fail_if_success (have zq : Mk u4 := trivial))); revert u4) | have u4__n := True.intro); (first | ((fail_if_success (fail_if_success (have zq : Mk u3 := trivial))); revert u3) | have u3__n := True.intro); (first | ((fail_if_success (fail_if_success (have zq : Mk u2 := trivial))); revert u2) | have u2__n := True.intro); (first | ((fail_if_success (fail_if_success (have zq : Mk u1 := trivial))); revert u1) | have u1__n := True.intro); (first | ((fail_if_success (fail_if_success (have zq : Mk ty := trivial))); revert ty) | have ty__n := True.intro); (first | ((fail_if_success (fail_if_success (have zq : Mk tn := trivial))); revert tn) | have tn__n := True.intro); (first | ((fail_if_success (fail_if_success (have zq : Mk od := trivial))); revert od) | have od__n := True.intro); (first | ((fail_if_success (fail_if_success (have zq : Mk ofd := trivial))); revert ofd) | have ofd__n := True.intro); (first | ((fail_if_success (fail_if_success (have zq : Mk ofx := trivial))); revert ofx) | have ofx__n := True.intro); (first | ((fail_if_success (fail_if_success (have zq : Mk k := trivial))); revert k) | have k__n := True.intro); (set_option tactic.hygienic false in repeat ((fail_if_success kln_w); with_reducible intro)); (first | clear k__n | kspl_open k); (set_option tactic.hygienic false in repeat ((fail_if_success kln_w); with_reducible intro)); (first | clear ofx__n | kspl_open ofx); (set_option tactic.hygienic false in repeat ((fail_if_success kln_w); with_reducible intro)); (first | clear ofd__n | kspl_open ofd); (set_option tactic.hygienic false in repeat ((fail_if_success kln_w); with_reducible intro)); (first | clear od__n | kspl_open od); (set_option tactic.hygienic false in repeat ((fail_if_success kln_w); with_reducible intro)); (first | clear tn__n | kspl_open tn); (set_option tactic.hygienic false in repeat ((fail_if_success kln_w); with_reducible intro)); (first | clear ty__n | kspl_open ty); (set_option tactic.hygienic false in repeat ((fail_if_success kln_w); with_reducible intro)); (first | clear u1__n | kspl_open u1); (set_option tactic.hygienic false in repeat ((fail_if_success kln_w); with_reducible intro)); (first | clear u2__n | kspl_open u2); (set_option tactic.hygienic false in repeat ((fail_if_success kln_w); with_reducible intro)); (first | clear u3__n | kspl_open u3); (set_option tactic.hygienic false in repeat ((fail_if_success kln_w); with_reducible intro)); (first | clear u4__n | kspl_open u4); (set_option tactic.hygienic false in repeat ((fail_if_success kln_w); with_reducible intro)); (first | clear u5__n | kspl_open u5); (set_option tactic.hygienic false in repeat ((fail_if_success kln_w); with_reducible intro)); (first | clear hofd__n | kspl_open hofd); (set_option tactic.hygienic false in repeat ((fail_if_success kln_w); with_reducible intro)); (first | clear lo__n | kspl_open lo); (set_option tactic.hygienic false in repeat ((fail_if_success kln_w); with_reducible intro)); (first | clear hod__n | kspl_open hod); (set_option tactic.hygienic false in repeat ((fail_if_success kln_w); with_reducible intro)); (first | clear hnd__n | kspl_open hnd); (set_option tactic.hygienic false in intros))
  dsimp only at hofd lo ⊢
  unfold ConA
  w_top off
  k_fill
  (kspl_open dp; kspl_open un; kspl_open cn; kspl_open cs; kspl_open a; kspl_open ccd; kspl_open cl; kspl_open outer; kspl_open A₀; kspl_open base; kspl_open h₀; kspl_open L; kspl_open m; kspl_open s; kspl_open Q; kspl_open E; intro B F X N T hk hp hd hu hret)
  refine wpAny_call ?_
  k_dflt cell_enter
  k_steps
  rename_i kF kN kK kR
  exact hret _ _ _ _ kF kN kK kR ⟨rfl, _, rfl⟩
end
end
section
section
variable {w : World} {p : Program} {loose : List Str} {mean : ExcName → Option Value} {mg mb : Str → Option Value}
theorem right_c (src : Addr) (o : Obj) (ho : Src o) :
    ConC w p loose mean mg mb 454 [.ref src] [(src, o)] 60 900 anyH (fun _ _ v _ => ∃ t : Tok, v = Value.bool true) := by
  revert w p loose mean mg mb src o ho
  kspl_open w
  kspl_open p
  kspl_open loose
  kspl_open mean
  kspl_open mg
  kspl_open mb
  kspl_open src
  kspl_open o
  intro ho
  unfold ConC
  w_top off
  k_fill
  (kspl_open dp; kspl_open un; kspl_open cn; kspl_open cs; kspl_open a; kspl_open ccd; kspl_open cl; kspl_open outer; kspl_open A₀; kspl_open base; kspl_open h₀; kspl_open L; kspl_open m; kspl_open s; kspl_open Q; kspl_open E; intro B F X N T hk hp hd hu hret)
  have hS9 : Stop := ⟨⟩
  have hM9 : StopM := ⟨⟩
  have hC9 : StopC := ⟨⟩
  refine wpC_call ?_
  k_dflt ktr_enter
  kso_lit
  with_reducible rename News _ _ _ _ => N1
  (try kso_lit)
  rename_i g1 L1 h1 tkA KG1 FG1 F1 B1 X1 T1 l1 o1
  have S1 : Dis [(src, o)] [(L1 + 1, o1)] := dis1 (Nat.ne_of_lt (Nat.lt_succ_of_lt l1.1))
  k_steps
  try unfold Halt
  k_dflt (refine' useAB (take_c src o 4 _ ho (by decide) (by decide)) S1 (by (try simp only [List.cons_append, List.nil_append]); (repeat' (first | exact List.forall_mem_nil _ | refine List.forall_mem_cons.mpr ⟨?_, ?_⟩)) <;> (repeat' (first | exact List.Mem.head _ | refine' List.Mem.tail _ ?_))) ?zB F1 ?zX N1 ?zT ?zhk trivial ?zhd ?zhu ?_; (case zB => k_asm); (case zX => k_asm); (case zT => k_asm); (case zhk => exact rfl); (case zhd => ktr_room); (case zhu => ktr_units))
  rintro v2 n2 h2 tk2 F2 N2 D2 R2 ⟨o2, rfl, d2, t2, rfl, hd0, hd4, ho2⟩
  ((first | ((fail_if_success (fail_if_success (have zq : Mk ho2 := trivial))); revert ho2) | have ho2__n := True.intro); (first | ((fail_if_success (fail_if_success (have zq : Mk hd4 := trivial))); revert hd4) | have hd4__n := True.intro); (first | ((fail_if_success (fail_if_success (have zq : Mk hd0 := trivial))); revert hd0) | have hd0__n := True.intro); (first | ((fail_if_success (fail_if_success (have zq : Mk t2 := trivial))); revert t2) | have t2__n := True.intro); (first | ((fail_if_success (fail_if_success (have zq : Mk d2 := trivial))); revert d2) | have d2__n := True.intro); (first | ((fail_if_success (fail_if_success (have zq : Mk o2 := trivial))); revert o2) | have o2__n := True.intro); (first | ((fail_if_success (fail_if_success (have zq : Mk R2 := trivial))); revert R2) | have R2__n := True.intro); (first | ((fail_if_success (fail_if_success (have zq : Mk D2 := trivial))); revert D2) | have D2__n := True.intro); (first | ((fail_if_success (fail_if_success (have zq : Mk N2 := trivial))); revert N2) | have N2__n := True.intro); (first | ((fail_if_success (fail_if_success (have zq : Mk F2 := trivial))); revert F2) | have F2__n := True.intro); (first | ((fail_if_success (fail_if_success (have zq : Mk tk2 := trivial))); revert tk2) | have tk2__n := True.intro); (first | ((fail_if_success (fail_if_success (have zq : Mk h2 := trivial))); revert h2) | have h2__n := True.intro); (first | ((fail_if_success (fail_if_success (have zq : Mk n2 := trivial))); revert n2) | have n2__n := True.intro); (first | ((fail_if_success (fail_if_success (have zq : Mk v2 := trivial))); revert v2) | have v2__n := True.intro); (set_option tactic.hygienic false in repeat ((fail_if_success kln_w); with_reducible intro)); (first | clear v2__n | kspl_open v2); (set_option tactic.hygienic false in repeat ((fail_if_success kln_w); with_reducible intro)); (first | clear n2__n | kspl_open n2); (set_option tactic.hygienic false in repeat ((fail_if_success kln_w); with_reducible intro)); (first | clear h2__n | kspl_open h2); (set_option tactic.hygienic false in repeat ((fail_if_success kln_w); with_reducible intro)); (first | clear tk2__n | kspl_open tk2); (set_option tactic.hygienic false in repeat ((fail_if_success kln_w); with_reducible intro)); (first | clear F2__n | kspl_open F2); (set_option tactic.hygienic false in repeat ((fail_if_success kln_w); with_reducible intro)); (first | clear N2__n | kspl_open N2); (set_option tactic.hygienic false in repeat ((fail_if_success kln_w); with_reducible intro)); (first | clear D2__n | kspl_open D2); (set_option tactic.hygienic false in repeat ((fail_if_success kln_w); with_reducible intro)); (first | clear R2__n | kspl_open R2); (set_option tactic.hygienic false in repeat ((fail_if_success kln_w); with_reducible intro)); (first | clear o2__n | kspl_open o2); (set_option tactic.hygienic false in repeat ((fail_if_success kln_w); with_reducible intro)); (first | clear d2__n | kspl_open d2); (set_option tactic.hygienic false in repeat ((fail_if_success kln_w); with_reducible intro)); (first | clear t2__n | kspl_open t2); (set_option tactic.hygienic false in repeat ((fail_if_success kln_w); with_reducible intro)); (first | clear hd0__n | kspl_open hd0); (set_option tactic.hygienic false in repeat ((fail_if_success kln_w); with_reducible intro)); (first | clear hd4__n | kspl_open hd4); (set_option tactic.hygienic false in repeat ((fail_if_success kln_w); with_reducible intro)); (first | clear ho2__n | kspl_open ho2); (set_option tactic.hygienic false in intros))
  obtain ⟨n, rfl⟩ := Int.eq_ofNat_of_zero_le hd0
  ((first | ((fail_if_success (fail_if_success (have zq : Mk n := trivial))); revert n) | have n__n := True.intro); (set_option tactic.hygienic false in repeat ((fail_if_success kln_w); with_reducible intro)); (first | clear n__n | kspl_open n); (set_option tactic.hygienic false in intros))
  have S2 : Dis [(src, o2)] [(L1 + 1, o1)] := S1.head
  have hsec : (1 + (n : Int)) = ((1 + n : Nat) : Int) := by omega
  have hsec1 : 1 ≤ 1 + n ∧ 1 + n ≤ 8 := by omega
  generalize 1 + n = sec at hsec hsec1
  ((first | ((fail_if_success (fail_if_success (have zq : Mk sec := trivial))); revert sec) | have sec__n := True.intro); (set_option tactic.hygienic false in repeat ((fail_if_success kln_w); with_reducible intro)); (first | clear sec__n | kspl_open sec); (set_option tactic.hygienic false in intros))
  clear R2
  k_steps
  try unfold Halt
  rw [hsec]
  with_reducible rename Fr _ _ _ _ => F3
  with_reducible rename News _ _ _ _ => N3
  rw [hsec] at F3
  refine wpC.any ?_
  k_dflt (refine' useAB (disk_c (sec : Nat) _) Dis.nil (fun q hq => hq) ?zB F3 ?zX N3 ?zT ?zhk trivial ?zhd ?zhu ?_; (case zB => k_asm); (case zX => k_asm); (case zT => k_asm); (case zhk => exact rfl); (case zhd => ktr_room); (case zhu => ktr_units))
  rintro v4 n4 h4 tk4 F4 N4 D4 R4 ⟨D, dx, fd, od, ofd, rfl, rfl, hod, hofd, lo, lt1, lt2⟩
  ((first | ((fail_if_success (fail_if_success (have zq : Mk lt2 := trivial))); revert lt2) | have lt2__n := True.intro); (first | ((fail_if_success (fail_if_success (have zq : Mk lt1 := trivial))); revert lt1) | have lt1__n := True.intro); (first | ((fail_if_success (fail_if_success (have zq : Mk lo := trivial))); revert lo) | have lo__n := True.intro); (first | ((fail_if_success (fail_if_success (have zq : Mk hofd := trivial))); revert hofd) | have hofd__n := True.intro); (first | ((fail_if_success (fail_if_success (have zq : Mk hod := trivial))); revert hod) | have hod__n := True.intro); (first | ((fail_if_success (fail_if_success (have zq : Mk ofd := trivial))); revert ofd) | have ofd__n := True.intro); (first | ((fail_if_success (fail_if_success (have zq : Mk od := trivial))); revert od) | have od__n := True.intro); (first | ((fail_if_success (fail_if_success (have zq : Mk fd := trivial))); revert fd) | have fd__n := True.intro); (first | ((fail_if_success (fail_if_success (have zq : Mk dx := trivial))); revert dx) | have dx__n := True.intro); (first | ((fail_if_success (fail_if_success (have zq : Mk D := trivial))); revert D) | have D__n := True.intro); (first | ((fail_if_success (fail_if_success (have zq : Mk R4 := trivial))); revert R4) | have R4__n := True.intro); (first | ((fail_if_success (fail_if_success (have zq : Mk D4 := trivial))); revert D4) | have D4__n := True.intro); (first | ((fail_if_success (fail_if_success (have zq : Mk N4 := trivial))); revert N4) | have N4__n := True.intro); (first | ((fail_if_success (fail_if_success (have zq : Mk F4 := trivial))); revert F4) | have F4__n := True.intro); (first | ((fail_if_success (fail_if_success (have zq : Mk tk4 := trivial))); revert tk4) | have tk4__n := True.intro); (first | ((fail_if_success (fail_if_success (have zq : Mk h4 := trivial))); revert h4) | have h4__n := True.intro); (first | ((fail_if_success (fail_if_success (have zq : Mk n4 := trivial))); revert n4) | have n4__n := True.intro); (first | ((fail_if_success (fail_if_success (have zq : Mk v4 := trivial))); revert v4) | have v4__n := True.intro); (set_option tactic.hygienic false in repeat ((fail_if_success kln_w); with_reducible intro)); (first | clear v4__n | kspl_open v4); (set_option tactic.hygienic false in repeat ((fail_if_success kln_w); with_reducible intro)); (first | clear n4__n | kspl_open n4); (set_option tactic.hygienic false in repeat ((fail_if_success kln_w); with_reducible intro)); (first | clear h4__n | kspl_open h4); (set_option tactic.hygienic false in repeat ((fail_if_success kln_w); with_reducible intro)); (first | clear tk4__n | kspl_open tk4); (set_option tactic.hygienic false in repeat ((fail_if_success kln_w); with_reducible intro)); (first | clear F4__n | kspl_open F4); (set_option tactic.hygienic false in repeat ((fail_if_success kln_w); with_reducible intro)); (first | clear N4__n | kspl_open N4); (set_option tactic.hygienic false in repeat ((fail_if_success kln_w); with_reducible intro)); (first | clear D4__n | kspl_open D4); (set_option tactic.hygienic false in repeat ((fail_if_success kln_w); with_reducible intro)); (first | clear R4__n | kspl_open R4); (set_option tactic.hygienic false in repeat ((fail_if_success kln_w); with_reducible intro)); (first | clear D__n | kspl_open D); (set_option tactic.hygienic false in repeat ((fail_if_success kln_w); with_reducible intro)); (first | clear dx__n | kspl_open dx); (set_option tactic.hygienic false in repeat ((fail_if_success kln_w); with_reducible intro)); (first | clear fd__n | kspl_open fd); (set_option tactic.hygienic false in repeat ((fail_if_success kln_w); with_reducible intro)); (first | clear od__n | kspl_open od); (set_option tactic.hygienic false in repeat ((fail_if_success kln_w); with_reducible intro)); (first | clear ofd__n | kspl_open ofd); (set_option tactic.hygienic false in repeat ((fail_if_success kln_w); with_reducible intro)); (first | clear hod__n | kspl_open hod); (set_option tactic.hygienic false in repeat ((fail_if_success kln_w); with_reducible intro)); (first | clear hofd__n | kspl_open hofd); (set_option tactic.hygienic false in repeat ((fail_if_success kln_w); with_reducible intro)); (first | clear lo__n | kspl_open lo); (set_option tactic.hygienic false in repeat ((fail_if_success kln_w); with_reducible intro)); (first | clear lt1__n | kspl_open lt1); (set_option tactic.hygienic false in repeat ((fail_if_success kln_w); with_reducible intro)); (first | clear lt2__n | kspl_open lt2); (set_option tactic.hygienic false in intros))
  clear R4
  replace N4 := newsAll (n' := (L1 + 1, o1) :: (src, o2) :: [(fd, ofd), (D, instObj 372 dx), (dx, od)]) N4 (by (try simp only [List.cons_append, List.nil_append]); (repeat' (first | exact List.forall_mem_nil _ | refine List.forall_mem_cons.mpr ⟨?_, ?_⟩)) <;> (repeat' (first | exact List.Mem.head _ | refine' List.Mem.tail _ ?_)))
  have S4 : Dis [(fd, ofd), (D, instObj 372 dx), (dx, od)] ((L1 + 1, o1) :: [(src, o2)]) := D4.sub (fun _ h => h) (by (try simp only [List.cons_append, List.nil_append]); (repeat' (first | exact List.forall_mem_nil _ | refine List.forall_mem_cons.mpr ⟨?_, ?_⟩)) <;> (repeat' (first | exact List.Mem.head _ | refine' List.Mem.tail _ ?_)))
  clear D4
  k_steps
  try unfold Halt
  with_reducible rename Fr _ _ _ _ => F5
  with_reducible rename News _ _ _ _ => N5
  refine meth_diskD hod (by k_mem) (by k_mem) F5 N5 X1 (by k_is) (by k_is) (by k_is) (by intros; rfl) ?_
  k_steps
  try unfold Halt
  with_reducible rename Fr _ _ _ _ => F6
  with_reducible rename News _ _ _ _ => N6
  k_dflt (refine' useCB (open_c D dx fd od ofd sec _ hod hofd lo (Nat.ne_of_gt lt2) (Nat.ne_of_gt (Nat.lt_trans lt1 lt2)) (Nat.ne_of_gt lt1)) S4 (by (try simp only [List.cons_append, List.nil_append]); (repeat' (first | exact List.forall_mem_nil _ | refine List.forall_mem_cons.mpr ⟨?_, ?_⟩)) <;> (repeat' (first | exact List.Mem.head _ | refine' List.Mem.tail _ ?_))) ?zB F6 ?zX N6 ?zT ?zhk trivial ?zhd ?zhu ?_; (case zB => k_asm); (case zX => k_asm); (case zT => k_asm); (case zhk => exact rfl); (case zhd => ktr_room); (case zhu => ktr_units))
  rintro v7 l7 h7 tk7 F7 N7 D7 R7 ⟨A7, rfl, rfl, rfl, rfl, hA7⟩
  ((first | ((fail_if_success (fail_if_success (have zq : Mk hA7 := trivial))); revert hA7) | have hA7__n := True.intro); (first | ((fail_if_success (fail_if_success (have zq : Mk A7 := trivial))); revert A7) | have A7__n := True.intro); (first | ((fail_if_success (fail_if_success (have zq : Mk R7 := trivial))); revert R7) | have R7__n := True.intro); (first | ((fail_if_success (fail_if_success (have zq : Mk D7 := trivial))); revert D7) | have D7__n := True.intro); (first | ((fail_if_success (fail_if_success (have zq : Mk N7 := trivial))); revert N7) | have N7__n := True.intro); (first | ((fail_if_success (fail_if_success (have zq : Mk F7 := trivial))); revert F7) | have F7__n := True.intro); (first | ((fail_if_success (fail_if_success (have zq : Mk tk7 := trivial))); revert tk7) | have tk7__n := True.intro); (first | ((fail_if_success (fail_if_success (have zq : Mk h7 := trivial))); revert h7) | have h7__n := True.intro); (first | ((fail_if_success (fail_if_success (have zq : Mk l7 := trivial))); revert l7) | have l7__n := True.intro); (first | ((fail_if_success (fail_if_success (have zq : Mk v7 := trivial))); revert v7) | have v7__n := True.intro); (set_option tactic.hygienic false in repeat ((fail_if_success kln_w); with_reducible intro)); (first | clear v7__n | kspl_open v7); (set_option tactic.hygienic false in repeat ((fail_if_success kln_w); with_reducible intro)); (first | clear l7__n | kspl_open l7); (set_option tactic.hygienic false in repeat ((fail_if_success kln_w); with_reducible intro)); (first | clear h7__n | kspl_open h7); (set_option tactic.hygienic false in repeat ((fail_if_success kln_w); with_reducible intro)); (first | clear tk7__n | kspl_open tk7); (set_option tactic.hygienic false in repeat ((fail_if_success kln_w); with_reducible intro)); (first | clear F7__n | kspl_open F7); (set_option tactic.hygienic false in repeat ((fail_if_success kln_w); with_reducible intro)); (first | clear N7__n | kspl_open N7); (set_option tactic.hygienic false in repeat ((fail_if_success kln_w); with_reducible intro)); (first | clear D7__n | kspl_open D7); (set_option tactic.hygienic false in repeat ((fail_if_success kln_w); with_reducible intro)); (first | clear R7__n | kspl_open R7); (set_option tactic.hygienic false in repeat ((fail_if_success kln_w); with_reducible intro)); (first | clear A7__n | kspl_open A7); (set_option tactic.hygienic false in repeat ((fail_if_success kln_w); with_reducible intro)); (first | clear hA7__n | kspl_open hA7); (set_option tactic.hygienic false in intros))
  clear R7 S4
  have hcs : @Ne Nat (L1 + 1) src := Ne.symm (Nat.ne_of_lt (Nat.lt_succ_of_lt l1.1))
  have Ld7 : Led (L1 + 1, o1) src l7 [] := Led.mk0 hcs D7
  replace N7 := newsAll (n' := (L1 + 1, o1) :: (src, o2) :: (l7 ++ [])) N7 (by rw [List.append_nil]; intro q hq; simp only [List.mem_append, List.mem_cons, List.not_mem_nil, or_false] at hq ⊢; rcases hq with h | h | h <;> simp [h])
  clear D7 S1 S2 D2
  k_steps
  try unfold Halt
  with_reducible rename Fr _ _ _ _ => F8
  with_reducible rename News _ _ _ _ => N8
  have hNE : NoE := ⟨⟩
  k_dflt (refine' useAB (take_c src o2 12 _ ho2 (by decide) (by decide)) Ld7.S mSw ?zB F8 ?zX N8 ?zT ?zhk trivial ?zhd ?zhu ?_; (case zB => k_asm); (case zX => k_asm); (case zT => k_asm); (case zhk => exact rfl); (case zhd => ktr_room); (case zhu => ktr_units))
  rintro v9 n9 h9 tk9 F9 N9 D9 R9 ⟨o3, rfl, d3, t3, rfl, hd30, hd31, ho3⟩
  obtain ⟨n3, rfl⟩ := Int.eq_ofNat_of_zero_le hd30
  replace N9 := newsAll (n' := (L1 + 1, o1) :: (src, o3) :: (l7 ++ [])) N9 mSw'
  clear D9 R9
  k_steps
  try unfold Halt
  have hF10 := ‹Fr _ _ _ _›
  have hN10 := ‹News _ _ _ _›
  refine LCg.CompSrc.range rfl hF10 hN10 ‹IsRange _ _ _ _ _ _ _ _› (small_up (by omega) (by omega) (by omega) (by omega)) (n := n3) (by rw [rangeSize_up]; omega) (by rw [sizeLine_eq]; omega) ?_
  intro g2
  refine comp_J (fun i ys nw => ∃ (o' : Obj) (ns : List Int), nw = (L1 + 1, o1) :: (src, o') :: (l7 ++ []) ∧ Src o' ∧ IntsAre ys ns ∧ ns.length = i ∧ KBa.In ns) ⟨o3, [], rfl, ho3, .nil, rfl, fun _ h => nomatch h⟩ ?zct1 ?zcf1
  case zct1 =>
    rintro i v I oI C oC Dc m₂ ys nw h tk E' hi ⟨tv, rfl⟩ ⟨o', ns, rfl, ho', hI, hn, hin⟩ hC hx Fc Nc off ne
    k_steps
    try unfold Halt
    with_reducible rename Fr _ _ _ _ => Fd
    with_reducible rename News _ _ _ _ => Nd
    have lt9 := ‹LtAll _ (_ :: _ :: _ :: _ :: _ :: List.map _ _)›
    rename_i B9 _ _
    have db := Dis.lt (o := listOf #[.int 201 0, .int 202 0, .int 0 0] 0) (ltAll_mem (l := (I, oI) :: (C, oC) :: (Dc, LCg.lst ys) :: (L1 + 1, o1) :: (src, o') :: (l7 ++ [])) lt9)
    have ds := srcOff (oI := oI) (oC := oC) (oD := LCg.lst ys) off Ld7.ds
    k_dflt (refine' useAB (one_c src B9 o' 201 202 0 _ _ _ _ ho') (rest := (I, oI) :: (C, oC) :: (Dc, LCg.lst ys) :: (L1 + 1, o1) :: (l7 ++ [])) ?zDD ?zHS ?zB Fd ?zX Nd ?zT ?zhk ?zPP ?zhd ?zhu ?_; (case zB => k_asm); (case zX => k_asm); (case zT => k_asm); (case zhk => exact rfl); (case zhd => ktr_room); (case zhu => ktr_units))
    case zHS => exact mOne
    case zDD => exact ds.two (db.head.sub (fun _ h => h) mSkip)
    case zPP => exact Nat.ne_of_lt lt9.2.2.2.2.1
    rintro ve ne he tke Fe Ne De Re ⟨o'', rfl, de, te, rfl, hde, ho''⟩
    refine LCg.CompEnd.intro Fe Ne _ (mOne' (s := (src, o''))) ⟨off.1, off.2.1, off.2.2⟩ trivial ⟨o'', ns ++ [de], rfl, ho'', ints_snoc hI, by rw [List.length_append, hn]; rfl, ?_⟩
    exact fun z hz => by
      rcases List.mem_append.mp hz with hz | hz
      · exact hin z hz
      · rcases List.mem_singleton.mp hz with rfl
        rcases hde with h | h | h <;> rw [h] <;> decide
  case zcf1 =>
    rintro ys nw ⟨o', ns, rfl, ho', hI, hn, hin⟩
    intro Dl h11 tk11 F11 N11 off11
    dsimp only
    k_steps
    have hsz : (byteArr ns).size ≤ 11 := by rw [byteArr_size]; omega
    try unfold Halt
    with_reducible rename Fr _ _ _ _ => F13
    with_reducible rename News _ _ _ _ => N13
    refine meth_file hA7 (fun q hq => .tail _ (.tail _ (.tail _ (List.mem_append_left _ hq)))) F13 N13 X1 (by k_is) (by k_is) (by k_is) (by intros; rfl) ?_
    k_steps
    try unfold Halt
    with_reducible rename Fr _ _ _ _ => F14
    with_reducible rename News _ _ _ _ => N14
    k_dflt (refine' useCB (write_c A7 l7 sec #[] #[] (byteArr ns) [] 0 _ _ hA7 (by simp) (by omega) (by decide) (by simp)) Ld7.L (fun q hq => .tail _ (mL q hq)) ?zB F14 ?zX N14 ?zT ?zhk trivial ?zhd ?zhu ?_; (case zB => k_asm); (case zX => k_asm); (case zT => k_asm); (case zhk => exact rfl); (case zhd => ktr_room); (case zhu => ktr_units))
    rintro v15 n15 h15 tk15 F15 N15 D15 R15 ⟨x15, ot15, l8, rfl, rfl, _, hA8, _⟩
    have Ld8 : Led (L1 + 1, o1) src l8 [] := Ld7.disk (D15.sub (fun _ h => .tail _ h) (fun _ h => h))
    replace N15 := newsAll (n' := (L1 + 1, o1) :: (src, o') :: (l8 ++ [])) N15 (fun q hq => .tail _ (mL' q hq))
    clear D15 R15
    rw [putO_empty] at hA8
    k_steps
    try unfold Halt
    with_reducible rename Fr _ _ _ _ => F16
    with_reducible rename News _ _ _ _ => N16
    refine meth_file hA8 (fun q hq => .tail _ (.tail _ (List.mem_append_left _ hq))) F16 N16 X1 (by k_is) (by k_is) (by k_is) (by intros; rfl) ?_
    k_steps
    try unfold Halt
    with_reducible rename Fr _ _ _ _ => F17
    with_reducible rename News _ _ _ _ => N17
    refine wpC.any ?_
    k_dflt (refine' useAB (sync_c A7 l8 sec #[] (byteArr ns) _ hA8 (by omega)) Ld8.L mL ?zB F17 ?zX N17 ?zT ?zhk trivial ?zhd ?zhu ?_; (case zB => k_asm); (case zX => k_asm); (case zT => k_asm); (case zhk => exact rfl); (case zhd => ktr_room); (case zhu => ktr_units))
    rintro v18 l9 h18 tk18 F18 N18 D18 R18 ⟨x18, rfl, hA9, _⟩
    have Ld9 : Led (L1 + 1, o1) src l9 [] := Ld8.disk D18
    replace N18 := newsAll (n' := (L1 + 1, o1) :: (src, o') :: (l9 ++ [])) N18 mL'
    have eAf : DS.f { A7 with pl := x18 } = A7.f := rfl
    have eAD : DS.D { A7 with pl := x18 } = A7.D := rfl
    generalize { A7 with pl := x18 : DS } = A9 at hA9 eAf eAD
    rw [← eAf, ← eAD] at F18
    clear D18 R18
    k_steps
    try unfold Halt
    with_reducible rename Fr _ _ _ _ => F19
    with_reducible rename News _ _ _ _ => N19
    k_dflt (refine' useAB (take_c src o' 6 _ ho' (by decide) (by decide)) Ld9.S mSw ?zB F19 ?zX N19 ?zT ?zhk trivial ?zhd ?zhu ?_; (case zB => k_asm); (case zX => k_asm); (case zT => k_asm); (case zhk => exact rfl); (case zhd => ktr_room); (case zhu => ktr_units))
    rintro v20 n20 h20 tk20 F20 N20 D20 R20 ⟨o4, rfl, d4, t4, rfl, hd40, hd41, ho4⟩
    obtain ⟨n4, rfl⟩ := Int.eq_ofNat_of_zero_le hd40
    replace N20 := newsAll (n' := (L1 + 1, o1) :: (src, o4) :: (l9 ++ [])) N20 mSw'
    clear D20 R20
    k_steps
    try unfold Halt
    have hF21 := ‹Fr _ _ _ _›
    have hN21 := ‹News _ _ _ _›
    refine LCg.CompSrc.range rfl hF21 hN21 ‹IsRange _ _ _ _ _ _ _ _› (small_up (by omega) (by omega) (by omega) (by omega)) (n := 1 + n4) (by rw [rangeSize_up]; omega) (by rw [sizeLine_eq]; omega) ?_
    intro g3
    refine comp_J (fun i ys nw => ∃ (o' : Obj) (R : List (Addr × Obj)) (chs : List Ch), nw = (L1 + 1, o1) :: (src, o') :: (l9 ++ R) ∧ Src o' ∧ Led (L1 + 1, o1) src l9 R ∧ ChsG noH R (Str.ofString "cut") ys chs ∧ chs.length = i) ⟨o4, [], [], rfl, ho4, Ld9, ⟨rfl, fun _ _ _ h => nomatch h⟩, rfl⟩ ?zct2 ?zcf2
    case zct2 =>
      rintro i v I oI C oC Dc m₂ ys2 nw h tk E' hi ⟨tv, rfl⟩ ⟨o', R, chs, rfl, ho', Ld, hCh, hlen⟩ hC hx Fc Nc off ne
      k_steps
      try unfold Halt
      with_reducible rename Fr _ _ _ _ => Fd
      with_reducible rename News _ _ _ _ => Nd
      k_dflt (refine' useAB (change_c src o' ho') (rest := (I, oI) :: (C, oC) :: (Dc, LCg.lst ys2) :: (L1 + 1, o1) :: (l9 ++ R)) (srcOff off Ld.ds) mTk ?zB Fd ?zX Nd ?zT ?zhk trivial ?zhd ?zhu ?_; (case zB => k_asm); (case zX => k_asm); (case zT => k_asm); (case zhk => exact rfl); (case zhd => ktr_room); (case zhu => ktr_units))
      rintro ve ne he tke Fe Ne De Re ⟨x, o'', ot, c, ho'', hok, htu, rfl, rfl, hxs⟩
      have dx : Dis [(x, ot)] ((I, oI) :: (C, oC) :: (Dc, LCg.lst ys2) :: (L1 + 1, o1) :: (l9 ++ R)) := De.sub (fun q hq => by rcases List.mem_singleton.mp hq with rfl; exact .head _) fun _ h => h
      refine LCg.CompEnd.intro Fe Ne ((L1 + 1, o1) :: (src, o'') :: (l9 ++ ((x, ot) :: R))) mCg ?zoffc trivial ⟨o'', (x, ot) :: R, chs ++ [c], rfl, ho'', ?zledc, hCh.snoc (fun q h => .tail _ h) (.inr (.head _)) htu hok, by rw [List.length_append, hlen]; rfl⟩
      case zledc => exact Ld.read (N' := [(x, ot)]) (o := o'') (fun p hp q hq => by
        rcases List.mem_singleton.mp hp with rfl
        rcases List.mem_cons.mp hq with rfl | hq
        · exact dx _ (.head _) _ (.tail _ (.tail _ (.tail _ (.head _))))
        · rcases List.mem_cons.mp hq with rfl | hq
          · exact hxs
          · exact dx _ (.head _) _ (.tail _ (.tail _ (.tail _ (.tail _ hq)))))
      case zoffc =>
        have om := off.mem
        refine off3_of fun q hq => ?_
        rcases List.mem_cons.mp hq with rfl | hq
        · exact off.1
        · rcases List.mem_cons.mp hq with rfl | hq
          · exact off.2.1
          · rcases List.mem_append.mp hq with hq | hq
            · exact om q (.tail _ (.tail _ (List.mem_append_left _ hq)))
            · rcases List.mem_cons.mp hq with rfl | hq
              · exact ⟨dx _ (.head _) _ (.head _), dx _ (.head _) _ (.tail _ (.head _)), dx _ (.head _) _ (.tail _ (.tail _ (.head _)))⟩
              · exact om q (.tail _ (.tail _ (List.mem_append_right _ hq)))
    case zcf2 =>
      rintro itc nw ⟨o5, R0, chs, rfl, ho5, Ld10, hCh, hlen⟩
      intro lc h22 tk22 F22 N22 off22
      have hcl : chs.length ≤ 6 := by omega
      have Ld11 : Led (L1 + 1, o1) src l9 ([(lc, LCg.lst itc)] ++ R0) := Ld10.read (o := o5) (off1_of off22)
      replace N22 := newsAll (n' := (L1 + 1, o1) :: (src, o5) :: (l9 ++ ([(lc, LCg.lst itc)] ++ R0))) N22 (fun q hq => by
        simp only [List.mem_cons, List.mem_append, List.not_mem_nil, or_false] at hq ⊢
        rcases hq with h | h | h | h | h <;> simp [h])
      have hCh1 := hCh.grow (tups' := [(lc, LCg.lst itc)] ++ R0) (fun q h => .tail _ h)
      dsimp only
      k_steps
      try unfold Halt
      refine wpC_For ?_
      k_steps
      have hF23 := ‹Fr _ _ _ _›
      have hN23 := ‹News _ _ _ _›
      refine forCV [Str.ofString "word", Str.ofString "at", Str.ofString "octets"] (fun it i n => ∃ (l' R' : List (Addr × Obj)) (itp : List Value), n = (L1 + 1, o1) :: (src, o5) :: (l' ++ R') ∧ DiskIs w A9 sec (byteArr ns) (applyAll (byteArr ns) (chs.take i)) itp l' ∧ (applyAll (byteArr ns) (chs.take i)).size ≤ 25 ∧ itp.length = i ∧ Led (L1 + 1, o1) src l' R' ∧ (∀ q ∈ [(lc, LCg.lst itc)] ++ R0, q ∈ R') ∧ ChsG noH R' (Str.ofString "truncate") itp (chs.take i) ∧ ∀ q ∈ n, q.1 ≠ it) rfl hF23 hN23 (News.isList hN23 (.tail _ (.tail _ (List.mem_append_right _ (.head _))))) ?zhl ?zhne ?zhgo ?zh0 ?zturn ?zdone
      case zhl =>
        rintro it i m n h ⟨l', R', itp, rfl, _, _, _, _, hsub, _⟩ _ Nh
        exact News.isList Nh (.tail _ (.tail _ (List.mem_append_right _ (hsub _ (.head _)))))
      case zhne => exact fun it i n ⟨_, _, _, _, _, _, _, _, _, _, h⟩ => h
      case zhgo =>
        intro it i v s Q hv hit hq
        obtain ⟨j, hj⟩ := List.getElem?_of_mem hv
        have hlt : j < chs.length := by
          rw [← hCh1.1]
          rcases Nat.lt_or_ge j itc.length with h | h
          · exact h
          · rw [List.getElem?_eq_none_iff.mpr h] at hj; cases hj
        obtain ⟨t, ot, rfl, _⟩ := hCh1.at hj (List.getElem?_eq_getElem hlt)
        exact wpAny_letOwnedTupleGo_listiter hit hq
      case zh0 => exact fun it hit => ⟨l9, [(lc, LCg.lst itc)] ++ R0, [], rfl, hA9, (by show (byteArr ns).size ≤ 25; omega), rfl, Ld11, fun _ h => h, ⟨rfl, fun _ _ _ h => nomatch h⟩, fun q hq => Nat.ne_of_lt (hit q hq)⟩
      case zturn =>
        rintro it i v u n₁ h tk io hit hv ⟨l', R', itp, rfl, hA', hsz', hlp, Ld', hsub, hpc, hni⟩ Fh Nh
        obtain ⟨t, cut, pl', os, ta, tb, tc, rfl, hci, hot, hok⟩ := hCh1.pickv hv
        have hi : i < chs.length := (List.getElem?_eq_some_iff.mp hci).1
        have hap := applyAll_take (sy := byteArr ns) hci
        have hs1 := apply1_size hsz' hok
        have hp1 := hok.pl
        have hp2 := hok.most
        dsimp only at hp1 hp2
        have Nt := newsAll (n' := (t, ({ cls := .type "tuple", data := .seq [.str (if cut then Str.ofString "cut" else Str.ofString "write") ta, .int (pl' : Nat) tb, .bytes os tc].toArray } : Obj)) :: (it, io) :: (L1 + 1, o1) :: (src, o5) :: (l' ++ R')) Nh (fun q hq => by
          rcases List.mem_cons.mp hq with rfl | hq
          · exact .tail _ (.tail _ (.tail _ (List.mem_append_right _ (hsub _ hot))))
          · exact hq)
        clear Nh
        cases cut
        · simp only [Bool.false_eq_true, if_false] at Nt hot
          k_steps
          try unfold Halt
          with_reducible rename Fr _ _ _ _ => Fm
          with_reducible rename News _ _ _ _ => Nm
          refine meth_file hA' (fun q hq => .tail _ (.tail _ (.tail _ (.tail _ (List.mem_append_left _ hq))))) Fm Nm X1 (by k_is) (by k_is) (by k_is) (by intros; rfl) ?_
          k_steps
          try unfold Halt
          with_reducible rename Fr _ _ _ _ => Fp
          with_reducible rename News _ _ _ _ => Np
          k_dflt (refine' useCB (write_c A9 l' sec (byteArr ns) (applyAll (byteArr ns) (chs.take i)) os itp pl' _ _ hA' (by omega) (by omega) (by omega) (by omega)) (Ld'.it (io := io) hni) mTn ?zB Fp ?zX Np ?zT ?zhk trivial ?zhd ?zhu ?_; (case zB => k_asm); (case zX => k_asm); (case zT => k_asm); (case zhk => exact rfl); (case zhd => ktr_room); (case zhu => ktr_units))
          rintro vp np hp9 tkp Fq Nq Dq Rq ⟨xp, otp, lp, rfl, rfl, htp, hAp, hxp⟩
          k_steps
          refine TurnC.nxV (n' := (L1 + 1, o1) :: (src, o5) :: (lp ++ ((xp, otp) :: R'))) Fq (newsAll Nq mTe) ?zoff ⟨lp, (xp, otp) :: R', itp ++ [.ref xp], rfl, by rw [hap]; exact hAp, by rw [hap]; exact hs1, by rw [List.length_append, hlp]; rfl, Ld'.turn Dq (fun q hq e => hxp (e ▸ hAp.addrs q hq)), (fun q hq => .tail _ (hsub q hq)), ?zchg, nexIt Dq hni⟩
          case zoff => repeat' (first | exact OffV.over | refine' OffV.step ?_ ?_ | exact List.Mem.head _ | refine' List.Mem.tail _ ?_)
          case zchg => rw [List.take_add_one, hci]; exact hpc.snoc (fun q h => .tail _ h) (.inr (.head _)) htp hok
        · have hos : os = #[] := hok.no rfl
          subst hos
          simp only [if_true] at Nt hot
          k_steps
          try unfold Halt
          with_reducible rename Fr _ _ _ _ => Fm
          with_reducible rename News _ _ _ _ => Nm
          refine meth_file hA' (fun q hq => .tail _ (.tail _ (.tail _ (.tail _ (List.mem_append_left _ hq))))) Fm Nm X1 (by k_is) (by k_is) (by k_is) (by intros; rfl) ?_
          k_steps
          try unfold Halt
          with_reducible rename Fr _ _ _ _ => Fp
          with_reducible rename News _ _ _ _ => Np
          k_dflt (refine' useCB (trunc_c A9 l' sec (byteArr ns) (applyAll (byteArr ns) (chs.take i)) itp pl' _ hA' (by omega) (by omega) (by omega)) (Ld'.it (io := io) hni) mTn ?zB Fp ?zX Np ?zT ?zhk trivial ?zhd ?zhu ?_; (case zB => k_asm); (case zX => k_asm); (case zT => k_asm); (case zhk => exact rfl); (case zhd => ktr_room); (case zhu => ktr_units))
          rintro vp np hp9 tkp Fq Nq Dq Rq ⟨xp, otp, lp, rfl, rfl, htp, hAp, hxp⟩
          k_steps
          refine TurnC.nxV (n' := (L1 + 1, o1) :: (src, o5) :: (lp ++ ((xp, otp) :: R'))) Fq (newsAll Nq mTe) ?zoff ⟨lp, (xp, otp) :: R', itp ++ [.ref xp], rfl, by rw [hap]; exact hAp, by rw [hap]; exact hs1, by rw [List.length_append, hlp]; rfl, Ld'.turn Dq (fun q hq e => hxp (e ▸ hAp.addrs q hq)), (fun q hq => .tail _ (hsub q hq)), ?zchg, nexIt Dq hni⟩
          case zoff => repeat' (first | exact OffV.over | refine' OffV.step ?_ ?_ | exact List.Mem.head _ | refine' List.Mem.tail _ ?_)
          case zchg => rw [List.take_add_one, hci]; exact hpc.snoc (fun q h => .tail _ h) (.inr (.head _)) htp hok
      case zdone =>
        rintro it u n₁ h23 tk23 hit ⟨l10, R1, itp, rfl, hA10, hsz10, hlp, Ld12, hsub, hpc, _⟩ Fh Nh
        rw [hCh1.1, List.take_length] at hA10 hsz10 hpc
        have hCh2 := hCh1.grow hsub
        have lcR : (lc, LCg.lst itc) ∈ R1 := hsub _ (.head _)
        clear hCh1 hsub
        dsimp only
        k_steps
        try unfold Halt
        with_reducible rename Fr _ _ _ _ => F24
        with_reducible rename News _ _ _ _ => N24
        k_dflt (refine' useAB (take_c src o5 8 _ ho5 (by decide) (by decide)) Ld12.S mSw ?zB F24 ?zX N24 ?zT ?zhk trivial ?zhd ?zhu ?_; (case zB => k_asm); (case zX => k_asm); (case zT => k_asm); (case zhk => exact rfl); (case zhd => ktr_room); (case zhu => ktr_units))
        rintro v25 n25 h25 tk25 F25 N25 D25 R25 ⟨o6, rfl, d5, t5, rfl, hd50, hd51, ho6⟩
        obtain ⟨n5, rfl⟩ := Int.eq_ofNat_of_zero_le hd50
        replace N25 := newsAll (n' := (L1 + 1, o1) :: (src, o6) :: (l10 ++ R1)) N25 mSw'
        clear D25 R25
        k_steps
        try unfold Halt
        have hF26 := ‹Fr _ _ _ _›
        have hN26 := ‹News _ _ _ _›
        refine LCg.CompSrc.range rfl hF26 hN26 ‹IsRange _ _ _ _ _ _ _ _› (small_up (by omega) (by omega) (by omega) (by omega)) (n := n5) (by rw [rangeSize_up]; omega) (by rw [sizeLine_eq]; omega) ?_
        intro g4
        refine comp_J (fun i ys nw => ∃ (o' : Obj) (nms : List Int), nw = (L1 + 1, o1) :: (src, o') :: (l10 ++ R1) ∧ Src o' ∧ IntsAre ys nms ∧ nms.length = i ∧ ∀ z ∈ nms, 0 ≤ z ∧ z < 40) ⟨o6, [], rfl, ho6, .nil, rfl, fun _ h => nomatch h⟩ ?zct3 ?zcf3
        case zct3 =>
          rintro i v I oI C oC Dc m₂ ys2 nw h tk E' hi ⟨tv, rfl⟩ ⟨o', nms, rfl, ho', hI3, hn3, hz3⟩ hC hx Fc Nc off ne
          k_steps
          try unfold Halt
          with_reducible rename Fr _ _ _ _ => Fd
          with_reducible rename News _ _ _ _ => Nd
          k_dflt (refine' useAB (take_c src o' 40 _ ho' (by decide) (by decide)) (rest := (I, oI) :: (C, oC) :: (Dc, LCg.lst ys2) :: (L1 + 1, o1) :: (l10 ++ R1)) (srcOff off Ld12.ds) mTk ?zB Fd ?zX Nd ?zT ?zhk trivial ?zhd ?zhu ?_; (case zB => k_asm); (case zX => k_asm); (case zT => k_asm); (case zhk => exact rfl); (case zhd => ktr_room); (case zhu => ktr_units))
          rintro ve ne he tke Fe Ne De Re ⟨o'', rfl, de, te, rfl, hde0, hde1, ho''⟩
          refine LCg.CompEnd.intro Fe Ne ((L1 + 1, o1) :: (src, o'') :: (l10 ++ R1)) mTk' ⟨off.1, off.2.1, off.2.2⟩ trivial ⟨o'', nms ++ [de], rfl, ho'', ints_snoc hI3, by rw [List.length_append, hn3]; rfl, ?_⟩
          exact fun z hz => by
            rcases List.mem_append.mp hz with hz | hz
            · exact hz3 z hz
            · rcases List.mem_singleton.mp hz with rfl
              exact ⟨hde0, hde1⟩
        case zcf3 =>
          rintro ysn nw ⟨o7, nms, rfl, _, hI3, hn3, hz3⟩
          intro nl h27 tk27 F27 N27 off27
          have dn : Dis [(nl, LCg.lst ysn)] (l10 ++ R1) := (off1_of off27).sub (fun _ h => h) fun q h => .tail _ (.tail _ h)
          have dl : Dis l10 R1 := Ld12.dl.sub (fun _ h => h) fun q h => .tail _ h
          replace N27 := newsAll (n' := l10 ++ ((nl, LCg.lst ysn) :: R1)) N27 (fun q hq => by
            simp only [List.mem_cons, List.mem_append] at hq ⊢
            rcases hq with h | h | h <;> simp [h])
          have hvn : ysn.length = nms.length := hI3.length
          clear off27
          dsimp only
          k_steps
          try unfold Halt
          with_reducible rename Fr _ _ _ _ => F28
          with_reducible rename News _ _ _ _ => N28
          refine wpC.any ?_
          k_dflt (refine' useAB (left_c lc nl itc ysn chs nms sec _ (by omega) hI3 (by omega) hz3 hsec1) Dis.nil (fun q hq => hq) ?zB F28 ?zX N28 ?zT ?zhk ⟨⟨News.isList N28 (List.mem_append_right _ (.tail _ lcR)), hCh2.any.here F28 N28 (fun q hq => List.mem_append_right _ (.tail _ hq)) (fun a ha => nomatch ha)⟩, News.isList N28 (List.mem_append_right _ (.head _))⟩ ?zhd ?zhu ?_; (case zB => k_asm); (case zX => k_asm); (case zT => k_asm); (case zhk => exact rfl); (case zhd => ktr_room); (case zhu => ktr_units))
          rintro v29 n29 h29 tk29 F29 N29 D29 R29 ⟨xl, kl, itl, tl, rfl, rfl, hChL, hinL⟩
          have hLf := hChL.toG (R := ((xl, listOf itl.toArray kl) :: tl) ++ R1) N29 (fun q hq => by
            rcases List.mem_append.mp hq with h | h
            · exact List.mem_append_left _ h
            · exact List.mem_append_right _ (List.mem_append_right _ (.tail _ h))) (fun v hv => by
            rcases hinL v hv with h | ⟨t, ot, e, m⟩
            · obtain ⟨t, ot, e, m⟩ := hCh2.val v h
              exact ⟨t, ot, e, List.mem_append_right _ m⟩
            · exact ⟨t, ot, e, List.mem_append_left _ (.tail _ m)⟩)
          have hlfn := leftFrom_len sec nms 0 chs
          have hlfk := leftFrom_ok sec nms 0 chs hCh2.ok
          have xlR : (xl, listOf itl.toArray kl) ∈ ((xl, listOf itl.toArray kl) :: tl) ++ R1 := .head _
          have dl2 : Dis l10 (((xl, listOf itl.toArray kl) :: tl) ++ R1) := Dis.app (D29.l.symm) dl
          have dn2 : Dis [(nl, LCg.lst ysn)] (l10 ++ (((xl, listOf itl.toArray kl) :: tl) ++ R1)) := Dis.app dn.l (Dis.app (D29.symm.sub (fun q hq => by rcases List.mem_singleton.mp hq with rfl; exact List.mem_append_right _ (.head _)) fun _ h => h) dn.r)
          have hCh3 := hCh2.grow (tups' := ((xl, listOf itl.toArray kl) :: tl) ++ R1) (fun q h => List.mem_append_right _ h)
          have hpc3 := hpc.grow (tups' := ((xl, listOf itl.toArray kl) :: tl) ++ R1) (fun q h => List.mem_append_right _ h)
          replace lcR : (lc, LCg.lst itc) ∈ ((xl, listOf itl.toArray kl) :: tl) ++ R1 := List.mem_append_right _ lcR
          replace N29 := newsAll (n' := l10 ++ ((nl, LCg.lst ysn) :: (((xl, listOf itl.toArray kl) :: tl) ++ R1))) N29 (fun q hq => by
            simp only [List.mem_cons, List.mem_append, List.cons_append] at hq ⊢
            rcases hq with h | h | h | h | h <;> simp [h])
          generalize ((xl, listOf itl.toArray kl) :: tl) ++ R1 = R2 at hLf xlR dl2 dn2 hCh3 hpc3 lcR N29
          clear D29 R29 hChL hinL dl dn hCh2 hpc
          k_steps
          try unfold Halt
          with_reducible rename Fr _ _ _ _ => F30
          with_reducible rename News _ _ _ _ => N30
          refine wpC.any ?_
          k_dflt (refine' useAB (due_c xl itl (leftFrom sec nms 0 chs) (byteArr ns) _ (by omega) (by omega)) Dis.nil (fun q hq => hq) ?zB F30 ?zX N30 ?zT ?zhk ⟨News.isList N30 (List.mem_append_right _ (.tail _ xlR)), hLf.any.here F30 N30 (fun q hq => List.mem_append_right _ (.tail _ hq)) (fun a ha => nomatch ha)⟩ ?zhd ?zhu ?_; (case zB => k_asm); (case zX => k_asm); (case zT => k_asm); (case zhk => exact rfl); (case zhd => ktr_room); (case zhu => ktr_units))
          rintro v31 n31 h31 tk31 F31 N31 D31 R31 ⟨rfl, t31, rfl⟩
          replace N31 := newsAll (n' := l10 ++ ((nl, LCg.lst ysn) :: R2)) N31 (fun q h => h)
          clear D31 R31
          k_steps
          try unfold Halt
          with_reducible rename Fr _ _ _ _ => F32
          with_reducible rename News _ _ _ _ => N32
          refine meth_disk hA10 (fun q hq => List.mem_append_left _ hq) F32 N32 X1 (by k_is) (by k_is) (by k_is) (by intros; rfl) ?_
          k_steps
          try unfold Halt
          with_reducible rename Fr _ _ _ _ => F33
          with_reducible rename News _ _ _ _ => N33
          have hnlA : nl ∉ A9.all := fun h => by
            obtain ⟨o, ho⟩ := hA10.has nl h
            exact dn2 _ (.head _) _ (List.mem_append_left _ ho) rfl
          have dsv : Dis ((nl, LCg.lst ysn) :: l10) R2 := fun p hp q hq => by
            rcases List.mem_cons.mp hp with rfl | hp
            · exact dn2.r _ (.head _) q hq
            · exact dl2 p hp q hq
          k_dflt (refine' useCB (survivor_c A9 l10 sec (byteArr ns) (applyAll (byteArr ns) chs) itp chs nl _ ysn nms hA10 hI3 (by omega) hz3 (by omega) (by omega) hsec1 hnlA) dsv (fun q hq => by simp only [List.cons_append, List.mem_cons, List.mem_append] at hq ⊢; rcases hq with h | h | h <;> simp [h]) ?zB F33 ?zX N33 ?zT ?zhk (hpc3.any.here F33 N33 (fun q hq => List.mem_append_right _ (.tail _ hq)) ?zhnot) ?zhd ?zhu ?_; (case zB => k_asm); (case zX => k_asm); (case zT => k_asm); (case zhk => exact rfl); (case zhd => ktr_room); (case zhu => ktr_units))
          case zhnot =>
            intro a ha
            rcases List.mem_cons.mp ha with rfl | ha
            · exact ⟨⟨_, List.mem_append_right _ (.head _)⟩, fun q hq e => dn2.r _ (.head _) q hq e.symm⟩
            · exact ⟨(hA10.has a ha).imp fun o h => List.mem_append_left _ h, hA10.not dl2 a ha⟩
          rintro v34 n34 h34 tk34 F34 N34 D34 R34 ⟨A2, l2, rfl, rfl, hA2, hX25, hoff⟩
          have d2a : Dis l2 ((nl, LCg.lst ysn) :: l10) := dis_off hA2.addrs (fun q hq => by
            rcases List.mem_cons.mp hq with rfl | hq
            · exact .head _
            · exact .tail _ (hA10.addrs q hq)) hoff
          have dl3 : Dis l10 ((nl, LCg.lst ysn) :: R2) := fun p hp q hq => by
            rcases List.mem_cons.mp hq with rfl | hq
            · exact fun e => dn2.l _ (.head _) p hp e.symm
            · exact dl2 p hp q hq
          have d23 : Dis l2 (l10 ++ ((nl, LCg.lst ysn) :: R2)) := fun p hp q hq => by
            rcases List.mem_append.mp hq with hq | hq
            · exact d2a p hp q (.tail _ hq)
            · rcases List.mem_cons.mp hq with rfl | hq
              · exact d2a p hp _ (.head _)
              · exact D34 p (List.mem_append_left _ hp) q hq
          replace N34 := newsAll (n' := l2 ++ (l10 ++ ((nl, LCg.lst ysn) :: R2))) N34 (fun q hq => by
            simp only [List.mem_cons, List.mem_append] at hq ⊢
            rcases hq with h | h | h | h <;> simp [h])
          have hLf3 := hLf.grow (tups' := (nl, LCg.lst ysn) :: R2) (fun q h => .tail _ h)
          have hCh4 := hCh3.grow (tups' := (nl, LCg.lst ysn) :: R2) (fun q h => .tail _ h)
          have hpc4 := hpc3.grow (tups' := (nl, LCg.lst ysn) :: R2) (fun q h => .tail _ h)
          have xlR3 : (xl, listOf itl.toArray kl) ∈ (nl, LCg.lst ysn) :: R2 := .tail _ xlR
          have lcR3 : (lc, LCg.lst itc) ∈ (nl, LCg.lst ysn) :: R2 := .tail _ lcR
          have hX := applyAll_due (byteArr ns) (leftFrom sec nms 0 chs) hlfk
          have hNw := applyAll_due (byteArr ns) chs hCh3.ok
          rw [hX] at hA2 hX25
          generalize hdu : dueO (byteArr ns) (leftFrom sec nms 0 chs) = due at hA2 hX25 hX F34 ⊢
          have hdn : (due.toList != due.toList) = false := by simp
          generalize (nl, LCg.lst ysn) :: R2 = R3 at N34 dl3 d23 hLf3 hCh4 hpc4 xlR3 lcR3
          clear D34 R34 d2a dsv hnlA dn2 dl2 hLf hCh3 hpc3 xlR lcR hoff
          k_steps
          try unfold Halt
          with_reducible rename Fr _ _ _ _ => F35
          with_reducible rename News _ _ _ _ => N35
          replace N35 := newsAll N35 (fun q hq => .tail _ hq)
          refine wpC.any ?_
          k_dflt (refine' useAB (whole_c A2 l2 sec _ _ [] hA2 (by omega)) d23 (fun q hq => hq) ?zB F35 ?zX N35 ?zT ?zhk trivial ?zhd ?zhu ?_; (case zB => k_asm); (case zX => k_asm); (case zT => k_asm); (case zhk => exact rfl); (case zhd => ktr_room); (case zhu => ktr_units))
          rintro v36 n36 h36 tk36 F36 N36 D36 R36 ⟨e36, t36, rfl⟩
          rw [e36] at N36
          clear D36 R36 e36 N35 F35
          k_steps
          try unfold Halt
          with_reducible rename Fr _ _ _ _ => Fc37
          with_reducible rename News _ _ _ _ => Nc37
          k_dflt (refine' useCB (done_c xl itl (leftFrom sec nms 0 chs) (byteArr ns) _ (by omega) (by omega)) Dis.nil (fun q hq => hq) ?zB Fc37 ?zX Nc37 ?zT ?zhk ⟨News.isList Nc37 (List.mem_append_right _ (List.mem_append_right _ xlR3)), hLf3.any.here Fc37 Nc37 (fun q hq => List.mem_append_right _ (List.mem_append_right _ hq)) (fun a ha => nomatch ha)⟩ ?zhd ?zhu ?_; (case zB => k_asm); (case zX => k_asm); (case zT => k_asm); (case zhk => exact rfl); (case zhd => ktr_room); (case zhu => ktr_units))
          rintro v38 n38 h38 tk38 F38 N38 D38 R38 ⟨rfl, t38, rfl⟩
          rw [hX]
          replace N38 := newsAll (n' := l2 ++ (l10 ++ R3)) N38 (fun q h => h)
          clear D38 R38
          k_steps
          try unfold Halt
          with_reducible rename Fr _ _ _ _ => Fm39
          with_reducible rename News _ _ _ _ => Nm39
          refine meth_disk hA2 (fun q hq => List.mem_append_left _ hq) Fm39 Nm39 X1 (by k_is) (by k_is) (by k_is) (by intros; rfl) ?_
          k_steps
          try unfold Halt
          with_reducible rename Fr _ _ _ _ => Fc40
          with_reducible rename News _ _ _ _ => Nc40
          refine wpC.any ?_
          k_dflt (refine' useAB (openA_c A2 l2 sec _ _ _ _ hA2) d23 (fun q hq => hq) ?zB Fc40 ?zX Nc40 ?zT ?zhk trivial ?zhd ?zhu ?_; (case zB => k_asm); (case zX => k_asm); (case zT => k_asm); (case zhk => exact rfl); (case zhd => ktr_room); (case zhu => ktr_units))
          rintro v41 n41 h41 tk41 F41 N41 D41 R41 ⟨e41, rfl⟩
          rw [e41] at N41
          clear D41 R41 e41 Nc40 Fc40
          k_steps
          try unfold Halt
          with_reducible rename Fr _ _ _ _ => Fm42
          with_reducible rename News _ _ _ _ => Nm42
          refine meth_file hA2 (fun q hq => List.mem_append_left _ hq) Fm42 Nm42 X1 (by k_is) (by k_is) (by k_is) (by intros; rfl) ?_
          k_steps
          try unfold Halt
          with_reducible rename Fr _ _ _ _ => Fc43
          with_reducible rename News _ _ _ _ => Nc43
          refine wpC.any ?_
          k_dflt (refine' useAB (size_c A2 l2 sec _ _ _ hA2 (by omega)) d23 (fun q hq => hq) ?zB Fc43 ?zX Nc43 ?zT ?zhk trivial ?zhd ?zhu ?_; (case zB => k_asm); (case zX => k_asm); (case zT => k_asm); (case zhk => exact rfl); (case zhd => ktr_room); (case zhu => ktr_units))
          rintro v44 n44 h44 tk44 F44 N44 D44 R44 ⟨e44, t44, rfl⟩
          rw [e44] at N44
          clear D44 R44 e44 Nc43 Fc43
          k_steps
          · exact absurd rfl (by assumption)
          have hfn : ((applyAll (byteArr ns) chs).toList != (applyAll (byteArr ns) chs).toList) = false := by simp
          try unfold Halt
          with_reducible rename Fr _ _ _ _ => Fc45
          with_reducible rename News _ _ _ _ => Nc45
          refine wpC.any ?_
          k_dflt (refine' useAB (whole_c A9 l10 sec _ _ _ hA10 (by omega)) (Dis.app d23.l.symm dl3) mB ?zB Fc45 ?zX Nc45 ?zT ?zhk trivial ?zhd ?zhu ?_; (case zB => k_asm); (case zX => k_asm); (case zT => k_asm); (case zhk => exact rfl); (case zhd => ktr_room); (case zhu => ktr_units))
          rintro v46 n46 h46 tk46 F46 N46 D46 R46 ⟨e46, t46, rfl⟩
          rw [e46] at N46
          clear D46 R46 e46 Nc45 Fc45
          replace N46 := newsAll N46 mB
          k_steps
          try unfold Halt
          with_reducible rename Fr _ _ _ _ => Fc47
          with_reducible rename News _ _ _ _ => Nc47
          refine wpC.any ?_
          k_dflt (refine' useAB (due_c lc itc chs (byteArr ns) _ (by omega) (by omega)) Dis.nil (fun q hq => hq) ?zB Fc47 ?zX Nc47 ?zT ?zhk ⟨News.isList Nc47 (List.mem_append_right _ (List.mem_append_right _ lcR3)), hCh4.any.here Fc47 Nc47 (fun q hq => List.mem_append_right _ (List.mem_append_right _ hq)) (fun a ha => nomatch ha)⟩ ?zhd ?zhu ?_; (case zB => k_asm); (case zX => k_asm); (case zT => k_asm); (case zhk => exact rfl); (case zhd => ktr_room); (case zhu => ktr_units))
          rintro v48 n48 h48 tk48 F48 N48 D48 R48 ⟨rfl, t48, rfl⟩
          replace N48 := newsAll (n' := l2 ++ (l10 ++ R3)) N48 (fun q h => h)
          rw [← hNw]
          clear D48 R48 Nc47 Fc47
          k_steps
          try unfold Halt
          with_reducible rename Fr _ _ _ _ => Fm49
          with_reducible rename News _ _ _ _ => Nm49
          refine meth_disk hA10 (fun q hq => List.mem_append_right _ (List.mem_append_left _ hq)) Fm49 Nm49 X1 (by k_is) (by k_is) (by k_is) (by intros; rfl) ?_
          k_steps
          try unfold Halt
          rename_i q1 hq1 Fq1 Nq1 lq1
          have dq1 : ∀ q ∈ l2 ++ (l10 ++ R3), q.1 ≠ q1 := fun q hq => Nat.ne_of_lt (ltAll_mem lq1 q hq)
          have dqc : ∀ ol : Obj, Dis ((q1, ol) :: l10) (l2 ++ R3) := fun ol p hp q hq => by
            rcases List.mem_cons.mp hp with rfl | hp
            · exact (dq1 q (by
                rcases List.mem_append.mp hq with h | h
                · exact List.mem_append_left _ h
                · exact List.mem_append_right _ (List.mem_append_right _ h))).symm
            · exact Dis.app d23.l.symm dl3 p hp q hq
          k_dflt (refine' useCB (survivor_c A9 l10 sec (byteArr ns) (applyAll (byteArr ns) chs) itp chs q1 _ [_] [1] hA10 (.cons 1 _ .nil) (by decide) (by decide) (by omega) (by omega) hsec1 (notAll hA10 fun q hq => dq1 q (List.mem_append_right _ (List.mem_append_left _ hq)))) (dqc _) mB1 ?zB Fq1 ?zX Nq1 ?zT ?zhk (hpc4.any.here Fq1 Nq1 (fun q hq => .tail _ (List.mem_append_right _ (List.mem_append_right _ hq))) (hnot_of hA10 (fun q hq => .tail _ (List.mem_append_right _ (List.mem_append_left _ hq))) (.head _) dl3 (fun q hq => dq1 q (List.mem_append_right _ (List.mem_append_right _ hq))))) ?zhd ?zhu ?_; (case zB => k_asm); (case zX => k_asm); (case zT => k_asm); (case zhk => exact rfl); (case zhd => ktr_room); (case zhu => ktr_units))
          rintro v50 n50 h50 tk50 F50 N50 D50 R50 ⟨A3, l3, rfl, e50, hA3, hX3, off3⟩
          rw [e50] at N50 D50
          rw [leftFrom_one] at hA3 hX3
          have dv3 := svDis hA10 hA3 off3 D50
          clear R50 D50 e50
          k_steps
          try unfold Halt
          with_reducible rename Fr _ _ _ _ => Fc51
          with_reducible rename News _ _ _ _ => Nc51
          refine wpC.any ?_
          k_dflt (refine' useAB (whole_c A3 l3 sec _ _ _ hA3 (by omega)) dv3 mSv ?zB Fc51 ?zX Nc51 ?zT ?zhk trivial ?zhd ?zhu ?_; (case zB => k_asm); (case zX => k_asm); (case zT => k_asm); (case zhk => exact rfl); (case zhd => ktr_room); (case zhu => ktr_units))
          rintro v52 n52 h52 tk52 F52 N52 D52 R52 ⟨e52, t52, rfl⟩
          rw [e52] at N52
          clear D52 R52 e52 Nc51 Fc51 dv3 hA3
          replace N52 := newsAll N52 mSw2
          k_steps
          try unfold Halt
          with_reducible rename Fr _ _ _ _ => Fc53
          with_reducible rename News _ _ _ _ => Nc53
          refine wpC.any ?_
          k_dflt (refine' useAB (whole_c A9 l10 sec _ _ _ hA10 (by omega)) (Dis.app d23.l.symm dl3) mB ?zB Fc53 ?zX Nc53 ?zT ?zhk trivial ?zhd ?zhu ?_; (case zB => k_asm); (case zX => k_asm); (case zT => k_asm); (case zhk => exact rfl); (case zhd => ktr_room); (case zhu => ktr_units))
          rintro v54 n54 h54 tk54 F54 N54 D54 R54 ⟨e54, t54, rfl⟩
          rw [e54] at N54
          clear D54 R54 e54 Nc53 Fc53
          replace N54 := newsAll N54 mB
          k_steps
          try unfold Halt
          with_reducible rename Fr _ _ _ _ => Fm55
          with_reducible rename News _ _ _ _ => Nm55
          refine meth_disk hA2 (fun q hq => List.mem_append_left _ hq) Fm55 Nm55 X1 (by k_is) (by k_is) (by k_is) (by intros; rfl) ?_
          k_steps
          try unfold Halt
          with_reducible rename Fr _ _ _ _ => Fc56
          with_reducible rename News _ _ _ _ => Nc56
          refine wpC.any ?_
          k_dflt (refine' useAB (openA_c A2 l2 sec _ _ _ _ hA2) d23 (fun q hq => hq) ?zB Fc56 ?zX Nc56 ?zT ?zhk trivial ?zhd ?zhu ?_; (case zB => k_asm); (case zX => k_asm); (case zT => k_asm); (case zhk => exact rfl); (case zhd => ktr_room); (case zhu => ktr_units))
          rintro v57 n57 h57 tk57 F57 N57 D57 R57 ⟨e57, rfl⟩
          rw [e57] at N57
          clear D57 R57 e57 Nc56 Fc56
          k_steps
          try unfold Halt
          with_reducible rename Fr _ _ _ _ => Fm58
          with_reducible rename News _ _ _ _ => Nm58
          refine meth_file hA2 (fun q hq => List.mem_append_left _ hq) Fm58 Nm58 X1 (by k_is) (by k_is) (by k_is) (by intros; rfl) ?_
          k_steps
          try unfold Halt
          with_reducible rename Fr _ _ _ _ => Fc59
          with_reducible rename News _ _ _ _ => Nc59
          k_dflt (refine' useCB (write_c A2 l2 sec due due _ [] 3 _ _ hA2 (by omega) (by decide) (by decide) (by decide)) d23 (fun q hq => hq) ?zB Fc59 ?zX Nc59 ?zT ?zhk trivial ?zhd ?zhu ?_; (case zB => k_asm); (case zX => k_asm); (case zT => k_asm); (case zhk => exact rfl); (case zhd => ktr_room); (case zhu => ktr_units))
          rintro v60 n60 h60 tk60 F60 N60 D60 R60 ⟨x60, ot60, l60, rfl, e60, ht60, hA60, hx60⟩
          rw [e60] at N60 D60
          clear R60 e60 Nc59 Fc59 d23 hA2
          k_steps
          try unfold Halt
          with_reducible rename Fr _ _ _ _ => Fm61
          with_reducible rename News _ _ _ _ => Nm61
          refine meth_disk hA60 (fun q hq => List.mem_append_left _ (.tail _ hq)) Fm61 Nm61 X1 (by k_is) (by k_is) (by k_is) (by intros; rfl) ?_
          k_steps
          try unfold Halt
          rename_i q2 hq2 Fq2 Nq2 lq2
          have dq2 : ∀ q ∈ ((x60, ot60) :: l60) ++ (l10 ++ R3), q.1 ≠ q2 := fun q hq => Nat.ne_of_lt (ltAll_mem lq2 q hq)
          have dqd : ∀ ol : Obj, Dis ((q2, ol) :: l60) ((x60, ot60) :: (l10 ++ R3)) := fun ol p hp q hq => by
            rcases List.mem_cons.mp hp with rfl | hp
            · exact (dq2 q (by
                rcases List.mem_cons.mp hq with rfl | h
                · exact .head _
                · exact List.mem_append_right _ h)).symm
            · rcases List.mem_cons.mp hq with rfl | hq
              · exact fun e => hx60 (by have := hA60.addrs p hp; rwa [show p.1 = x60 from e] at this)
              · exact D60 p (.tail _ hp) q hq
          have hG : ChsG noH [(x60, ot60)] (Str.ofString "truncate") ([] ++ [Value.ref x60]) ([] ++ [_]) := ChsG.snoc (tups := []) ⟨rfl, fun i v c h1 h2 => by simp at h1⟩ (fun q hq => nomatch hq) (.inr (.head _)) ht60 ⟨by decide, by decide, by decide, by decide⟩
          k_dflt (refine' useCB (survivor_c A2 l60 sec due _ _ _ q2 0 [] [] hA60 .nil (by decide) (by decide) (by omega) (by decide) hsec1 (notAll hA60 fun q hq => dq2 q (List.mem_append_left _ (.tail _ hq)))) (dqd _) mRot ?zB Fq2 ?zX Nq2 ?zT ?zhk (hG.any.here Fq2 Nq2 (fun q hq => .tail _ (by rcases List.mem_singleton.mp hq with rfl; exact .head _)) (hnot_of hA60 (fun q hq => .tail _ (.tail _ (List.mem_append_left _ hq))) (.head _) ((dqd (listOf #[] 0)).sub (fun _ h => .tail _ h) (fun q hq => by rcases List.mem_singleton.mp hq with rfl; exact .head _)) (fun q hq => dq2 q (by rcases List.mem_singleton.mp hq with rfl; exact .head _)))) ?zhd ?zhu ?_; (case zB => k_asm); (case zX => k_asm); (case zT => k_asm); (case zhk => exact rfl); (case zhd => ktr_room); (case zhu => ktr_units))
          rintro v62 n62 h62 tk62 F62 N62 D62 R62 ⟨A4, l4, rfl, e62, hA4, hX4, off4⟩
          rw [e62] at N62 D62
          rw [leftFrom_none] at hA4 hX4
          have dv4 := svDis hA60 hA4 off4 D62
          clear R62 D62 e62
          k_steps
          try unfold Halt
          with_reducible rename Fr _ _ _ _ => Fc63
          with_reducible rename News _ _ _ _ => Nc63
          refine wpC.any ?_
          k_dflt (refine' useAB (whole_c A4 l4 sec _ _ _ hA4 (by omega)) dv4 (fun q hq => by rw [List.append_assoc]; exact hq) ?zB Fc63 ?zX Nc63 ?zT ?zhk trivial ?zhd ?zhu ?_; (case zB => k_asm); (case zX => k_asm); (case zT => k_asm); (case zhk => exact rfl); (case zhd => ktr_room); (case zhu => ktr_units))
          rintro v64 n64 h64 tk64 F64 N64 D64 R64 ⟨e64, t64, rfl⟩
          rw [e64] at N64
          clear D64 R64 e64 Nc63 Fc63
          k_steps
          rename_i kF kN kK kR
          rw [show ((applyAll due []).toList == due.toList) = true from beq_self_eq_true _]
          exact hret _ _ _ _ kF kN kK kR ⟨t64, rfl⟩
end
end
section
section
local macro_rules | `(tactic| walk_at "eval Name") => `(tactic| (k_here; k_dflt (refine' nameX_B ?F ?X ?T ?e ?v ?n ?_ ?a ?b; (case F => k_asm); (case X => k_asm); (case T => k_asm); (case a => rfl); (case b => rfl); (case e => k_is); (case v => boot_by_name); (case n => decide); k_whole)))
theorem top1 : PySem.Challenge.rw_xm0759_01.Holds := by
  refine hd ?_
  w_top off
  k_fill
  intro w s₀ s₁ mg mb G Y fa o pm cd doc dV kV ho hd hcd hD hmg hg args vals as hpre hlay hrd hwl hlo
  have hNE : NoE := ⟨⟩
  have hS9 : Stop := ⟨⟩
  have hM9 : StopM := ⟨⟩
  have hC9 : StopC := ⟨⟩
  have KX := kIn_of Y
  have V := (Ground.X G).2
  refine Ground.open G ?_
  intro T B D TE TW
  have TA := at_of_top T
  wrow_args hpre hlay hrd hwl hlo
  have hLs := ‹Heap.IsList _ _ _›
  have hIs := ‹IntsAre _ _›
  have he := Dflts.none hD rfl
  subst he
  have he := Dflts.noKw hD
  subst he
  dsimp only [docDef] at hd hcd
  refine wpC_call ?_
  k_dflt (refine' code_top ho hd hcd T ?zk9 ?zkB ?zkD ?_ ?zc2 ?zc3 ?zc4; (case zk9 => exact BindsTo.of_eq rfl); (case zkB => exact rfl); (case zkD => decide +kernel); (case zc2 => exact rfl); (case zc3 => exact rfl); (case zc4 => exact rfl); k_whole; intro L' h' tk' cells' F' N' Y' B'; k_cells Y'; (try simp only [List.cons_append, List.nil_append] at N'); (try dsimp only))
  clear hd hcd hD hmg V G B D TE TW TA Y
  k_steps
  try unfold Halt
  rename_i o1 d1 x1 hx1 lx1 ql hq Fq Nq lq
  have dq1 : Dis [(ql, listOf #[Value.int 5 0, Value.int 8 0] 0)] [(x1, ba #[97]), (L' + 1, o1)] := Dis.lt fun q hq => by
    rcases List.mem_cons.mp hq with rfl | hq
    · exact lq.1
    · rcases List.mem_singleton.mp hq with rfl
      exact lq.2.1
  refine wpC.any ?_
  k_dflt (refine' useAB (choices_c ql 0 [_, _] (by simp)) dq1.head (fun q hq => hq) ?zB Fq ?zX Nq ?zT ?zhk trivial ?zhd ?zhu ?_; (case zB => k_asm); (case zX => k_asm); (case zT => k_asm); (case zhk => exact rfl); (case zhd => first | decide | ktr_room); (case zhu => first | decide | ktr_units))
  rintro v2 n2 h2 tk2 F2 N2 D2 R2 ⟨x, cdx, nl, od, n, rfl, e2, hod, hnd⟩
  rw [e2] at N2 D2
  clear R2 e2
  replace N2 := newsAll (n' := (L' + 1, o1) :: (x1, ba #[97]) :: [(x, instObj 294 cdx), (cdx, od), (nl, listOf _ n)]) N2 (by (try simp only [List.cons_append, List.nil_append]); (repeat' (first | exact List.forall_mem_nil _ | refine List.forall_mem_cons.mpr ⟨?_, ?_⟩)) <;> (repeat' (first | exact List.Mem.head _ | refine' List.Mem.tail _ ?_)))
  have D3 : Dis [(x, instObj 294 cdx), (cdx, od), (nl, listOf _ n)] [(x1, ba #[97]), (L' + 1, o1)] := D2.sub (by (try simp only [List.cons_append, List.nil_append]); (repeat' (first | exact List.forall_mem_nil _ | refine List.forall_mem_cons.mpr ⟨?_, ?_⟩)) <;> (repeat' (first | exact List.Mem.head _ | refine' List.Mem.tail _ ?_))) (fun _ h => h)
  have k1 : @Ne Nat x (L' + 1) := D3 _ (.head _) _ (.tail _ (.head _))
  have k2 : @Ne Nat cdx (L' + 1) := D3 _ (.tail _ (.head _)) _ (.tail _ (.head _))
  have k3 : @Ne Nat nl (L' + 1) := D3 _ (.tail _ (.tail _ (.head _))) _ (.tail _ (.head _))
  clear D2
  k_steps
  try unfold Halt
  with_reducible rename Fr _ _ _ _ => Fc3
  with_reducible rename News _ _ _ _ => Nc3
  rename_i Dt _ _ _ _ hh3 o2 d2
  replace Nc3 := newsAll (n' := (x1, ba #[97]) :: (L' + 1, o2) :: [(x, instObj 294 cdx), (cdx, od), (nl, listOf _ n)]) Nc3 (by (try simp only [List.cons_append, List.nil_append]); (repeat' (first | exact List.forall_mem_nil _ | refine List.forall_mem_cons.mpr ⟨?_, ?_⟩)) <;> (repeat' (first | exact List.Mem.head _ | refine' List.Mem.tail _ ?_)))
  have Dx1 : Dis [(x1, ba #[97])] ((L' + 1, o2) :: [(x, instObj 294 cdx), (cdx, od), (nl, listOf _ n)]) := fun p hp q hq => by
    rcases List.mem_cons.mp hq with rfl | hq
    · rcases List.mem_singleton.mp hp with rfl
      exact Nat.ne_of_gt lx1.1
    · rcases List.mem_singleton.mp hp with rfl
      exact (D3 q hq _ (.head _)).symm
  k_dflt (refine' useCB (put_c x1 #[97] _ 2 _ _ (by decide) (by decide) (by decide)) Dx1 (fun q hq => hq) ?zB Fc3 ?zX Nc3 ?zT ?zhk trivial ?zhd ?zhu ?_; (case zB => k_asm); (case zX => k_asm); (case zT => k_asm); (case zhk => exact rfl); (case zhd => first | decide | ktr_room); (case zhu => first | decide | ktr_units))
  rintro v4 n4 h4 tk4 F4 N4 D4 R4 ⟨o4, e4, rfl, eo4⟩
  have eo : o4 = ba #[97, 0, 99] := eo4.trans (congrArg ba (by decide))
  rw [eo] at e4
  rw [e4] at N4
  replace N4 := newsAll (n' := (L' + 1, o2) :: (x1, ba #[97, 0, 99]) :: [(x, instObj 294 cdx), (cdx, od), (nl, listOf _ n)]) N4 (by (try simp only [List.cons_append, List.nil_append]); (repeat' (first | exact List.forall_mem_nil _ | refine List.forall_mem_cons.mpr ⟨?_, ?_⟩)) <;> (repeat' (first | exact List.Mem.head _ | refine' List.Mem.tail _ ?_)))
  clear R4 e4 eo eo4 o4 D4 Nc3 Fc3
  k_steps
  try unfold Halt
  with_reducible rename Fr _ _ _ _ => F5
  with_reducible rename News _ _ _ _ => N5
  replace N5 := newsAll (n' := (L' + 1, o2) :: [(x, instObj 294 cdx), (cdx, od), (nl, listOf _ n)]) N5 (by (try simp only [List.cons_append, List.nil_append]); (repeat' (first | exact List.forall_mem_nil _ | refine List.forall_mem_cons.mpr ⟨?_, ?_⟩)) <;> (repeat' (first | exact List.Mem.head _ | refine' List.Mem.tail _ ?_)))
  have nq1 : Nq x cdx := ⟨fun e => by simp [e] at hnd⟩
  have nq2 : Nq x nl := ⟨fun e => by simp [e] at hnd⟩
  have nq3 : Nq cdx nl := ⟨fun e => by simp [e] at hnd⟩
  refine LCg.CompSrc.range rfl F5 N5 ‹IsRange _ _ _ _ _ _ _ _› (small_up (by omega) (by omega) (by omega) (by omega)) (n := 3) (by rw [rangeSize_up]; omega) (by rw [sizeLine_eq]; omega) ?_
  intro g5
  refine comp_J (fun i ys nw => ∃ (od' : Obj) (ns : List Int), nw = (L' + 1, o2) :: [(x, instObj 294 cdx), (cdx, od'), (nl, listOf _ n)] ∧ ChoiceD w nl i od' ∧ IntsAre ys ns ∧ ns = (List.range i).map (num [5, 8])) ⟨od, [], rfl, hod, .nil, rfl⟩ ?zct1 ?zcf1
  case zct1 =>
    rintro i v I oI C oC Dc m₂ ys nw h tk E' hi ⟨tv, rfl⟩ ⟨od', ns', rfl, hod', hI', rfl⟩ hC hx Fc Nc off ne
    k_steps
    try unfold Halt
    with_reducible rename Fr _ _ _ _ => Fm6
    with_reducible rename News _ _ _ _ => Nm6
    have om := off.mem
    have dm : Dis [(x, instObj 294 cdx), (cdx, od'), (nl, listOf _ n)] [(I, oI), (C, oC), (Dc, LCg.lst ys), (L' + 1, o2)] := fun p hp q hq => by
      have hm := om p (.tail _ hp)
      rcases List.mem_cons.mp hq with rfl | hq
      · exact hm.1
      · rcases List.mem_cons.mp hq with rfl | hq
        · exact hm.2.1
        · rcases List.mem_cons.mp hq with rfl | hq
          · exact hm.2.2
          · rcases List.mem_singleton.mp hq with rfl
            rcases List.mem_cons.mp hp with rfl | hp
            · exact k1
            · rcases List.mem_cons.mp hp with rfl | hp
              · exact k2
              · rcases List.mem_singleton.mp hp with rfl
                exact k3
    have hod2 := hod'
    obtain ⟨tt, t1, t2, rfl⟩ := hod'
    refine method_inst Fm6 KX (InstAt.of_news Nm6 (by k_mem) (by k_mem)) (by k_is) (by k_is) (by k_is) rfl ?_
    k_steps
    try unfold Halt
    with_reducible rename Fr _ _ _ _ => Fc6
    with_reducible rename News _ _ _ _ => Nc6
    k_dflt (refine' useAB (following_c x cdx nl _ [_, _] [5, 8] n i hod2 (.cons 5 _ (.cons 8 _ .nil)) (by decide) nq1 nq2 nq3) dm (by (try simp only [List.cons_append, List.nil_append]); (repeat' (first | exact List.forall_mem_nil _ | refine List.forall_mem_cons.mpr ⟨?_, ?_⟩)) <;> (repeat' (first | exact List.Mem.head _ | refine' List.Mem.tail _ ?_))) ?zB Fc6 ?zX Nc6 ?zT ?zhk trivial ?zhd ?zhu ?_; (case zB => k_asm); (case zX => k_asm); (case zT => k_asm); (case zhk => exact rfl); (case zhd => first | decide | ktr_room); (case zhu => first | decide | ktr_units))
    rintro ve ne' he tke Fe Ne De Re ⟨od3, te, told', rfl, e3, hod3, htl⟩
    rw [e3] at Ne
    have ht1 : told' = i + 1 := htl (by decide)
    subst ht1
    refine LCg.CompEnd.intro Fe Ne ((L' + 1, o2) :: [(x, instObj 294 cdx), (cdx, od3), (nl, listOf _ n)]) (by (try simp only [List.cons_append, List.nil_append]); (repeat' (first | exact List.forall_mem_nil _ | refine List.forall_mem_cons.mpr ⟨?_, ?_⟩)) <;> (repeat' (first | exact List.Mem.head _ | refine' List.Mem.tail _ ?_))) off trivial ⟨od3, _, rfl, hod3, ints_snoc hI', ?_⟩
    rw [List.range_succ, List.map_append]
    rfl
  case zcf1 =>
    rintro ys nw ⟨od3, ns', rfl, hod3, hI3, rfl⟩
    intro Dl h7 tk7 F7 N7 off7
    dsimp only
    k_steps
    try unfold Halt
    with_reducible rename Fr _ _ _ _ => F8
    with_reducible rename News _ _ _ _ => N8
    replace N8 := newsAll (n' := []) N8 (fun q hq => nomatch hq)
    have DN : ∀ l : List (Addr × Obj), Dis l [] := fun _ _ _ _ h => nomatch h
    have HN : ∀ l : List (Addr × Obj), ∀ q ∈ l ++ [], q ∈ l := fun l q hq => by rwa [List.append_nil] at hq
    refine wpC.any ?_
    k_dflt (refine' useAB (disk_c ((2 : Nat) : Int) _) Dis.nil (fun q hq => hq) ?zB F8 ?zX N8 ?zT ?zhk trivial ?zhd ?zhu ?_; (case zB => k_asm); (case zX => k_asm); (case zT => k_asm); (case zhk => exact rfl); (case zhd => first | decide | ktr_room); (case zhu => first | decide | ktr_units))
    rintro v9 n9 h9 tk9 F9 N9 D9 R9 ⟨D, dx, fd, od9, ofd, rfl, e9, hod9, hofd, lo, lt1, lt2⟩
    rw [e9] at N9
    replace N9 := newsAll N9 (fun q hq => List.mem_append_left _ hq)
    clear R9 D9 e9 N8 F8
    k_steps
    try unfold Halt
    with_reducible rename Fr _ _ _ _ => Fm10
    with_reducible rename News _ _ _ _ => Nm10
    refine meth_diskD hod9 (by k_mem) (by k_mem) Fm10 Nm10 KX (by k_is) (by k_is) (by k_is) (by intros; rfl) ?_
    k_steps
    try unfold Halt
    with_reducible rename Fr _ _ _ _ => Fc10
    with_reducible rename News _ _ _ _ => Nc10
    k_dflt (refine' useCB (open_c D dx fd od9 ofd (2 : Nat) _ hod9 hofd lo (Nat.ne_of_gt lt2) (Nat.ne_of_gt (Nat.lt_trans lt1 lt2)) (Nat.ne_of_gt lt1)) (DN _) (HN _) ?zB Fc10 ?zX Nc10 ?zT ?zhk trivial ?zhd ?zhu ?_; (case zB => k_asm); (case zX => k_asm); (case zT => k_asm); (case zhk => exact rfl); (case zhd => first | decide | ktr_room); (case zhu => first | decide | ktr_units))
    rintro v11 l11 h11 tk11 F11 N11 D11 R11 ⟨A, rfl, rfl, rfl, rfl, hA⟩
    replace N11 := newsAll N11 (fun q hq => List.mem_append_left _ hq)
    clear R11 D11 hod9 hofd lt1 lt2
    k_steps
    try unfold Halt
    with_reducible rename Fr _ _ _ _ => Fm12
    with_reducible rename News _ _ _ _ => Nm12
    refine meth_file hA (fun q hq => hq) Fm12 Nm12 KX (by k_is) (by k_is) (by k_is) (by intros; rfl) ?_
    k_steps
    try unfold Halt
    with_reducible rename Fr _ _ _ _ => Fc12
    with_reducible rename News _ _ _ _ => Nc12
    k_dflt (refine' useCB (write_c A l11 (2 : Nat) #[] #[] #[97, 98, 99, 100] [] 0 _ _ hA (by decide) (by decide) (by decide) (by decide)) (DN _) (HN _) ?zB Fc12 ?zX Nc12 ?zT ?zhk trivial ?zhd ?zhu ?_; (case zB => k_asm); (case zX => k_asm); (case zT => k_asm); (case zhk => exact rfl); (case zhd => first | decide | ktr_room); (case zhu => first | decide | ktr_units))
    rintro v13 n13 h13 tk13 F13 N13 D13 R13 ⟨x13, ot13, l13, rfl, e13, ht13, hA13, hx13⟩
    rw [e13] at N13
    replace N13 := newsAll N13 (fun q hq => List.mem_append_left _ hq)
    clear R13 D13 hA Nc12 Fc12
    k_steps
    try unfold Halt
    with_reducible rename Fr _ _ _ _ => Fm14
    with_reducible rename News _ _ _ _ => Nm14
    refine meth_disk hA13 (fun q hq => .tail _ hq) Fm14 Nm14 KX (by k_is) (by k_is) (by k_is) (by intros; rfl) ?_
    k_steps
    try unfold Halt
    rename_i q2 hq2 Fq2 Nq2 lq2
    have dq2 : ∀ q ∈ (x13, ot13) :: l13, q.1 ≠ q2 := fun q hq => Nat.ne_of_lt (ltAll_mem (l := (x13, ot13) :: l13) lq2 q hq)
    have dqd : ∀ ol : Obj, Dis ((q2, ol) :: l13) [(x13, ot13)] := fun ol p hp q hq => by
      rcases List.mem_singleton.mp hq with rfl
      rcases List.mem_cons.mp hp with rfl | hp
      · exact (dq2 _ (.head _)).symm
      · exact fun e => hx13 (by have := hA13.addrs p hp; rwa [show p.1 = x13 from e] at this)
    have hG : ChsG noH [(x13, ot13)] (Str.ofString "truncate") ([] ++ [Value.ref x13]) ([] ++ [_]) := ChsG.snoc (tups := []) ⟨rfl, fun i v c h1 h2 => by simp at h1⟩ (fun q hq => nomatch hq) (.inr (.head _)) ht13 ⟨by decide, by decide, by decide, by decide⟩
    k_dflt (refine' useCB (survivor_c A l13 2 #[] _ _ _ q2 0 [_] [6] hA13 (.cons 6 _ .nil) (by decide) (by decide) (by decide) (by decide) (by decide) (notAll hA13 fun q hq => dq2 q (.tail _ hq))) (dqd _) mRot0 ?zB Fq2 ?zX Nq2 ?zT ?zhk (hG.any.here Fq2 Nq2 (fun q hq => .tail _ (by rcases List.mem_singleton.mp hq with rfl; exact .head _)) (hnot_of hA13 (fun q hq => .tail _ (.tail _ hq)) (.head _) ((dqd (listOf #[] 0)).sub (fun _ h => .tail _ h) (fun q hq => hq)) (fun q hq => dq2 q (by rcases List.mem_singleton.mp hq with rfl; exact .head _)))) ?zhd ?zhu ?_; (case zB => k_asm); (case zX => k_asm); (case zT => k_asm); (case zhk => exact rfl); (case zhd => first | decide | ktr_room); (case zhu => first | decide | ktr_units))
    rintro v15 n15 h15 tk15 F15 N15 D15 R15 ⟨A2, l2, rfl, e15, hA2, hX2, off2⟩
    rw [e15] at N15
    rw [show applyAll #[] (leftFrom 2 [6] 0 ([] ++ [⟨false, 0, #[97, 98, 99, 100]⟩])) = #[97, 98] from by decide] at hA2
    replace N15 := newsAll N15 (fun q hq => List.mem_append_left _ (List.mem_append_left _ hq))
    clear R15 D15 e15 hX2 off2 hA13 dq2 dqd hG hx13 ht13
    k_steps
    try unfold Halt
    with_reducible rename Fr _ _ _ _ => Fc16
    with_reducible rename News _ _ _ _ => Nc16
    refine wpC.any ?_
    k_dflt (refine' useAB (whole_c A2 l2 (2 : Nat) _ _ [] hA2 (by decide)) (DN _) (HN _) ?zB Fc16 ?zX Nc16 ?zT ?zhk trivial ?zhd ?zhu ?_; (case zB => k_asm); (case zX => k_asm); (case zT => k_asm); (case zhk => exact rfl); (case zhd => first | decide | ktr_room); (case zhu => first | decide | ktr_units))
    rintro v17 n17 h17 tk17 F17 N17 D17 R17 ⟨e17, t17, rfl⟩
    replace N17 := newsAll (n' := []) N17 (fun q hq => nomatch hq)
    clear D17 R17 e17 Nc16 Fc16 hA2
    k_steps
    try unfold Halt
    refine wpC_For ?_
    k_steps
    with_reducible rename Fr _ _ _ _ => F18
    with_reducible rename News _ _ _ _ => N18
    rename_i hr _
    have hcnt : ∀ n : Nat, ∃ c : Nat, (if (if (n : Int) < 2 then (n : Int) else 2) > 1 then if (n : Int) < 2 then (n : Int) else 2 else 1) = (c : Int) ∧ c ≤ 2 := fun n => by
      rcases Nat.lt_or_ge n 2 with h | h
      · refine ⟨1, ?_, by decide⟩
        have h1 : n = 0 ∨ n = 1 := by omega
        rcases h1 with rfl | rfl <;> decide
      · exact ⟨2, by rw [if_neg (show ¬ (n : Int) < 2 by omega)]; rfl, by decide⟩
    obtain ⟨cnt, hc0, hc1⟩ := hcnt _
    rw [hc0] at hr
    refine forRC [Str.ofString "k"] cnt (fun it i n => n = []) rfl F18 N18 hr ?zhsm ?zhc ?zhne ?zhgo ?zh0 ?zturn ?zdone
    case zhne => rintro it i n rfl q hq; cases hq
    case zhgo => exact fun it x tx s Q hq => wpAny_pure hq
    case zh0 => exact fun it hit => rfl
    case zhsm => exact small_up (by omega) (by omega) (by omega) (by omega)
    case zhc => rw [rangeSize_up]; omega
    case zdone =>
      rintro it u n₁ h19 tk19 hit rfl Fh Nh
      dsimp only
      k_steps
      dsimp only [back]
      refine ⟨.inl ⟨_, _, [], rfl, fun _ => rfl, ReadsW.bool true, ?zhp, fun _ => ⟨List.nodup_nil, fun _ hm => nomatch hm⟩⟩, .of_keep ‹Fr _ _ _ _›.keep, rfl, .of_eq (by assumption)⟩
      first | rfl | wrow_post
    case zturn =>
      rintro it i tx u n₁ h19 tk19 io hit hi rfl Fh Nh
      k_steps
      try unfold Halt
      with_reducible rename Fr _ _ _ _ => Fc20
      with_reducible rename News _ _ _ _ => Nc20
      refine wpC.any ?_
      k_dflt (refine' useAB (pool_c _ _ _ _ _ hIs (by omega) (by omega) (by omega)) Dis.nil (fun q hq => hq) ?zB Fc20 ?zX Nc20 ?zT ?zhk (let ⟨o, a, b⟩ := hLs; ⟨o, Fc20.keep _ _ a, b⟩) ?zhd ?zhu ?_; (case zB => k_asm); (case zX => k_asm); (case zT => k_asm); (case zhk => exact rfl); (case zhd => first | decide | ktr_room); (case zhu => first | decide | ktr_units))
      rintro v21 n21 h21 tk21 F21 N21 D21 R21 ⟨x21, o21, rfl, e21, hs21⟩
      rw [e21] at N21 D21
      clear R21 e21 Nc20 Fc20
      k_steps
      try unfold Halt
      with_reducible rename Fr _ _ _ _ => Fc22
      with_reducible rename News _ _ _ _ => Nc22
      k_dflt (refine' useCB (right_c x21 o21 hs21) D21 (fun q hq => hq) ?zB Fc22 ?zX Nc22 ?zT ?zhk trivial ?zhd ?zhu ?_; (case zB => k_asm); (case zX => k_asm); (case zT => k_asm); (case zhk => exact rfl); (case zhd => first | decide | ktr_room); (case zhu => first | decide | ktr_units))
      rintro v23 n23 h23 tk23 F23 N23 D23 R23 ⟨t23, rfl⟩
      replace N23 := newsAll (n' := [(it, io)]) N23 (fun q hq => List.mem_append_right _ hq)
      clear R23 D23 Nc22 Fc22 D21
      k_steps
      refine TurnC.nxV (n' := []) ‹Fr _ _ _ _› ‹News _ _ _ _› ?zoff rfl
      repeat' (first | exact OffV.over | refine' OffV.step ?_ ?_ | exact List.Mem.head _ | refine' List.Mem.tail _ ?_)
#print axioms top1
end
end
end Mine
end
theorem PySem.Challenge.cw_xm0759_01_holds : PySem.Challenge.rw_xm0759_01.Holds :=
  Mine.top1

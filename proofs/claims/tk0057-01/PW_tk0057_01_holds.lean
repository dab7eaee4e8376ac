import PyProof.Rows.All
import Wide.All
import OpenK.AllK
import Wide.FinOn
import Wide.BytesFacts
import PySem.Challenge.RW_tk0057_01
set_option Elab.async false
set_option linter.unusedVariables false
set_option linter.unusedSimpArgs false
set_option compiler.extract_closed false
section
open PySem PySem.W PyProof.Rows
namespace Mine

/-- the built-ins that lend a bytearray out while they stand on the stack -/
def badIds : List String := ["bytearray.__contains__", "bytearray.__mod__", "bytearray.__rmod__", "_struct.pack_into.held", "bytearray.find.held"] ++ Builtin.Bytes.decodersThatHold
def okCode : Code → Bool
  | .builtin id _ => !badIds.contains id
  | _ => true
/-- no such built-in stands on the stack -/
def Cln (Γ : Ctx) : Prop := okCode Γ.code = true ∧ ∀ x ∈ Γ.below, okCode x.1 = true

section
variable {α β : Type} {M : Model} {A : Around} {s : Shared}

/-- as wpAny, over the clean stacks alone; nothing is raised -/
def wpC (M : Model) (A : Around) (t : Sem α) (Q : α → Shared → Prop) (s : Shared) : Prop :=
  ∀ Γ p, Γ.In A → Cln Γ → Sem.wp M Γ t (fun a _ s' => Q a s') (fun _ _ _ => False) p s

def resC (R : Flow → Shared → Prop) : Result → Shared → Prop
  | .ok f, s' => R f s'
  | .error _, _ => False

def codeC (M : Model) (A : Around) (c : Code) (R : Flow → Shared → Prop) (s : Shared) : Prop :=
  ∀ Γ p, Γ.code = c → Γ.Below A → Cln Γ → wpCode M Γ (resC R) p s

theorem wpC_of_any {t : Sem α} {Q : α → Shared → Prop} (h : wpAny M A t Q (fun _ _ => False) s) : wpC M A t Q s := fun Γ p hΓ _ => h Γ p hΓ
theorem wpC_mono {t : Sem α} {Q Q' : α → Shared → Prop} (h : wpC M A t Q s) (hQ : ∀ a s', Q a s' → Q' a s') : wpC M A t Q' s :=
  fun Γ p hΓ hc => Sem.wp_mono M Γ t (fun a _ s' => hQ a s') (fun _ _ _ x => x) p s (h Γ p hΓ hc)
theorem wpC_pure {a : α} {Q : α → Shared → Prop} (h : Q a s) : wpC M A (pure a) Q s := fun _ _ _ _ => h
theorem wpC_bind {m : Sem α} {f : α → Sem β} {Q : β → Shared → Prop} (h : wpC M A m (fun a s' => wpC M A (f a) Q s') s) : wpC M A (m >>= f) Q s := fun Γ p hΓ hc => by
  rw [Sem.wp_bind']
  exact Sem.wp_mono M Γ m (fun a p' s' h' => h' Γ p' hΓ hc) (fun _ _ _ x => x) p s (h Γ p hΓ hc)
/-- a first part under wpAny, the rest clean -/
theorem wpC_seq {m : Sem α} {f : α → Sem β} {Q : β → Shared → Prop} (h : wpAny M A m (fun a s' => wpC M A (f a) Q s') (fun _ _ => False) s) : wpC M A (m >>= f) Q s :=
  wpC_bind (wpC_of_any h)
theorem wpC_eq {t t' : Sem α} {Q : α → Shared → Prop} (e : t = t') (h : wpC M A t' Q s) : wpC M A t Q s := e ▸ h
theorem wpC_holding {vs : List Value} {m : Sem α} {Q : α → Shared → Prop} (h : wpC M A m Q s) : wpC M A (holding vs m) Q s := fun Γ p hΓ hc => by
  rw [Sem.wp_holding]; exact h Γ p hΓ hc
theorem wpC_keep {vs : List Value} {m : Sem α} {Q : α → Shared → Prop} (h : wpC M A m Q s) : wpC M A (m.keep vs) Q s := fun Γ p hΓ hc => by
  rw [Sem.wp_keep]; exact h Γ p hΓ hc
theorem wpC_onRaise {m : Sem α} {k : Value → Sem Unit} {Q : α → Shared → Prop} (h : wpC M A m Q s) : wpC M A (m.onRaise k) Q s := fun Γ p hΓ hc => by
  rw [Sem.wp_onRaise]
  exact Sem.wp_mono M Γ m (fun _ _ _ x => x) (fun _ _ _ x => x.elim) p s (h Γ p hΓ hc)
theorem wpC_standAt {q : Pos} {f : Unit → Sem α} {Q : α → Shared → Prop} (h : wpC M A (f ()) Q s) : wpC M A (standAt q >>= f) Q s := wpC_seq (wpAny_standAt h)

theorem Cln.enter {Γ : Ctx} (h : Cln Γ) {c : Code} (hc : okCode c = true) (hd : Option Value) (p : Pos) : Cln (Γ.enter c hd p) :=
  ⟨hc, fun x hx => by
    rcases List.mem_cons.mp hx with rfl | hx
    · exact h.1
    · exact h.2 x hx⟩
theorem Cln.goto {Γ : Ctx} (h : Cln Γ) {c : Code} (hc : okCode c = true) : Cln (Γ.goto c) := ⟨hc, h.2⟩

theorem wpC_run {c : Code} {Q : Flow → Shared → Prop} (ho : okCode c = true) (h : codeC M A c Q s) : wpC M A (run c none) Q s := fun Γ p hΓ hc => by
  rw [Sem.wp_run]
  refine wpCode_mono (fun r s' x => ?_) (h _ p rfl (hΓ.enter c none p (by intro x; cases x)) (hc.enter ho none p))
  cases r with
  | ok f => exact x
  | error e => exact x
theorem wpC_runOwn {c : Code} {env : Env} {Q : Flow → Shared → Prop} (ho : okCode c = true) (h : codeC M A c Q s) : wpC M A (runOwn c env) Q s := by
  unfold runOwn
  exact wpC_onRaise (wpC_run ho h)
def retC (Q : Value → Shared → Prop) : Flow → Shared → Prop
  | .ret v, s' => Q v s'
  | _, _ => False
theorem wpC_call {f : Value} {pos : List Value} {kw : List (Str × Value)} {Q : Value → Shared → Prop} (h : codeC M A (.call f ⟨pos, kw⟩) (retC Q) s) : wpC M A (call f pos kw) Q s := fun Γ p hΓ hc => by
  rw [Sem.wp_cmd_call]
  refine wpCode_mono (fun r s' x => ?_) (h _ p rfl (hΓ.enter _ none p (by intro x; cases x)) (hc.enter rfl none p))
  cases r with
  | error e => exact x
  | ok f => cases f <;> exact x

theorem codeC_of_any {c : Code} {R : Flow → Shared → Prop} (h : codeAny M A c (resC R) s) : codeC M A c R s := fun Γ p hc hΓ _ => h Γ p hc hΓ
theorem codeC_mono {c : Code} {R R' : Flow → Shared → Prop} (h : codeC M A c R s) (hR : ∀ f s', R f s' → R' f s') : codeC M A c R' s := fun Γ p hc hΓ hk =>
  wpCode_mono (fun r s' x => by
    cases r with
    | ok f => exact hR f s' x
    | error e => exact x) (h Γ p hc hΓ hk)
def finC (M : Model) (A : Around) (R : Flow → Shared → Prop) : Fin → Shared → Prop
  | .done f, s' => R f s'
  | .again c', s' => c'.quiet = true ∧ okCode c' = true ∧ codeC M A c' R s'
theorem codeC_of_tree {c : Code} {R : Flow → Shared → Prop} (h : wpC M (A.under c) (M.den c) (finC M A R) s) : codeC M A c R s := fun Γ p hc hΓ hk => by
  rw [wpCode_iff_wp, hc]
  refine Sem.wp_mono M Γ _ (fun fin p' s' h' => ?_) (fun _ _ _ x => x.elim) p s (h Γ p (hc ▸ hΓ.in) hk)
  cases fin with
  | done f => exact h'
  | again c' => exact ⟨h'.1, h'.2.2 (Γ.goto c') p' rfl (hΓ.goto c') (hk.goto h'.2.1)⟩

/-- the look at the stack that no decoder stands there -/
theorem wpC_exported {X : Addr} {Q : Bool → Shared → Prop} (h : Q false s) : wpC M A (Builtin.Bytes.exported (.ref X)) Q s := fun Γ p _ hk => by
  unfold Builtin.Bytes.exported
  show Q (((Γ.code, p) :: Γ.below).any _) s
  rw [List.any_eq_false.mpr]
  · exact h
  · intro x hx
    have ho : okCode x.1 = true := by
      rcases List.mem_cons.mp hx with rfl | hx
      · exact hk.1
      · exact hk.2 x hx
    obtain ⟨c, q⟩ := x
    cases c with
    | builtin id args =>
      simp only [okCode, badIds, Bool.not_eq_true', List.contains_eq_mem, List.mem_append, List.mem_cons, List.not_mem_nil, or_false, decide_eq_false_iff_not, not_or] at ho
      obtain ⟨⟨h1, h2, h3, h4, h5⟩, h6⟩ := ho
      have h6' : Builtin.Bytes.decodersThatHold.contains id = false := by
        cases hb : Builtin.Bytes.decodersThatHold.contains id with
        | false => rfl
        | true => exact absurd (List.contains_iff_mem.mp hb) h6
      obtain ⟨pos, kw⟩ := args
      have e : ∀ {α : Type} {c : Prop} [inst : Decidable c] {x y : α} {t : c → α} {e : ¬c → α} (hc : ¬c), (e hc = y) → x = dite c t e → x = y := fun hc h g => g.trans ((dif_neg hc).trans h)
      refine Bool.eq_false_iff.mp ?_
      set_option smartUnfolding false in
        refine e h1 ?_ (by with_unfolding_all rfl)
        refine e h2 ?_ (by with_unfolding_all rfl)
        refine e h3 ?_ (by with_unfolding_all rfl)
        refine e h4 ?_ (by with_unfolding_all rfl)
        refine e h5 ?_ (by with_unfolding_all rfl)
      cases pos with
      | nil => rfl
      | cons v r => exact (Bool.and_eq_false_iff.mpr (.inr h6'))
    | _ => simp
end
end Mine
end
section
open PySem PySem.W PyProof.Rows
namespace Mine
set_option maxRecDepth 100000

namespace BF
theorem slot_append : Slot "bytearray" "append" "bytearray.append" :=
  .of (owner := "bytearray") (n := "append") (by rw [typeLookup_type, builtinLookup_eq_fast]; kernel_rfl) (by decide +kernel) (by decide +kernel) (by decide +kernel)
    (by first | exact .inl (by decide +kernel) | exact .inr (by decide +kernel)) (by rw [isSubtype_type]; kernel_rfl)
theorem slot_extend : Slot "bytearray" "extend" "bytearray.extend" :=
  .of (owner := "bytearray") (n := "extend") (by rw [typeLookup_type, builtinLookup_eq_fast]; kernel_rfl) (by decide +kernel) (by decide +kernel) (by decide +kernel)
    (by first | exact .inl (by decide +kernel) | exact .inr (by decide +kernel)) (by rw [isSubtype_type]; kernel_rfl)
theorem slot_init : Slot "bytearray" "__init__" "bytearray.__init__" :=
  .of (owner := "bytearray") (n := "__init__") (by rw [typeLookup_type, builtinLookup_eq_fast]; kernel_rfl) (by decide +kernel) (by decide +kernel) (by decide +kernel)
    (by first | exact .inl (by decide +kernel) | exact .inr (by decide +kernel)) (by rw [isSubtype_type]; kernel_rfl)
theorem entry_append : entryFor table "bytearray.append" = some Builtin.«bytearray.append» := by first | exact entryFor_of_fast (by kernel_rfl) | exact entryFor_of_tree (by kernel_rfl)
theorem entry_extend : entryFor table "bytearray.extend" = some Builtin.«bytearray.extend» := by first | exact entryFor_of_fast (by kernel_rfl) | exact entryFor_of_tree (by kernel_rfl)
theorem entry_init : entryFor table "bytearray.__init__" = some Builtin.«bytearray.__init__» := by first | exact entryFor_of_fast (by kernel_rfl) | exact entryFor_of_tree (by kernel_rfl)
theorem entry_new : entryFor table "bytearray.__new__" = some Builtin.«list.__new__» := entryFor_alias (id' := "list.__new__") (by kernel_rfl) (by decide +kernel) (by decide +kernel) (by kernel_rfl)
theorem args_append (a b : Value) : argsOk "bytearray.append" ⟨[a, b], []⟩ := by unfold argsOk; kernel_rfl
theorem args_extend (a b : Value) : argsOk "bytearray.extend" ⟨[a, b], []⟩ := by unfold argsOk; kernel_rfl
theorem args_init (a : Value) : argsOk "bytearray.__init__" ⟨[a], []⟩ := by unfold argsOk; kernel_rfl
theorem ok_append {a : Args} : okCode (.builtin "bytearray.append" a) = true := by show (!badIds.contains "bytearray.append") = true; decide +kernel
theorem ok_extend {a : Args} : okCode (.builtin "bytearray.extend" a) = true := by show (!badIds.contains "bytearray.extend") = true; decide +kernel
theorem ok_init {a : Args} : okCode (.builtin "bytearray.__init__" a) = true := by show (!badIds.contains "bytearray.__init__") = true; decide +kernel
theorem ok_new {a : Args} : okCode (.builtin "bytearray.__new__" a) = true := by show (!badIds.contains "bytearray.__new__") = true; decide +kernel
theorem ok_type {a : Args} : okCode (.builtin "type.__call__" a) = true := by show (!badIds.contains "type.__call__") = true; decide +kernel
end BF

abbrev baObj (b : Array UInt8) : Obj := { cls := .type "bytearray", data := .bytearray b 0 }

section
variable {M : Model} {prog : Program} {w : World} {A : Around} {s : Shared} {X : Addr} {b : Array UInt8}

theorem wpC_if {α : Type} {c : Prop} [Decidable c] {x y : Sem α} {Q : α → Shared → Prop} (hc : c) (h : wpC M A x Q s) : wpC M A (if c then x else y) Q s := by rw [if_pos hc]; exact h
theorem wpC_ifn {α : Type} {c : Prop} [Decidable c] {x y : Sem α} {Q : α → Shared → Prop} (hc : ¬ c) (h : wpC M A y Q s) : wpC M A (if c then x else y) Q s := by rw [if_neg hc]; exact h
theorem quiet_of_slot {T : String} {name : Str} {id : String} (slot : Slot T name id) (args : Args) : (Code.builtin id args).quiet = true := plainId_quiet slot.plain args

theorem callC_builtin {T : String} {name : Str} {id : String} {B : Builtin} {self : Value} {rest : List Value} {Q : Value → Shared → Prop} (slot : Slot T name id) (hT : s.TypeIs self T)
    (entry : entryFor table id = some B) (args : argsOk id ⟨self :: rest, []⟩) (ok : okCode (.builtin id ⟨self :: rest, []⟩) = true)
    (h : wpC (model prog w) A.in1 (B ⟨self :: rest, []⟩) (fun fin s' => ∃ v, fin = .done (.ret v) ∧ Q v s') s) :
    wpC (model prog w) A (call (.builtin id) (self :: rest)) Q s := by
  refine wpC_call (codeC_of_tree ?_)
  show wpC _ A.in1 (do checkBuiltinCall id ⟨self :: rest, []⟩; again (.builtin id ⟨self :: rest, []⟩)) _ s
  refine wpC_seq (slot.check _ _ _ _ _ _ _ _ hT args ?_)
  refine wpC_pure ⟨quiet_of_slot slot _, ok, codeC_of_tree ?_⟩
  rw [Around.under_plainId slot.plain _]
  show wpC _ _ (match entryFor table id with | some b => b _ | none => unsupported ((withoutEnding? id "#data").getD id)) _ s
  rw [entry]
  refine wpC_mono h fun fin s' hv => ?_
  obtain ⟨v, rfl, hq⟩ := hv
  exact hq

theorem wpC_lent {Q : Bool → Shared → Prop} (ho : s.heap.get? X = some (baObj b)) (h : Q false s) :
    wpC M A (Builtin.Bytes.exported (.ref X) <||> do return (← Builtin.Bytes.exportsOf (.ref X)) > 0) Q s := by
  show wpC M A (Builtin.Bytes.exported (.ref X) >>= _) _ s
  refine wpC_bind (wpC_exported ?_)
  show wpC M A (Builtin.Bytes.exportsOf (.ref X) >>= fun n => pure (decide (n > 0))) _ s
  refine wpC_seq ?_
  unfold Builtin.Bytes.exportsOf
  exact wpAny_bind (wpAny_load ho (wpAny_pure (wpC_pure h)))
theorem wpC_checkResize {Q : Unit → Shared → Prop} (ho : s.heap.get? X = some (baObj b)) (h : Q () s) : wpC M A (Builtin.Bytes.checkResize (.ref X)) Q s := by
  unfold Builtin.Bytes.checkResize
  exact wpC_bind (wpC_lent ho (wpC_pure h))

theorem any_payload {E : Value → Shared → Prop} {Q : Array UInt8 → Shared → Prop} (ho : s.heap.get? X = some (baObj b)) (h : Q b s) : wpAny M A (Builtin.Bytes.payload (.ref X)) Q E s := by
  unfold Builtin.Bytes.payload Builtin.Bytes.payload?
  exact wpAny_bind (wpAny_bind (wpAny_load ho (wpAny_pure (wpAny_pure h))))
theorem any_write {E : Value → Shared → Prop} {f : Array UInt8 → Array UInt8} {Q : Unit → Shared → Prop} (ho : s.heap.get? X = some (baObj b)) (hz : (f b).size ≤ sizeLine)
    (h : Q () { s with heap := s.heap.update X (Obj.mapBytearray f) }) : wpAny M A (Builtin.Bytes.write (.ref X) f) Q E s := by
  unfold Builtin.Bytes.write updateBytearray
  refine wpAny_bind (wpAny_load ho ?_)
  refine wpAny_bind (wpAny_update ho ?_)
  refine wpAny_lookBehind (o := baObj (f b)) (Heap.get?_update_self _ ho rfl) ?_ h
  show (if (f b).size > sizeLine then some "bytearray:memory" else none) = none
  rw [if_neg (Nat.not_lt.mpr hz)]

theorem callC_append {i : Int} {t : Tok} {Q : Value → Shared → Prop} (ho : s.heap.get? X = some (baObj b)) (h0 : 0 ≤ i) (h1 : i < 256) (hz : b.size < 16777216)
    (h : Q .none { s with heap := s.heap.update X (Obj.mapBytearray (·.push i.toNat.toUInt8)) }) : wpC (model prog w) A (call (.builtin "bytearray.append") [.ref X, .int i t]) Q s := by
  refine callC_builtin (T := "bytearray") BF.slot_append ⟨_, ho, rfl⟩ BF.entry_append (BF.args_append _ _) BF.ok_append ?_
  show wpC _ _ (do let c ← Builtin.Bytes.byteValue (.int i t); Builtin.Bytes.checkResize (.ref X); Builtin.Bytes.write (.ref X) (·.push c); ret .none) _ s
  refine wpC_seq ?_
  unfold Builtin.Bytes.byteValue
  refine wpAny_bind (wpAny_of_eq (a := i) rfl ?_)
  have hno : (decide (i < 0) || decide (i ≥ 256)) = false := by
    rw [decide_eq_false (by omega), decide_eq_false (by omega)]; rfl
  show wpAny _ _ (if (decide (i < 0) || decide (i ≥ 256)) = true then _ else pure i.toNat.toUInt8) _ _ s
  rw [if_neg (by rw [hno]; exact Bool.false_ne_true)]
  refine wpAny_pure (wpC_bind (wpC_checkResize ho (wpC_seq (any_write ho ?_ (wpC_pure ⟨_, rfl, h⟩)))))
  rw [Array.size_push, sizeLine_eq]; omega

theorem take_eq {id : String} {c : Array UInt8} {u : Tok} : Builtin.Bytes.takeBufferQuiet? id (.bytes c u) 0 = pure (some (c, none)) := by
  unfold Builtin.Bytes.takeBufferQuiet? Builtin.Bytes.takeBuffer?
  rw [KBy.special_eq KBy.look_buffer, KBy.own_buffer]
  show (Sem.attempt (do
    let x ← Builtin.Bytes.buffer? id (.bytes c u) false
    pure (x.map (·, none))) >>= _) = _
  rw [KBy.buffer_eq]
  rfl

theorem callC_extend {c : Array UInt8} {u : Tok} {Q : Value → Shared → Prop} (ho : s.heap.get? X = some (baObj b)) (hz : b.size + c.size ≤ 16777216)
    (h : Q .none { s with heap := s.heap.update X (Obj.mapBytearray (· ++ c)) }) : wpC (model prog w) A (call (.builtin "bytearray.extend") [.ref X, .bytes c u]) Q s := by
  refine callC_builtin (T := "bytearray") BF.slot_extend ⟨_, ho, rfl⟩ BF.entry_extend (BF.args_extend _ _) BF.ok_extend ?_
  unfold Builtin.«bytearray.extend»
  refine wpC_bind (wpC_eq (t' := pure (Value.ref X, Value.bytes c u)) rfl (wpC_pure ?_))
  refine wpC_bind (wpC_eq (KBy.special_eq KBy.look_buffer) (wpC_pure ?_))
  refine wpC_if rfl ?_
  refine wpC_seq (wpAny_rule ?_)
  refine wpC_seq (any_payload ho ?_)
  refine wpC_bind (wpC_eq take_eq (wpC_pure ?_))
  have hw : b.size + c.size ≤ sizeLine := by rw [sizeLine_eq]; exact hz
  have fin : wpC (model prog w) A.in1 (Builtin.Bytes.write (.ref X) (· ++ c) >>= fun _ => ret .none) (fun fin s' => ∃ v, fin = .done (.ret v) ∧ Q v s') s :=
    wpC_seq (any_write ho (by rw [Array.size_append]; exact hw) (wpC_pure ⟨_, rfl, h⟩))
  show wpC _ _ (do
    if !c.isEmpty then Builtin.Bytes.checkResize (.ref X)
    Builtin.Bytes.write (.ref X) (· ++ c)
    ret .none) _ s
  cases hc : c.isEmpty with
  | true => exact fin
  | false => exact wpC_bind (wpC_checkResize ho fin)
end
end Mine
end
section
open PySem PySem.W PyProof.Rows
namespace Mine
set_option maxRecDepth 100000

namespace BF
theorem mro_ba : mroOf (.type "bytearray") = pure [.type "bytearray", .type "object"] := by rw [mroOf_type]; kernel_rfl
theorem lookup_new : typeLookup (.type "bytearray") "__new__" = pure (some (.builtin "bytearray.__new__")) := by rw [typeLookup_type, builtinLookup_eq_fast]; kernel_rfl
theorem called : TypeCalled "bytearray" "bytearray.__new__" "bytearray.__init__" :=
  ⟨by decide +kernel, by decide +kernel, ⟨_, _, mro_ba⟩, madeBy_type mro_ba lookup_new (by decide +kernel), by decide +kernel, by rw [isSubtype_type]; kernel_rfl, slot_init⟩
theorem typeCall : checkTypeCall "bytearray" ⟨[], []⟩ = pure () := by kernel_rfl
theorem newCall : checkBuiltinCall "bytearray.__new__" ⟨[.type "bytearray"], []⟩ = pure () := by kernel_rfl
theorem plain_new : plainId "bytearray.__new__" = true := by decide +kernel
theorem look_release : typeLookup (.type "bytearray") "__release_buffer__" = pure (some (.builtin "bytearray.__release_buffer__")) := by rw [typeLookup_type, builtinLookup_eq_fast]; kernel_rfl
theorem noInit : Builtin.Bytes.bindOptional "bytearray.__init__" "bytearray" ["source", "encoding", "errors"] [] [] = pure [none, none, none] := by kernel_rfl
end BF
set_option maxRecDepth 1000000 in
set_option maxHeartbeats 4000000 in
theorem owner_new : ("bytearray.__new__".splitOn ".__new__").headD "" = "bytearray" := by simp +decide [String.splitOn, String.splitOnAux]

section
variable {prog : Program} {w : World} {A : Around} {s : Shared}
theorem codeC_stack {id : String} {args : Args} {b : Builtin} {k : List (Code × Pos) → Sem Fin} {R : Flow → Shared → Prop} (hb : entryFor table id = some b) (hk : b args = stack >>= k)
    (h : ∀ p st, wpC (model prog w) (A.under (.builtin id args)) (k ((.builtin id args, p) :: st)) (finC (model prog w) A R) s) : codeC (model prog w) A (.builtin id args) R s := fun Γ p hc hΓ hcl => by
  rw [wpCode_iff_wp, hc]
  have hden : (model prog w).den (.builtin id args) = stack >>= k := by
    show (match entryFor table id with | some b => b args | none => unsupported ((withoutEnding? id "#data").getD id)) = _
    rw [hb]; exact hk
  rw [hden, Sem.wp_bind']
  show Sem.wp _ Γ (k ((Γ.code, p) :: Γ.below)) _ _ p s
  have h0 := h p Γ.below Γ p (hc ▸ hΓ.in) hcl
  rw [← hc] at h0
  refine Sem.wp_mono _ Γ _ (fun fin p' s' h' => ?_) (fun _ _ _ x => x.elim) p s h0
  cases fin with
  | done f => exact h'
  | again c' => exact ⟨h'.1, h'.2.2 (Γ.goto c') p' rfl (hΓ.goto c') (hcl.goto h'.2.1)⟩

theorem codeC_entry {id : String} {args : Args} {b : Builtin} {R : Flow → Shared → Prop} (hb : entryFor table id = some b)
    (h : wpC (model prog w) (A.under (.builtin id args)) (b args) (finC (model prog w) A R) s) : codeC (model prog w) A (.builtin id args) R s := by
  refine codeC_of_tree ?_
  show wpC _ _ (match entryFor table id with | some b => b args | none => unsupported ((withoutEnding? id "#data").getD id)) _ s
  rw [hb]
  exact h

theorem newC_bytearray {Q : Value → Shared → Prop} (h : Q (.ref s.heap.objs.size) { s with heap := s.heap.push (baObj #[]) }) :
    wpC (model prog w) A (call (.builtin "bytearray.__new__") [.type "bytearray"]) Q s := by
  refine wpC_call (codeC_of_tree ?_)
  show wpC _ A.in1 (do checkBuiltinCall "bytearray.__new__" ⟨[.type "bytearray"], []⟩; again (.builtin "bytearray.__new__" ⟨[.type "bytearray"], []⟩)) _ s
  refine wpC_bind (wpC_eq BF.newCall (wpC_pure (wpC_pure ⟨plainId_quiet BF.plain_new _, BF.ok_new, codeC_stack BF.entry_new rfl fun p st => wpC_of_any ?_⟩)))
  rw [Around.under_plainId BF.plain_new _]
  have hsub := PySem.F.sub_bytearray_bytearray
  have hown := owner_new
  obtain ⟨hp, g, d, tk, os⟩ := s
  simp only [hown]
  wp_walk
  exact h
theorem any_ownRelease {M : Model} {X : Addr} {b : Array UInt8} {E : Value → Shared → Prop} {Q : Bool → Shared → Prop} (ho : s.heap.get? X = some (baObj b)) (h : Q false s) :
    wpAny M A (Builtin.Bytes.ownRelease (.ref X)) Q E s := by
  have hT : s.TypeIs (.ref X) "bytearray" := ⟨_, ho, rfl⟩
  have key : ∀ x : String, x = "bytearray" → wpAny M A (isInstance (.ref X) (.type x)) (fun r s' => Q (!r) s') E s := fun x hx => by
    subst hx
    exact wpAny_isInstance hT PySem.F.sub_bytearray_bytearray h
  unfold Builtin.Bytes.ownRelease Builtin.Bytes.slotIsOwn
  refine wpAny_bind (wpAny_bind (wpAny_specialOf hT BF.look_release ?_))
  dsimp only
  split
  · rename_i hx
    exact absurd hx (by decide +kernel)
  · exact wpAny_mono (key _ (by decide +kernel)) (fun r s' hq => wpAny_pure hq) fun _ _ x => x

theorem initC_bytearray {X : Addr} {Q : Value → Shared → Prop} (ho : s.heap.get? X = some (baObj #[])) (h : Q .none { s with heap := s.heap.update X (Obj.mapBytearray fun _ => #[]) }) :
    wpC (model prog w) A (call (.builtin "bytearray.__init__") [.ref X]) Q s := by
  refine callC_builtin (T := "bytearray") BF.slot_init ⟨_, ho, rfl⟩ BF.entry_init (BF.args_init _) BF.ok_init ?_
  unfold Builtin.«bytearray.__init__»
  dsimp only
  refine wpC_seq (any_ownRelease ho ?_)
  refine wpC_ifn Bool.false_ne_true ?_
  refine wpC_bind (wpC_eq BF.noInit (wpC_pure ?_))
  dsimp only
  refine wpC_bind (wpC_eq (t' := pure ()) rfl (wpC_pure ?_))
  refine wpC_bind (wpC_eq (t' := pure ()) rfl (wpC_pure ?_))
  refine wpC_bind (wpC_lent ho ?_)
  refine wpC_ifn Bool.false_ne_true ?_
  refine wpC_seq (any_write ho (Nat.zero_le _) ?_)
  exact wpC_pure ⟨_, rfl, h⟩

/-- bytearray() -/
theorem callC_bytearray {Q : Value → Shared → Prop} (h : Q (.ref s.heap.objs.size) { s with heap := (s.heap.push (baObj #[])).update s.heap.objs.size (Obj.mapBytearray fun _ => #[]) }) :
    wpC (model prog w) A (call (.type "bytearray") []) Q s := by
  have ft := BF.called
  refine wpC_call (codeC_of_tree ?_)
  show wpC _ _ (callAny (.type "bytearray") _) _ _
  refine wpC_pure ⟨Code.quiet_builtin _ (by decide +kernel), BF.ok_type, codeC_entry F.entry_type_call ?_⟩
  rw [Around.under_plain (weight_type_call_type "bytearray" [] []) (units_type_call_type "bytearray" [] [])]
  delta Builtin.«type.__call__»
  refine wpC_ifn (by rw [ft.notType]; exact Bool.false_ne_true) ?_
  refine wpC_ifn (by rw [ft.canCreate]; exact Bool.false_ne_true) ?_
  refine wpC_bind (wpC_eq BF.typeCall (wpC_pure ?_))
  refine wpC_bind (wpC_eq BF.mro_ba (wpC_pure ?_))
  refine wpC_ifn Bool.false_ne_true ?_
  refine wpC_bind (wpC_eq ft.made (wpC_pure ?_))
  refine wpC_bind (wpC_pure ?_)
  refine wpC_bind (wpC_holding (newC_bytearray ?_))
  have hX : (s.heap.push (baObj #[])).get? s.heap.objs.size = some (baObj #[]) := Heap.get?_push_size _ rfl
  refine wpC_seq (wpAny_isInstance ⟨_, hX, rfl⟩ PySem.F.sub_bytearray_bytearray ?_)
  refine wpC_ifn Bool.false_ne_true ?_
  refine wpC_bind (wpC_holding ?_)
  refine wpC_seq (wpAny_specialOf ⟨_, hX, rfl⟩ BF.slot_init.lookup ?_)
  refine wpC_holding (wpC_bind (wpC_eq (BF.slot_init.bind _) (wpC_pure ?_)))
  refine wpC_bind (initC_bytearray hX ?_)
  refine wpC_pure ?_
  refine wpC_ifn Bool.false_ne_true ?_
  exact wpC_pure h

/-- in the ledger's words -/
theorem bytearrayN {h₀ : Heap} {L : Addr} {m : Str → Option Value} {news : List (Addr × Obj)} {Q : Value → Shared → Prop} (F : Fr h₀ L s.heap m) (N : News h₀ L s.heap news)
    (h : ∀ X h', Fr h₀ L h' m → News h₀ L h' ((X, baObj #[]) :: news) → (∀ p ∈ news, p.1 < X) → Q (.ref X) { s with heap := h' }) : wpC (model prog w) A (call (.type "bytearray") []) Q s := by
  refine callC_bytearray ?_
  have F1 := F.push (baObj #[])
  have N1 := N.push F (baObj #[])
  have lt : ∀ p ∈ news, p.1 < s.heap.objs.size := fun p hp => Heap.lt_size (N p hp).1
  obtain ⟨F2, N2⟩ := news_upd (pre := []) (f := Obj.mapBytearray fun _ => #[]) F1 N1 (fun _ hp => nomatch hp) (fun p hp => Nat.ne_of_lt (lt p hp)) rfl rfl
  exact h _ _ F2 N2 lt
theorem appendN {h₀ : Heap} {L X : Addr} {m : Str → Option Value} {news news' : List (Addr × Obj)} {b : Array UInt8} {i : Int} {t : Tok} {Q : Value → Shared → Prop} (F : Fr h₀ L s.heap m) (N : News h₀ L s.heap news)
    (U : Upd X (baObj b) (baObj (b.push i.toNat.toUInt8)) news news') (h0 : 0 ≤ i) (h1 : i < 256) (hz : b.size < 16777216)
    (h : ∀ h', Fr h₀ L h' m → News h₀ L h' news' → Q .none { s with heap := h' }) : wpC (model prog w) A (call (.builtin "bytearray.append") [.ref X, .int i t]) Q s := by
  obtain ⟨pre, post, rfl, rfl, a, b'⟩ := U.split
  refine callC_append (N _ (List.mem_append_right _ (.head _))).1 h0 h1 hz ?_
  obtain ⟨F2, N2⟩ := news_upd (f := Obj.mapBytearray (·.push i.toNat.toUInt8)) F N a b' rfl rfl
  exact h _ F2 N2
theorem extendN {h₀ : Heap} {L X : Addr} {m : Str → Option Value} {news news' : List (Addr × Obj)} {b c : Array UInt8} {t : Tok} {Q : Value → Shared → Prop} (F : Fr h₀ L s.heap m) (N : News h₀ L s.heap news)
    (U : Upd X (baObj b) (baObj (b ++ c)) news news') (hz : b.size + c.size ≤ 16777216)
    (h : ∀ h', Fr h₀ L h' m → News h₀ L h' news' → Q .none { s with heap := h' }) : wpC (model prog w) A (call (.builtin "bytearray.extend") [.ref X, .bytes c t]) Q s := by
  obtain ⟨pre, post, rfl, rfl, a, b'⟩ := U.split
  refine callC_extend (N _ (List.mem_append_right _ (.head _))).1 hz ?_
  obtain ⟨F2, N2⟩ := news_upd (f := Obj.mapBytearray (· ++ c)) F N a b' rfl rfl
  exact h _ F2 N2
end
end Mine
end
section
open PySem PySem.W PyProof.Rows
namespace Mine
set_option maxRecDepth 100000
namespace BF
theorem lk_bytes : typeLookup (.type "bytearray") "__bytes__" = pure none := by rw [typeLookup_type, builtinLookup_eq_fast]; kernel_rfl
theorem lk_index : typeLookup (.type "bytearray") "__index__" = pure none := by rw [typeLookup_type, builtinLookup_eq_fast]; kernel_rfl
theorem look_buffer : typeLookup (.type "bytearray") "__buffer__" = pure (some (.builtin "bytearray.__buffer__")) := by rw [typeLookup_type, builtinLookup_eq_fast]; kernel_rfl
end BF
section
variable {M : Model} {prog : Program} {w : World} {A : Around} {s : Shared} {X : Addr} {b : Array UInt8} {E : Value → Shared → Prop}
theorem any_if {α : Type} {c : Prop} [Decidable c] {x y : Sem α} {Q : α → Shared → Prop} (hc : c) (h : wpAny M A x Q E s) : wpAny M A (if c then x else y) Q E s := by rw [if_pos hc]; exact h
theorem any_ifn {α : Type} {c : Prop} [Decidable c] {x y : Sem α} {Q : α → Shared → Prop} (hc : ¬ c) (h : wpAny M A y Q E s) : wpAny M A (if c then x else y) Q E s := by rw [if_neg hc]; exact h
theorem any_ownBuffer {Q : Bool → Shared → Prop} (ho : s.heap.get? X = some (baObj b)) (h : Q true s) : wpAny M A (Builtin.Bytes.slotIsOwn (.ref X) "__buffer__") Q E s := by
  have hT : s.TypeIs (.ref X) "bytearray" := ⟨_, ho, rfl⟩
  have key : ∀ x : String, x = "bytearray" → wpAny M A (isInstance (.ref X) (.type x)) Q E s := fun x hx => by
    subst hx
    exact wpAny_isInstance hT PySem.F.sub_bytearray_bytearray h
  unfold Builtin.Bytes.slotIsOwn
  refine wpAny_bind (wpAny_specialOf hT BF.look_buffer ?_)
  dsimp only
  split
  · rename_i hx
    exact absurd hx (by decide +kernel)
  · exact key _ (by decide +kernel)
theorem any_buffer {id : String} {full : Bool} {Q : Option (Array UInt8) → Shared → Prop} (ho : s.heap.get? X = some (baObj b)) (h : Q (some b) s) : wpAny M A (Builtin.Bytes.buffer? id (.ref X) full) Q E s := by
  have hT : s.TypeIs (.ref X) "bytearray" := ⟨_, ho, rfl⟩
  unfold Builtin.Bytes.buffer?
  refine wpAny_bind (wpAny_specialOf hT BF.look_buffer ?_)
  refine wpAny_bind (any_ownBuffer ho ?_)
  refine any_ifn (by decide) ?_
  refine wpAny_bind (wpAny_specialOf hT BF.look_buffer ?_)
  refine wpAny_bind (any_ownRelease ho ?_)
  refine any_ifn Bool.false_ne_true ?_
  exact wpAny_bind (any_payload ho (wpAny_pure h))

theorem meets_bytes : Meets (Builtin.«bytes.__new__» ⟨[.type "bytes", .ref X], []⟩) (fun _ R s => s.heap.get? X = some (baObj b) ∧ b.size ≤ sizeLine ∧ R (.ok (.ret (.bytes b s.toks))) { s with toks := s.toks + 1 }) := by
  refine Meets.of_wp fun prog w A R s hs => ?_
  obtain ⟨ho, hz, h⟩ := hs
  have hT : s.TypeIs (.ref X) "bytearray" := ⟨_, ho, rfl⟩
  unfold Builtin.«bytes.__new__»
  refine wpAny_bind (wpAny_of_eq (a := true) rfl ?_)
  refine any_ifn (by decide) ?_
  refine wpAny_bind (wpAny_of_eq F.bm_sub ?_)
  refine any_ifn (by decide) ?_
  refine wpAny_bind (wpAny_of_eq (F.bm_bind _) ?_)
  refine wpAny_bind (wpAny_of_eq (a := ()) rfl ?_)
  refine wpAny_bind (wpAny_of_eq (a := ()) rfl ?_)
  refine any_ifn (by decide) ?_
  refine wpAny_bind (wpAny_specialOf hT BF.lk_bytes ?_)
  refine wpAny_bind (wpAny_bind ?_)
  show wpAny _ _ (load X >>= _) _ _ _
  refine wpAny_bind (wpAny_load ho ?_)
  refine wpAny_pure (wpAny_pure ?_)
  refine any_ifn (by decide) ?_
  refine wpAny_bind (wpAny_specialOf hT BF.lk_index ?_)
  refine any_if rfl ?_
  refine wpAny_bind (any_buffer ho ?_)
  refine wpAny_bind (wpAny_rule ?_)
  refine wpAny_bind (wpAny_mkBytes ?_ hz)
  refine any_if (by decide) ?_
  exact wpAny_bind (wpAny_pure (wpAny_pure ⟨_, rfl, h⟩))

/-- bytes(x) of a bytearray -/
theorem bytesN {Q : Value → Shared → Prop} (ho : s.heap.get? X = some (baObj b)) (hz : b.size ≤ 16777216) (h : ∀ t k, Q (.bytes b t) { s with toks := k }) :
    wpAny (model prog w) A (call (.type "bytes") [.ref X]) Q E s :=
  callType_new F.bm_called (by decide) (F.bm_typeCall _) (F.bm_newCall _) (fun obj => F.args_object_init_2 obj _) F.bm_entry (meets_bytes (b := b)) ⟨ho, by rw [sizeLine_eq]; exact hz, typeIs_bytes _ _ _, h _ _⟩
end
end Mine
end
section
open PySem PySem.W PyProof.Rows
namespace Mine
set_option maxRecDepth 100000
namespace BF
theorem plainAttrs_ba : PlainAttrs "bytearray" :=
  ⟨⟨"bytearray.__getattribute__", by rw [typeLookup_type, builtinLookup_eq_fast]; kernel_rfl, by decide +kernel⟩, by rw [typeLookup_type, builtinLookup_eq_fast]; kernel_rfl⟩
theorem type_append : typeOf (.builtin "bytearray.append") = pure (.type "method_descriptor") := by show builtinType _ = _; rw [builtinType_eq_fast]; kernel_rfl
theorem type_extend : typeOf (.builtin "bytearray.extend") = pure (.type "method_descriptor") := by show builtinType _ = _; rw [builtinType_eq_fast]; kernel_rfl
theorem slot_find : Slot "bytes" "find" "bytes.find" :=
  .of (owner := "bytes") (n := "find") (by rw [typeLookup_type, builtinLookup_eq_fast]; kernel_rfl) (by decide +kernel) (by decide +kernel) (by decide +kernel)
    (by first | exact .inl (by decide +kernel) | exact .inr (by decide +kernel)) (by rw [isSubtype_type]; kernel_rfl)
theorem type_find : typeOf (.builtin "bytes.find") = pure (.type "method_descriptor") := by show builtinType _ = _; rw [builtinType_eq_fast]; kernel_rfl
theorem entry_find : entryFor table "bytes.find" = some Builtin.«bytes.find» := entryFor_of_tree (by kernel_rfl)
theorem args_find (a b : Value) : argsOk "bytes.find" ⟨[a, b], []⟩ := by unfold argsOk; kernel_rfl
theorem slot_join : Slot "bytes" "join" "bytes.join" :=
  .of (owner := "bytes") (n := "join") (by rw [typeLookup_type, builtinLookup_eq_fast]; kernel_rfl) (by decide +kernel) (by decide +kernel) (by decide +kernel)
    (by first | exact .inl (by decide +kernel) | exact .inr (by decide +kernel)) (by rw [isSubtype_type]; kernel_rfl)
theorem type_join : typeOf (.builtin "bytes.join") = pure (.type "method_descriptor") := by show builtinType _ = _; rw [builtinType_eq_fast]; kernel_rfl
theorem entry_join : entryFor table "bytes.join" = some Builtin.«bytes.join» := entryFor_of_tree (by kernel_rfl)
theorem args_join (a b : Value) : argsOk "bytes.join" ⟨[a, b], []⟩ := by unfold argsOk; kernel_rfl
end BF
section
variable {M : Model} {prog : Program} {w : World} {A : Around} {s : Shared} {X : Addr} {b c : Array UInt8} {E : Value → Shared → Prop} {t u : Tok}
theorem method_ba {pl : Sem Bool} {name : Str} {id : String} {Q : Value × List Value → Shared → Prop} (ho : s.heap.get? X = some (baObj b)) (slot : Slot "bytearray" name id)
    (ty : typeOf (.builtin id) = pure (.type "method_descriptor")) (h : Q (.builtin id, [.ref X]) s) : wpAny M A (getMethod (.ref X) name pl) Q E s :=
  getMethod_builtin ⟨_, ho, rfl⟩ BF.plainAttrs_ba slot ty (fun a e => by cases e; exact ⟨_, ho, rfl⟩) h
theorem method_append {pl : Sem Bool} {Q : Value × List Value → Shared → Prop} (ho : s.heap.get? X = some (baObj b)) (h : Q (.builtin "bytearray.append", [.ref X]) s) : wpAny M A (getMethod (.ref X) "append" pl) Q E s :=
  method_ba ho BF.slot_append BF.type_append h
theorem method_extend {pl : Sem Bool} {Q : Value × List Value → Shared → Prop} (ho : s.heap.get? X = some (baObj b)) (h : Q (.builtin "bytearray.extend", [.ref X]) s) : wpAny M A (getMethod (.ref X) "extend" pl) Q E s :=
  method_ba ho BF.slot_extend BF.type_extend h
theorem method_bytes {pl : Sem Bool} {name : Str} {id : String} {Q : Value × List Value → Shared → Prop} (slot : Slot "bytes" name id)
    (ty : typeOf (.builtin id) = pure (.type "method_descriptor")) (h : Q (.builtin id, [.bytes b t]) s) : wpAny M A (getMethod (.bytes b t) name pl) Q E s :=
  getMethod_builtin (typeIs_bytes _ _ _) FB.plainAttrs_bytes slot ty (fun _ e => nomatch e) h
theorem method_find {pl : Sem Bool} {Q : Value × List Value → Shared → Prop} (h : Q (.builtin "bytes.find", [.bytes b t]) s) : wpAny M A (getMethod (.bytes b t) "find" pl) Q E s :=
  method_bytes BF.slot_find BF.type_find h
theorem method_join {pl : Sem Bool} {Q : Value × List Value → Shared → Prop} (h : Q (.builtin "bytes.join", [.bytes b t]) s) : wpAny M A (getMethod (.bytes b t) "join" pl) Q E s :=
  method_bytes BF.slot_join BF.type_join h

/-- b.find(c): not there -/
theorem gives_find (hf : Builtin.Bytes.find? b c 0 b.size = none) : Gives (Builtin.«bytes.find» ⟨[.bytes b t, .bytes c u], []⟩) (.int (-1)) := by
  refine .of_wp fun M A E s Q hq => ?_
  show wpAny M A (Builtin.Bytes.searchM .bytes "find" false false ⟨[.bytes b t, .bytes c u], []⟩) _ E s
  unfold Builtin.Bytes.searchM Builtin.Bytes.searchArgs
  refine wpAny_bind (wpAny_bind (wpAny_of_eq (a := (Value.bytes b t, [Value.bytes c u])) rfl ?_))
  refine wpAny_bind (wpAny_of_eq (a := none) rfl ?_)
  refine wpAny_bind (wpAny_of_eq (a := none) rfl ?_)
  refine wpAny_bind (wpAny_of_eq KBy.buffer_eq ?_)
  refine wpAny_bind (wpAny_pure ?_)
  refine wpAny_bind (wpAny_of_eq (a := b) rfl ?_)
  refine wpAny_pure ?_
  have e : (if ((Builtin.Bytes.window b.size none none).2 - (Builtin.Bytes.window b.size none none).1 < (c.size : Int)) then none else some ((Builtin.Bytes.window b.size none none).1.toNat, (Builtin.Bytes.window b.size none none).2.toNat)).bind
      (fun (lo, hi) => if false = true then Builtin.Bytes.rfind? b c lo hi else Builtin.Bytes.find? b c lo hi) = none := by
    have w : Builtin.Bytes.window b.size none none = (0, (b.size : Int)) := by
      have hb : ¬ ((b.size : Int) < 0) := by omega
      simp only [Builtin.Bytes.window, Option.getD_none, if_neg hb, Int.lt_irrefl, if_false, Int.min_self]
    rw [w]
    split
    · rfl
    · exact hf
  dsimp only
  split
  · rename_i i hi
    exact absurd (hi.symm.trans e) (fun z => nomatch z)
  · refine wpAny_bind (wpAny_rule ?_)
    exact wpAny_bind (wpAny_mkInt (wpAny_pure ⟨_, rfl, hq⟩))
theorem call_find {Q : Value → Shared → Prop} (hf : Builtin.Bytes.find? b c 0 b.size = none) (h : Q (.int (-1) s.toks) { s with toks := s.toks + 1 }) :
    wpAny (model prog w) A (call (.builtin "bytes.find") [.bytes b t, .bytes c u]) Q E s :=
  call_gives BF.slot_find (typeIs_bytes _ _ _) BF.entry_find (BF.args_find _ _) (gives_find hf) h

theorem gives_contains {i : Int} (h0 : 0 ≤ i) (h1 : i < 256) : Gives (Builtin.«bytes.__contains__» ⟨[.bytes b t, .int i u], []⟩) (.val (.bool (b.contains i.toNat.toUInt8))) := by
  refine .of_wp fun M A E s Q hq => ?_
  unfold Builtin.«bytes.__contains__»
  refine wpAny_bind (wpAny_of_eq (a := (Value.bytes b t, [Value.int i u])) rfl ?_)
  refine wpAny_bind ?_
  unfold Builtin.Bytes.containsIn
  refine wpAny_bind (wpAny_of_eq (a := Except.ok i) rfl ?_)
  refine wpAny_bind (wpAny_of_eq KBy.buffer_eq ?_)
  have hno : (decide (i < 0) || decide (i ≥ 256)) = false := by
    rw [decide_eq_false (by omega), decide_eq_false (by omega)]; rfl
  refine any_ifn (by rw [hno]; exact Bool.false_ne_true) ?_
  exact wpAny_pure (wpAny_pure ⟨_, rfl, hq⟩)
theorem in_bytes {i : Int} {Q : Value → Shared → Prop} (h0 : 0 ≤ i) (h1 : i < 256) (h : Q (.bool (b.contains i.toNat.toUInt8)) s) : wpAny (model prog w) A (compareOp .In (.int i u) (.bytes b t)) Q E s :=
  in_gives (typeIs_bytes _ _ _) PySem.W.FB.slot_bytes_contains PySem.W.FB.entry_bytes_contains (PySem.W.FB.args_bytes_contains_2 _ _) (gives_contains h0 h1) h
end
end Mine
end
section
open PySem PySem.W PyProof.Rows PySem.Calls
namespace Mine
set_option maxRecDepth 100000

section
variable {prog : Program} {w : World} {A A₀ : Around} {s : Shared} {R : Flow → Shared → Prop}

theorem codeC_func {body : List Stmt} {env : Env}
    (h : wpC (model prog w) (A.deeper env) (execs body env) (fun f s' => R (.ret (match f with | .ret v => v | _ => .none)) s') s) : codeC (model prog w) A (.func body env) R s := by
  refine codeC_of_tree ?_
  show wpC _ (A.deeper env) (do point; match ← (execs body env).onRaise (leaving env) with | .ret v => ret v | _ => ret .none) _ _
  refine wpC_seq (wpAny_point (wpC_bind (wpC_onRaise (wpC_mono h fun f s' h' => ?_))))
  cases f <;> exact wpC_pure h'

theorem codeC_function {a : Addr} {args : Args} {o : Obj} {fd : FuncData} {body : List Stmt} (hroom : A.depth < recursionLimit) (ho : s.heap.get? a = some o) (hd : o.data = .func fd)
    (hco : fd.scope.isCoroutine = false) (hgen : fd.scope.isGenerator = false) (hbody : fd.body = .stmts body) (hcd : s.heap.CodeRec fd.code fd.qualname)
    (h : wpAny (model prog w) A.in1 (bindArgs fd args) (fun binds s₁ =>
      wpAny (model prog w) A.in1 (newFunctionEnv fd.scope fd.globals fd.closure binds (fd.qualname ++ ".<locals>.") (some a) fd.code none fd.builtins)
        (fun env s₂ => s₂.heap.NoLimit ∧ codeC (model prog w) A (.func body env) R s₂) (fun _ _ => False) s₁) (fun _ _ => False) s) :
    codeC (model prog w) A (.call (.ref a) args) R s := by
  refine codeC_of_tree (wpC_of_any ?_)
  show wpAny _ A.in1 (callAny (.ref a) args) _ _ s
  simp only [callAny]
  refine wpAny_bind (wpAny_load ho ?_)
  obtain ⟨c, oc, vs, tq, hc, hoc, hdc, hq⟩ := hcd
  simp only [hd, callFunction, hco, hgen, hbody, hc]
  rw [hc] at h
  refine wpAny_bind (m := field (.ref c) 1) (wpAny_field hoc hdc hq (wpAny_bind (wpAny_pure ?_)))
  exact wpAny_bind (wpAny_mono h (fun binds s₁ h₁ => wpAny_bind (wpAny_mono h₁ (fun env s₂ h₂ => wpAny_bind (wpAny_enterFrame h₂.1 hroom
    (wpAny_pure ⟨rfl, rfl, h₂.2⟩))) fun _ _ x => x)) fun _ _ x => x)

variable {base h₀ : Heap} {outer : List Env} {L : Addr} {m : Str → Option Value} {env : Env} {news : List (Addr × Obj)}
  {name qual : Str} {params : Arguments} {body : List Stmt} {scope : Scope} {cl : List (Str × Addr)} {dV kV doc pm cdv ct : Value} {an : Option Addr} {fo : Obj} {f : Addr} {args : Args} {binds : List (Str × Value)}

/-- a def without cells of its own is called -/
theorem defC_plain (B : Below A₀ base outer h₀) (F : Fr h₀ L s.heap m) (N : News h₀ L s.heap news) (hlim : h₀.NoLimit) (hA : A.frames = some (env :: outer)) (hf : env.frame = some L) (hke : env.scope.kind = .function)
    (ho : s.heap.get? f = some fo) (hd : fo.data = .func (fnX name qual params body scope cl dV kV doc pm an cdv ct)) (hcd : s.heap.CodeRec cdv qual) (hroom : A.depth < recursionLimit)
    (hbind : BindsTo s (fnX name qual params body scope cl dV kV doc pm an cdv ct) args binds) (hloc : ∀ y ∈ binds, scope.names.lookup y.1 = some .local)
    (h : ∀ g L' h₁, Fr h₀ L g m → Fr g L' h₁ (fun y => binds.reverse.lookup y) → News g L' h₁ news → Below A base (env :: outer) g → h₀.StaysIn g → (∀ p ∈ news, p.1 < L') →
      wpC (model prog w) (A.deeper (envX qual scope L' f cdv cl)) (execs body (envX qual scope L' f cdv cl))
        (fun fl s' => LeaveK h₀ L m g (resC R) (match fl with | .ret v => v | _ => .none) s') { s with heap := h₁, toks := s.toks + binds.length })
    (hcell : ∀ x ∈ scope.names, x.2 ≠ .cell) (hco : scope.isCoroutine = false := by rfl) (hgen : scope.isGenerator = false := by rfl) (hk : scope.kind = .function := by rfl) : codeC (model prog w) A (.call (.ref f) args) R s := by
  obtain ⟨FG, BG, st, lv⟩ := groundX (R := resC R) B F N hA hf hke
  refine codeC_function (fd := fnX name qual params body scope cl dV kV doc pm an cdv ct) hroom ho hd hco hgen rfl hcd (hbind _ _ _ _ ?_)
  refine wpAny_newFunctionEnv hcell hloc (fun h₁ hns hsb => ⟨(hlim.keeps F.keep).fresh _ hsb, codeC_func ?_⟩) hk
  have hk₁ : ∀ b o, s.heap.get? b = some o → h₁.get? b = some o := fun b o e => hsb.extBut b o (Nat.ne_of_lt (Heap.lt_size e)) (Heap.get?_push_of_some _ e)
  refine wpC_mono (h _ s.heap.objs.size h₁ FG ⟨hns, fun b o e => hk₁ b o (of_hideAll _ e), Nat.le_of_eq (hideAll_size _ _)⟩
    (fun p hp => ⟨hk₁ _ _ (N p hp).1, Nat.ne_of_lt (Heap.lt_size (N p hp).1), hideAll_none _ (List.mem_map_of_mem hp)⟩) BG st (fun p hp => Heap.lt_size (N p hp).1)) fun fl s' hl => ?_
  exact lv _ _ hl

/-- a def with cells of its own, no closure -/
theorem defC_cells (B : Below A₀ base outer h₀) (F : Fr h₀ L s.heap m) (N : News h₀ L s.heap news) (hlim : h₀.NoLimit) (hA : A.frames = some (env :: outer)) (hf : env.frame = some L) (hke : env.scope.kind = .function)
    (ho : s.heap.get? f = some fo) (hd : fo.data = .func (fnX name qual params body scope [] dV kV doc pm an cdv ct)) (hcd : s.heap.CodeRec cdv qual) (hroom : A.depth < recursionLimit)
    (hbind : BindsTo s (fnX name qual params body scope [] dV kV doc pm an cdv ct) args binds)
    (hkind : (binds.all fun y => scope.names.lookup y.1 == some .local || scope.names.lookup y.1 == some .cell) = true)
    (hnd : ((cellsFrom 0 scope.names []).map (·.1)).Nodup)
    (h : ∀ g L' h₁ tk cells, Fr h₀ L g m → Fr g L' h₁ (bindL (envOfC qual scope L' f cdv).kindOf binds fun _ => none) → News g L' h₁ (cells ++ news) →
      CellsAre (bindC (envOfC qual scope L' f cdv).kindOf binds fun _ => none) (cellsFrom (L' + 1) scope.names []) cells → Below A base (env :: outer) g → h₀.StaysIn g → (∀ p ∈ news, p.1 < L') →
      wpC (model prog w) (A.deeper (envOfC qual scope L' f cdv)) (execs body (envOfC qual scope L' f cdv))
        (fun fl s' => LeaveK h₀ L m g (resC R) (match fl with | .ret v => v | _ => .none) s') { s with heap := h₁, toks := tk })
    (hco : scope.isCoroutine = false := by rfl) (hgen : scope.isGenerator = false := by rfl) (hk : scope.kind = .function := by rfl) : codeC (model prog w) A (.call (.ref f) args) R s := by
  obtain ⟨FG, BG, st, lv⟩ := groundX (R := resC R) B F N hA hf hke
  refine codeC_function (fd := fnX name qual params body scope [] dV kV doc pm an cdv ct) hroom ho hd hco hgen rfl hcd (hbind _ _ _ _ ?_)
  refine wpAny_newFunctionEnv_cells hk (kindsX hkind _) fun env' he s' x => ?_
  subst he
  refine ⟨(hlim.keeps F.keep).keeps x.toInCall.keep, codeC_func ?_⟩
  obtain ⟨h₁, tk, rfl, _⟩ := x.done
  have hk₁ := x.toInCall.keep
  obtain ⟨cells, NC, Y⟩ := Cl.news (h₀ := s.heap) (Nat.le_refl _) fun n c hm => ⟨x.cell n c (lookup_of_mem_nodup (cellsFrom_names scope.names 0 (s.heap.objs.size + 1) [] [] rfl ▸ hnd) hm), x.above n c hm⟩
  refine wpC_mono (h _ s.heap.objs.size h₁ tk cells FG ⟨x.toInCall.ns, fun b o e => hk₁ b o (of_hideAll _ e), Nat.le_of_eq (hideAll_size _ _)⟩ (fun p hp => ?_) Y BG st (fun p hp => Heap.lt_size (N p hp).1)) fun fl s' hl => lv _ _ hl
  rcases List.mem_append.mp hp with hp | hp
  · refine ⟨(NC p hp).1, (NC p hp).2.1, ?_⟩
    cases q : (hideAll s.heap (news.map (·.1))).get? p.1 with
    | none => rfl
    | some o => have := of_hideAll _ q; rw [(NC p hp).2.2] at this; cases this
  · exact ⟨hk₁ _ _ (N p hp).1, Nat.ne_of_lt (Heap.lt_size (N p hp).1), hideAll_none _ (List.mem_map_of_mem hp)⟩
end
end Mine
end
section
open PySem PySem.W PyProof.Rows PySem.Calls
namespace Mine
set_option maxRecDepth 100000

/-- what a code object holds, with its table P -/
def OcHd (o : Obj) (c P : Addr) (qual : Str) : Prop :=
  ∃ vs file tf flags tg inF text tt t, o.cls = .type "code" ∧ o.data = .fields vs ∧ vs[11]? = some (.ref P) ∧ vs.getD 11 .none = .ref P ∧ vs.getD 18 .none = .str file tf ∧
    vs.getD 7 .none = .int flags tg ∧ vs.getD 9 .none = .bool inF ∧ vs.getD 10 .none = .int text tt ∧ c ≠ P ∧ vs[1]? = some (.str qual t)
theorem OcHd.code {o : Obj} {h : Heap} {c P : Addr} {qual : Str} (x : OcHd o c P qual) (e : h.get? c = some o) : CodeHd h c P := by
  obtain ⟨vs, file, tf, flags, tg, inF, text, tt, _, a1, a2, a3, a4, a5, a6, a7, a8, a9, _⟩ := x
  exact ⟨o, vs, file, tf, flags, tg, inF, text, tt, e, a1, a2, a3, a4, a5, a6, a7, a8, a9⟩
theorem OcHd.rec {o : Obj} {h : Heap} {c P : Addr} {qual : Str} (x : OcHd o c P qual) (e : h.get? c = some o) : h.CodeRec (.ref c) qual := by
  obtain ⟨vs, _, _, _, _, _, _, _, t, _, a2, _, _, _, _, _, _, _, b⟩ := x
  exact ⟨c, o, vs, t, rfl, e, a2, b⟩

section
variable {M : Model} {A : Around} {E : Value → Shared → Prop} {s : Shared} {name qual : Str} {params : Arguments} {body : List Stmt} {scope : Scope} {env : Env} {c P : Addr} {ps : Array Value} {pos : Pos} {firstLine : Nat} {mg : Str → Option Value}
  {clos : List (Str × Addr)} {Q : Value → Shared → Prop}
theorem makeT (hcl : closureFor scope env = pure clos) (hne : clos.isEmpty = false) (hge0 : env.globals = mainGlobals) (hg : s.heap.Ns mainGlobals mg) (hcode : env.code = .ref c) (C : CodeHd s.heap c P) (hP : s.heap.get? P = some (tabObj ps)) (ht : TriplesOk ps.toList)
    (hnf : codeAmong pos ps.toList = none) (hgP : mainGlobals ≠ P) (hb : s.heap.BuiltinsAt mg P)
    (h : ∀ c' P' oc ctv doc h' tk, Heap.ExtBut P s.heap h' → s.heap.objs.size ≤ c' → s.heap.objs.size ≤ P' → h'.get? c' = some oc → OcHd oc c' P' qual → h'.get? P' = some (tabObj #[]) → h'.get? P = some (tabObj (ps ++ #[rawInt pos.line, rawInt pos.col, .ref c'])) →
      Q (.ref h'.objs.size) { s with heap := h'.push (fnMade name qual params body scope clos doc ((mg "__name__").getD .none) c' ctv), toks := tk }) :
    wpAny M A (makeFunction name qual params (.stmts body) scope env [] [] [] pos firstLine) Q E s := by
  rw [makeFunction_eq]
  simp only [List.zip_nil_right, List.filterMap_nil, List.isEmpty_nil, if_true, pure_bind]
  obtain ⟨bm, ob, hbm, hne0, _, hneP, hbo, hcls, hdict, hdata⟩ := hb
  have grow : ∀ {o}, ∀ b x, s.heap.get? b = some x → (s.heap.push o).get? b = some x := fun b x e => Heap.get?_push_of_some _ e
  show wpAny M A (makeTail name qual params (.stmts body) scope env .none .none none pos firstLine) Q E s
  unfold makeTail
  rw [hcl, hge0]
  refine wpAny_bind (wpAny_pure ?_)
  simp only [hne, Bool.false_eq_true, if_false]
  refine wpAny_bind (wpAny_newTextTuple ?_)
  refine wpAny_bind (wpAny_functionCodeX hcode ((C.keeps grow).code (grow _ _ hP) ht) ((C.keeps grow).tab (grow _ _ hP)) hnf fun c' h' tk hx hge hlt _ hrec htb hnew => ?_)
  obtain ⟨P', hP', hcode', htab'⟩ := hnew
  obtain ⟨o, vs, file, tf, flags, tg, inF, text, tt, e1, a1, a2, a3, a4, a5, a6, a7, a8, a9⟩ := CodeHd.of hcode' htab'
  obtain ⟨c₂, oc, vs₂, t, e2, hoc, hd, hv⟩ := hrec
  cases e2
  rw [e1] at hoc; cases hoc
  rw [a2] at hd; cases hd
  have hsz : s.heap.objs.size ≤ (s.heap.push { cls := .type "tuple", data := .seq ((clos.mergeSort fun a b => a.1.cps.toList ≤ b.1.cps.toList).map (.ref ·.2)).toArray }).objs.size := by rw [Heap.size_push]; omega
  have hx' : Heap.ExtBut P s.heap h' := fun b x hb' e => hx b x hb' (grow b x e)
  refine wpAny_bind (wpAny_builtinsFor ((hg.push _).extBut hx hgP) hbm hne0 (hx' _ _ hneP hbo) hcls hdict hdata ?_)
  refine wpAny_bind (wpAny_nsGet ((hg.push _).extBut hx hgP) ?_)
  have fin := fun ctv doc tk' => h c' P' _ ctv doc h' tk' hx' (Nat.le_trans hsz hge) (Nat.le_trans hsz hP') e1 ⟨vs, file, tf, flags, tg, inF, text, tt, t, a1, a2, a3, a4, a5, a6, a7, a8, a9, hv⟩ htab'.2 htb.2
  cases hdoc : docOf body with
  | none => exact wpAny_bind (wpAny_pure (wpAny_newObj_type (fin _ .none tk) (by size_fits)))
  | some t' => exact wpAny_bind (wpAny_mkText (wpAny_newObj_type (fin _ _ _) (by size_fits)))
end

section
variable {M : Model} {A : Around} {E : Value → Shared → Prop} {s : Shared} {h₀ : Heap} {L a c P : Addr} {m mg mb : Str → Option Value} {cn : Str} {cs : Scope} {ccd : Value} {cl : List (Str × Addr)} {news : List (Addr × Obj)} {g : Obj → List (Addr × Obj)}
  {p : Program} {loose : List Str} {mean : ExcName → Option Value} {name qual : Str} {params : Arguments} {body : List Stmt} {scope : Scope} {ps : Array Value} {pos : Pos} {firstLine : Nat} {clos : List (Str × Addr)}
theorem topApart (F : Fr h₀ L s.heap m) (T : Top p loose mean mg mb h₀) (hP : s.heap.get? P = some (tabObj ps)) : mainGlobals ≠ P ∧ s.heap.BuiltinsAt mg P ∧ s.heap.Ns mainGlobals mg := by
  have hgs := T.g.keeps F.keep
  obtain ⟨bm, ob, b1, b2, b3, b4, b5, b6⟩ := T.bmain
  refine ⟨fun q => ?_, ⟨bm, ob, b1, b2, fun q => ?_, fun q => ?_, F.keep _ _ b3, b4, b5, b6⟩, hgs⟩
  · obtain ⟨o, es, ep, e, hd, _⟩ := hgs
    rw [q, hP] at e; cases e; cases hd
  · obtain ⟨o, es, ep, e, hd, _⟩ := T.g
    rw [q, e] at b3; cases b3; rw [hd] at b6; cases b6
  · have e := F.keep _ _ b3
    rw [q, hP] at e; cases e; cases b4

/-- a def within a def: its code is made -/
theorem nestP {Q : Value → Shared → Prop} (F : Fr h₀ L s.heap m) (N : News h₀ L s.heap news) (T : Top p loose mean mg mb h₀) (C : CodeHd s.heap c P) (hcd : ccd = .ref c) (U : UpdF P (tabObj ps) news g) (ht : TriplesOk ps.toList) (hnf : codeAmong pos ps.toList = none)
    (hcl : closureFor scope (envX cn cs L a ccd cl) = pure clos) (hne : clos.isEmpty = false)
    (h : ∀ f c' P' oc ctv doc h' tk, Fr h₀ L h' m →
      News h₀ L h' ((f, fnMade name qual params body scope clos doc ((mg "__name__").getD .none) c' ctv) :: (c', oc) :: (P', tabObj #[]) :: g (tabObj (ps ++ #[rawInt pos.line, rawInt pos.col, .ref c']))) →
      OcHd oc c' P' qual → (∀ q ∈ news, q.1 < c') → (∀ q ∈ news, q.1 < P') → c' < f → P' < f → c' ≠ P' → Q (.ref f) { s with heap := h', toks := tk }) :
    wpAny M A (makeFunction name qual params (.stmts body) scope (envX cn cs L a ccd cl) [] [] [] pos firstLine) Q E s := by
  obtain ⟨own, rest, rfl, hgr, h1, h2⟩ := U.split
  have hm := N (P, tabObj ps) (List.mem_append_right _ (.head _))
  obtain ⟨hgP, hb, hgs⟩ := topApart F T hm.1
  refine makeT (mg := mg) hcl hne rfl hgs hcd C hm.1 ht hnf hgP hb fun c' P' oc ctv doc h' tk hx hge hPge hoc hO htP htb => ?_
  have hLs : L < s.heap.objs.size := F.ns.lt
  have old : ∀ b o, h₀.get? b = some o → h'.get? b = some o := fun b o e => hx b o (fun q => by rw [q, hm.2.2] at e; cases e) (F.keep b o e)
  have fresh : ∀ b, s.heap.objs.size ≤ b → b ≠ L ∧ h₀.get? b = none := fun b hb => ⟨Nat.ne_of_gt (Nat.lt_of_lt_of_le hLs hb), Heap.get?_none_of_le (Nat.le_trans F.above (Nat.le_of_lt (Nat.lt_of_lt_of_le hLs hb)))⟩
  have hcP : c' ≠ P' := by obtain ⟨_, _, _, _, _, _, _, _, _, _, _, _, _, _, _, _, _, e, _⟩ := hO; exact e
  have hclt : c' < h'.objs.size := Heap.lt_size hoc
  have hPlt : P' < h'.objs.size := Heap.lt_size htP
  refine h h'.objs.size c' P' oc ctv doc _ tk ⟨(F.ns.extBut hx hm.2.1.symm).push _, fun b o e => Heap.get?_push_of_some _ (old b o e), F.above⟩ (fun q hq => ?_) hO
    (fun q hq => Nat.lt_of_lt_of_le (Heap.lt_size (N q hq).1) hge) (fun q hq => Nat.lt_of_lt_of_le (Heap.lt_size (N q hq).1) hPge) hclt hPlt hcP
  rcases List.mem_cons.mp hq with rfl | hq
  · exact ⟨Heap.get?_push_size _ rfl, fresh _ (Nat.le_trans hge (Nat.le_of_lt hclt))⟩
  rcases List.mem_cons.mp hq with rfl | hq
  · exact ⟨Heap.get?_push_of_some _ hoc, fresh _ hge⟩
  rcases List.mem_cons.mp hq with rfl | hq
  · exact ⟨Heap.get?_push_of_some _ htP, fresh _ hPge⟩
  rw [hgr] at hq
  rcases List.mem_append.mp hq with hq | hq
  · have n := N q (List.mem_append_left _ hq)
    exact ⟨Heap.get?_push_of_some _ (hx _ _ (h1 q hq) n.1), n.2⟩
  rcases List.mem_cons.mp hq with rfl | hq
  · exact ⟨Heap.get?_push_of_some _ htb, hm.2⟩
  · have n := N q (List.mem_append_right _ (.tail _ hq))
    exact ⟨Heap.get?_push_of_some _ (hx _ _ (h2 q hq) n.1), n.2⟩

/-- a def within a def: its code is known -/
theorem nestPhit {Q : Value → Shared → Prop} {c' : Addr} (F : Fr h₀ L s.heap m) (N : News h₀ L s.heap news) (T : Top p loose mean mg mb h₀) (C : CodeHd s.heap c P) (hcd : ccd = .ref c) (hmem : (P, tabObj ps) ∈ news) (ht : TriplesOk ps.toList) (hf : codeAmong pos ps.toList = some (.ref c'))
    (hcl : closureFor scope (envX cn cs L a ccd cl) = pure clos)
    (h : ∀ f ctv doc h' tk, Fr h₀ L h' m → News h₀ L h' ((f, fnMade name qual params body scope clos doc ((mg "__name__").getD .none) c' ctv) :: news) → (∀ q ∈ news, q.1 < f) → Q (.ref f) { s with heap := h', toks := tk }) :
    wpAny M A (makeFunction name qual params (.stmts body) scope (envX cn cs L a ccd cl) [] [] [] pos firstLine) Q E s := by
  have hm := N (P, tabObj ps) hmem
  obtain ⟨_, hb, hgs⟩ := topApart F T hm.1
  refine makeFunction_hit (mg := mg) hcl rfl hgs hcd C hm.1 ht hf hb fun ctv doc h' tk hk hsz => ?_
  have hLs : L < h'.objs.size := Nat.lt_of_lt_of_le F.ns.lt hsz
  refine h h'.objs.size ctv doc _ tk ⟨(F.ns.keeps hk).push _, fun b o e => Heap.get?_push_of_some _ (hk b o (F.keep b o e)), F.above⟩ (fun q hq => ?_) (fun q hq => Nat.lt_of_lt_of_le (Heap.lt_size (N q hq).1) hsz)
  rcases List.mem_cons.mp hq with rfl | hq
  · exact ⟨Heap.get?_push_size _ rfl, Nat.ne_of_gt hLs, Heap.get?_none_of_le (Nat.le_trans F.above (Nat.le_of_lt hLs))⟩
  · exact ⟨Heap.get?_push_of_some _ (hk _ _ (N q hq).1), (N q hq).2⟩
end

abbrev cell0 : Obj := { cls := .type "cell", data := .cell none }
section
variable {M : Model} {A : Around} {E : Value → Shared → Prop} {s : Shared}
/-- the frame of a def with a closure and two cells of its own, its two parameters -/
theorem newEnv2 {scope : Scope} {cl : List (Str × Addr)} {x1 x2 name : Str} {v1 v2 cd : Value} {a : Addr} {Q : Env → Shared → Prop} (hk : scope.kind = .function)
    (hcf : ∀ n, cellsFrom n scope.names cl = (x2, n + 1) :: (x1, n) :: cl) (hpc : ∀ h, pushCells h scope.names = (h.push cell0).push cell0)
    (hx1 : scope.names.lookup x1 = some .cell) (hx2 : scope.names.lookup x2 = some .cell) (hne : (x1 == x2) = false)
    (h : ∀ h' o1 o2, Fr s.heap s.heap.objs.size h' (fun _ => none) → News s.heap s.heap.objs.size h' [(s.heap.objs.size + 1 + 1, o2), (s.heap.objs.size + 1, o1)] → o1.data = .cell (some v1) → o2.data = .cell (some v2) →
      Q (envX name scope s.heap.objs.size a cd ((x2, s.heap.objs.size + 1 + 1) :: (x1, s.heap.objs.size + 1) :: cl)) { s with heap := h' }) :
    wpAny M A (newFunctionEnv scope mainGlobals cl [(x1, v1), (x2, v2)] (name ++ ".<locals>.") (some a) cd none builtinsNs) Q E s := by
  simp only [newFunctionEnv, Option.isSome_none, Bool.false_eq_true, if_false]
  refine wpAny_bind (wpAny_alloc ?_)
  refine wpAny_bind (wpAny_layCells _ (fun name kind cells => by cases hkc : kind == NameKind.cell <;> simp [hkc]) _ _ _ _ ?_)
  rw [hcf, hpc]
  rw [show ({ s with heap := s.heap.push { cls := .type "frame", data := .dict #[] } } : Shared).heap.objs.size = s.heap.objs.size + 1 from Heap.size_push ..]
  generalize hh1 : s.heap.push { cls := .type "frame", data := .dict #[] } = g1
  have n1 : g1.objs.size = s.heap.objs.size + 1 := by rw [← hh1, Heap.size_push]
  have F0 : Fr s.heap s.heap.objs.size g1 (fun _ => none) := ⟨hh1 ▸ Heap.Ns.new s.heap (.type "frame"), fun b o e => hh1 ▸ Heap.get?_push_of_some _ e, Nat.le_refl _⟩
  have F1 := F0.push cell0
  have N1 := (News.nil (h₀ := s.heap) (L := s.heap.objs.size)).push F0 cell0
  rw [n1] at N1
  have F2 := F1.push cell0
  have N2 := N1.push F1 cell0
  rw [show (g1.push cell0).objs.size = s.heap.objs.size + 1 + 1 by rw [Heap.size_push, n1]] at N2
  show wpAny M A (do forIn [(x1, v1), (x2, v2)] PUnit.unit (fun x _ => do storeName (envX name scope s.heap.objs.size a cd ((x2, s.heap.objs.size + 1 + 1) :: (x1, s.heap.objs.size + 1) :: cl)) x.1 x.2; pure (.yield PUnit.unit)); pure (envX name scope s.heap.objs.size a cd ((x2, s.heap.objs.size + 1 + 1) :: (x1, s.heap.objs.size + 1) :: cl))) Q E { s with heap := (g1.push cell0).push cell0 }
  have l1 : List.lookup x1 ((x2, s.heap.objs.size + 1 + 1) :: (x1, s.heap.objs.size + 1) :: cl) = some (s.heap.objs.size + 1) := by
    rw [List.lookup_cons, hne]; simp
  have l2 : List.lookup x2 ((x2, s.heap.objs.size + 1 + 1) :: (x1, s.heap.objs.size + 1) :: cl) = some (s.heap.objs.size + 1 + 1) := by
    rw [List.lookup_cons]; simp
  rw [List.forIn_cons]
  refine wpAny_bind (wpAny_bind (wpAny_bind ?_))
  refine storeX_C (s := ⟨(g1.push cell0).push cell0, _, _, _, _⟩) F2 N2 l1 (.tail (Nat.succ_ne_self _) (.head fun _ hp => nomatch hp)) rfl (fun h3 o1 F3 N3 d1 => ?_) hk hx1
  refine wpAny_pure ?_
  dsimp only
  rw [List.forIn_cons]
  refine wpAny_bind (wpAny_bind ?_)
  refine storeX_C (s := ⟨h3, _, _, _, _⟩) F3 N3 l2 (.head fun p hp => by
    rcases List.mem_cons.mp hp with rfl | hp
    · exact Nat.ne_of_lt (Nat.lt_succ_self _)
    · cases hp) rfl (fun h4 o2 F4 N4 d2 => ?_) hk hx2
  refine wpAny_pure ?_
  dsimp only
  rw [List.forIn_nil]
  exact wpAny_pure (wpAny_pure (h h4 o1 o2 F4 N4 d1 d2))
end

section
variable {prog : Program} {w : World} {A A₀ : Around} {s : Shared} {R : Flow → Shared → Prop} {base h₀ : Heap} {outer : List Env} {L : Addr} {m : Str → Option Value} {env : Env} {news : List (Addr × Obj)}
  {name qual : Str} {params : Arguments} {body : List Stmt} {scope : Scope} {cl : List (Str × Addr)} {dV kV doc pm cdv ct : Value} {an : Option Addr} {fo : Obj} {f : Addr} {args : Args} {x1 x2 : Str} {v1 v2 : Value}
/-- a def with a closure and two cells of its own is called -/
theorem defC_two (B : Below A₀ base outer h₀) (F : Fr h₀ L s.heap m) (N : News h₀ L s.heap news) (hlim : h₀.NoLimit) (hA : A.frames = some (env :: outer)) (hf : env.frame = some L) (hke : env.scope.kind = .function)
    (ho : s.heap.get? f = some fo) (hd : fo.data = .func (fnX name qual params body scope cl dV kV doc pm an cdv ct)) (hcd : s.heap.CodeRec cdv qual) (hroom : A.depth < recursionLimit)
    (hbind : BindsTo s (fnX name qual params body scope cl dV kV doc pm an cdv ct) args [(x1, v1), (x2, v2)])
    (hcf : ∀ n, cellsFrom n scope.names cl = (x2, n + 1) :: (x1, n) :: cl) (hpc : ∀ h, pushCells h scope.names = (h.push cell0).push cell0)
    (hx1 : scope.names.lookup x1 = some .cell) (hx2 : scope.names.lookup x2 = some .cell) (hne : (x1 == x2) = false)
    (h : ∀ g L' h₁ o1 o2, Fr h₀ L g m → Fr g L' h₁ (fun _ => none) → News g L' h₁ ((L' + 1 + 1, o2) :: (L' + 1, o1) :: news) → o1.data = .cell (some v1) → o2.data = .cell (some v2) →
      Below A base (env :: outer) g → h₀.StaysIn g → (∀ p ∈ news, p.1 < L') →
      wpC (model prog w) (A.deeper (envX qual scope L' f cdv ((x2, L' + 1 + 1) :: (x1, L' + 1) :: cl))) (execs body (envX qual scope L' f cdv ((x2, L' + 1 + 1) :: (x1, L' + 1) :: cl)))
        (fun fl s' => LeaveK h₀ L m g (resC R) (match fl with | .ret v => v | _ => .none) s') { s with heap := h₁ })
    (hco : scope.isCoroutine = false := by rfl) (hgen : scope.isGenerator = false := by rfl) (hk : scope.kind = .function := by rfl) : codeC (model prog w) A (.call (.ref f) args) R s := by
  obtain ⟨FG, BG, st, lv⟩ := groundX (R := resC R) B F N hA hf hke
  refine codeC_function (fd := fnX name qual params body scope cl dV kV doc pm an cdv ct) hroom ho hd hco hgen rfl hcd (hbind _ _ _ _ ?_)
  refine newEnv2 hk hcf hpc hx1 hx2 hne fun h₁ o1 o2 F1 N1 d1 d2 => ⟨(hlim.keeps F.keep).keeps F1.keep, codeC_func ?_⟩
  refine wpC_mono (h _ s.heap.objs.size h₁ o1 o2 FG ⟨F1.ns, fun b o e => F1.keep b o (of_hideAll _ e), Nat.le_of_eq (hideAll_size _ _)⟩ (fun p hp => ?_) d1 d2 BG st (fun p hp => Heap.lt_size (N p hp).1)) fun fl s' hl => lv _ _ hl
  have new : ∀ q ∈ [(s.heap.objs.size + 1 + 1, o2), (s.heap.objs.size + 1, o1)], (hideAll s.heap (news.map (·.1))).get? q.1 = none := fun q hq => by
    cases e : (hideAll s.heap (news.map (·.1))).get? q.1 with
    | none => rfl
    | some o => have := of_hideAll _ e; rw [(N1 q hq).2.2] at this; cases this
  rcases List.mem_cons.mp hp with rfl | hp
  · exact ⟨(N1 _ (.head _)).1, (N1 _ (.head _)).2.1, new _ (.head _)⟩
  rcases List.mem_cons.mp hp with rfl | hp
  · exact ⟨(N1 _ (.tail _ (.head _))).1, (N1 _ (.tail _ (.head _))).2.1, new _ (.tail _ (.head _))⟩
  · exact ⟨F1.keep _ _ (N p hp).1, Nat.ne_of_lt (Heap.lt_size (N p hp).1), hideAll_none _ (List.mem_map_of_mem hp)⟩
end
end Mine
end
section
open PySem PySem.W PyProof.Rows PySem.Calls
namespace Mine
set_option maxRecDepth 100000

section
variable {M : Model} {A : Around} {s : Shared} {env : Env} {Q : Flow → Shared → Prop}

def nextC (M : Model) (A : Around) (rest : List Stmt) (env : Env) (Q : Flow → Shared → Prop) : Flow → Shared → Prop
  | .next, s' => wpC M A (execs rest env) Q s'
  | f, s' => Q f s'
theorem wpC_nil (h : Q .next s) : wpC M A (execs [] env) Q s := wpC_pure h
theorem wpC_cons {st : Stmt} {rest : List Stmt} (h : wpC M A (exec st env) (nextC M A rest env Q) s) : wpC M A (execs (st :: rest) env) Q s := by
  rw [execs_cons]
  refine wpC_bind (wpC_mono h fun f s' h' => ?_)
  cases f <;> first | exact h' | exact wpC_pure h'
theorem wpC_If {test : Expr} {body orelse : List Stmt} {pos : Pos} (h : wpC M A (isTrue test env (eval test env))
      (fun b s₂ => if b = true then wpC M A (execs body env) Q s₂ else wpC M A (execs orelse env) Q s₂) s) : wpC M A (exec (.If test body orelse pos) env) Q s := by
  rw [exec_If]
  refine wpC_standAt (wpC_bind (wpC_mono h fun b s₂ h₂ => ?_))
  cases b <;> exact h₂
theorem wpC_Return {e : Expr} {pos : Pos} (h : wpC M A (eval e env) (fun v => Q (.ret v)) s) : wpC M A (exec (.Return (some e) pos) env) Q s := by
  rw [exec_Return_some]
  exact wpC_standAt (wpC_bind (wpC_mono h fun v s' h' => wpC_pure h'))
theorem wpC_Expr {e : Expr} {pos : Pos} (h : wpC M A (eval e env) (fun v s' => v = .none ∧ Q .next s') s) (hi : interactive env = false := by rfl) (hs : swapsWith e none pos.line env = pure false := by rfl) :
    wpC M A (exec (.Expr e pos) env) Q s := by
  rw [exec_Expr env e pos hi hs]
  refine wpC_standAt (wpC_bind (wpC_mono h fun v s' h' => ?_))
  obtain ⟨rfl, hq⟩ := h'
  rw [dropValue_plain (by intro a e; cases e)]
  exact wpC_pure hq
theorem wpC_Compare {l r : Expr} {op : CmpOp} {pos : Pos} {whole : Sem Value} {Q : Bool → Shared → Prop}
    (h : wpC M A (eval l env) (fun a s₁ => wpAny M A (eval r env) (fun b s₂ => wpAny M A (compareOp op a b) (fun c s₃ => wpAny M A (truthy c) Q (fun _ _ => False) s₃) (fun _ _ => False) s₂) (fun _ _ => False) s₁) s)
    (hm : behindInMarks op r = false := by with_unfolding_all rfl) : wpC M A (isTrue (.Compare l [op] [r] pos) env whole) Q s := by
  rw [isTrue_Compare1, markedBehindIn_of_false hm]
  refine wpC_bind (wpC_mono h fun a s₁ h₁ => wpC_of_any ?_)
  refine wpAny_bind (wpAny_holding (wpAny_mono h₁ (fun b s₂ h₂ => ?_) fun _ _ x => x))
  refine wpAny_bind (wpAny_standAt (wpAny_bind ?_))
  intro Γ p hΓ
  rw [Sem.wp_operate]
  refine Sem.wp_mono M Γ _ (fun c p' s' h₃ => ?_) (fun _ _ _ x => x) p s₂ (h₂ Γ p hΓ)
  exact wpAny_holding h₃

theorem wpC_CallName {x : Str} {fp pos : Pos} {args : List Expr} {Q : Value → Shared → Prop}
    (h : wpAny M A (eval (.Name x fp) env) (fun f s₁ => wpC M A (callWith pos f [] (backTo pos (starEach args env)) []) Q s₁) (fun _ _ => False) s) :
    wpC M A (eval (.Call (.Name x fp) args [] pos) env) Q s := wpC_seq h
theorem wpC_CallMethod {o : Expr} {name : Str} {apos pos : Pos} {args : List Expr} {pl : Sem Bool} {Q : Value → Shared → Prop}
    (h : wpAny M A (eval o env) (fun ov s₁ => wpAny M A (getMethod ov name pl) (fun fx s₂ => wpC M A (callWith pos fx.1 fx.2 (backTo pos (starEach args env)) []) Q s₂) (fun _ _ => False) s₁) (fun _ _ => False) s)
    (he : eval (.Call (.Attribute o name apos) args [] pos) env = (do
      let ov ← eval o env
      standAt apos.atName
      let (f, first) ← holding [ov] (getMethod ov name pl)
      callWith pos f first (backTo pos (starEach args env)) []) := by rfl) : wpC M A (eval (.Call (.Attribute o name apos) args [] pos) env) Q s := by
  rw [he]
  refine wpC_seq (wpAny_mono h (fun ov s₁ h₁ => ?_) fun _ _ x => x)
  exact wpC_standAt (wpC_seq (wpAny_holding h₁))

/-- the end of a call by its value: what keeps the callee, the arguments, the call -/
theorem wpC_callWith {P : Heap → Prop} {f : Value} {first : List Value} {args : List (Bool × Sem Value)} {pos : Pos} {Q : Value → Shared → Prop} (hplain : args.any (·.1) = false)
    (hk : ∀ h, P h → ∃ k, (k = Keeper.frame ∨ k = Keeper.machine ∨ k = Keeper.boundFrame) ∧ Looks M h (keeperOf f) k)
    (h : wpC M A (spliced args) (fun vs s₁ => P s₁.heap ∧ wpC M A (call f (first ++ vs) []) Q s₁) s) : wpC M A (callWith pos f first args []) Q s := by
  unfold callWith
  have ha : wpC M A (evalArgs f true args []) (fun a s₁ => P s₁.heap ∧ wpC M A (call f (first ++ a.pos) a.kw) Q s₁) s := by
    unfold evalArgs
    dsimp only
    split
    · simp at hplain
    · refine wpC_bind (wpC_mono h fun vs s₁ h₁ => wpC_bind (wpC_pure ?_))
      refine wpC_holding ?_
      refine wpC_if rfl ?_
      exact wpC_bind (wpC_pure (wpC_bind (wpC_pure (wpC_pure h₁))))
  refine wpC_bind (wpC_holding (wpC_mono ha fun a s₁ h₁ => wpC_standAt ?_))
  obtain ⟨k, hk', L⟩ := hk _ h₁.1
  have hp : (args.any (·.1) || ([] : List (Option Str × Sem Value)).any (·.1.isNone)) = false := by rw [hplain]; rfl
  simp only [hp]
  refine wpC_seq (L.here ?_)
  have tail : ∀ {t : Sem Value}, wpC M A t Q s₁ → wpC M A (t >>= fun r => holding [r] point >>= fun _ => pure r) Q s₁ :=
    fun ht => wpC_bind (wpC_mono ht fun r s₂ hr => wpC_seq (wpAny_holding (wpAny_point (wpC_pure hr))))
  have marked (mk : Value) : wpC M A (callMarked mk f (first ++ a.pos) a.kw) Q s₁ := by unfold callMarked; exact wpC_keep h₁.2
  rcases hk' with rfl | rfl | rfl <;> dsimp only <;> first | exact tail h₁.2 | (split <;> first | exact tail h₁.2 | exact tail (marked _))

/-- one argument, itself a clean call -/
theorem wpC_spliced1 {x : Sem Value} {Q : List Value → Shared → Prop} (h : wpC M A x (fun v s₁ => Q [v] s₁) s) : wpC M A (spliced [(false, x)]) Q s := by
  unfold spliced
  refine wpC_bind (wpC_mono h fun v s₁ h₁ => ?_)
  refine wpC_bind (wpC_pure ?_)
  refine wpC_bind (wpC_holding ?_)
  exact wpC_pure (wpC_pure h₁)

def turnC (M : Model) (A : Around) (c : Code) (R : Flow → Shared → Prop) : Flow → Shared → Prop
  | .next, s' => codeC M A c R s'
  | .cont, s' => codeC M A c R s'
  | .brk, s' => R .next s'
  | .ret v, s' => R (.ret v) s'
theorem wpC_While {test : Expr} {body orelse : List Stmt} {pos : Pos} (h : codeC M A (.whileLoop test body orelse env) Q s) : wpC M A (exec (.While test body orelse pos) env) Q s := by
  rw [exec_While]
  exact wpC_standAt (wpC_runOwn rfl h)
theorem wpC_For {target iter : Expr} {body orelse : List Stmt} {pos : Pos}
    (h : wpAny M A (eval iter env) (fun x s₁ => wpAny M A (pyIter x) (fun it s₂ => codeC M A (.forLoop target it body orelse env) Q s₂) (fun _ _ => False) s₁) (fun _ _ => False) s)
    (hs : ∀ x, foldedSetIterable iter env x = pure x := by intro _; rfl) : wpC M A (exec (.For target iter body orelse pos) env) Q s := by
  rw [exec_For]
  refine wpC_standAt (wpC_seq (wpAny_mono h (fun x s₁ h₁ => ?_) fun _ _ x => x))
  refine wpC_bind (wpC_eq (hs x) (wpC_pure (wpC_standAt ?_)))
  exact wpC_seq (wpAny_holding (wpAny_mono h₁ (fun it s₂ h₂ => wpC_runOwn rfl h₂) fun _ _ x => x))
end

section
variable {prog : Program} {w : World} {A : Around} {s : Shared} {env : Env} {R : Flow → Shared → Prop}
theorem codeC_while {test : Expr} {body orelse : List Stmt}
    (h : wpAny (model prog w) A (isTrue test env (eval test env)) (fun b s₁ => if b = true then wpC (model prog w) A (execs body env) (turnC (model prog w) A (.whileLoop test body orelse env) R) s₁
      else wpC (model prog w) A (execs orelse env) R s₁) (fun _ _ => False) s) : codeC (model prog w) A (.whileLoop test body orelse env) R s := by
  refine codeC_of_tree ?_
  rw [Around.under_of_weight rfl rfl]
  show wpC _ A ((whileTurn test body orelse env).onRaise _) _ s
  refine wpC_onRaise ?_
  unfold whileTurn
  refine wpC_seq (wpAny_mono h (fun b s₁ h₁ => ?_) fun _ _ x => x)
  cases b with
  | true =>
    refine wpC_bind (wpC_mono (show wpC _ _ _ _ _ from h₁) fun f s₂ h₂ => ?_)
    cases f with
    | next => exact wpC_pure ⟨rfl, rfl, h₂⟩
    | cont => exact wpC_pure ⟨rfl, rfl, h₂⟩
    | brk => exact wpC_pure h₂
    | ret v => exact wpC_pure h₂
  | false => exact wpC_bind (wpC_mono (show wpC _ _ _ _ _ from h₁) fun f s₂ h₂ => wpC_pure h₂)

/-- a turn of a for: the next item, or the end -/
theorem codeC_for {x : Str} {tp : Pos} {it : Value} {body : List Stmt}
    (h : wpAny (model prog w) A (pyNext it) (fun o s₁ => match o with
      | none => R .next s₁
      | some v => wpAny (model prog w) A (storeName env x v) (fun _ s₂ => wpC (model prog w) A (execs body env) (turnC (model prog w) A (.forLoop (.Name x tp) it body [] env) R) s₂) (fun _ _ => False) s₁) (fun _ _ => False) s) :
    codeC (model prog w) A (.forLoop (.Name x tp) it body [] env) R s := by
  refine codeC_of_tree ?_
  rw [Around.under_of_weight rfl rfl]
  show wpC _ A ((forTurn (.Name x tp) it body [] env).onRaise _) _ s
  refine wpC_onRaise ?_
  unfold forTurn
  refine wpC_standAt (wpC_seq ?_)
  intro Γ p hΓ
  rw [Sem.wp_onRaise]
  refine Sem.wp_mono _ Γ _ (fun o p' s₁ h₁ => ?_) (fun _ _ _ x => x.elim) p s (h Γ p hΓ)
  cases o with
  | none =>
    refine wpC_pure ⟨rfl, rfl, codeC_of_tree ?_⟩
    rw [Around.under_of_weight rfl rfl]
    show wpC _ A (do return Fin.done (← (execs [] env).onRaise _)) _ s₁
    exact wpC_bind (wpC_onRaise (wpC_nil (wpC_pure h₁)))
  | some v =>
    refine wpC_bind (wpC_eq (t' := pure ()) rfl (wpC_pure ?_))
    refine wpC_seq (wpAny_assign_Name (wpAny_mono h₁ (fun _ s₂ h₂ => ?_) fun _ _ x => x))
    refine wpC_bind (wpC_mono h₂ fun f s₃ h₃ => ?_)
    cases f with
    | next => exact wpC_pure ⟨rfl, rfl, h₃⟩
    | cont => exact wpC_pure ⟨rfl, rfl, h₃⟩
    | brk => exact wpC_pure h₃
    | ret v => exact wpC_pure h₃
end
end Mine
end
section
open PySem PySem.W PyProof.Rows PySem.Calls
namespace Mine
set_option maxRecDepth 100000

theorem cln_caller : Cln ⟨.builtin "claim.caller" {}, none, none, [], none⟩ := ⟨by show (!badIds.contains "claim.caller") = true; decide +kernel, fun _ hx => nomatch hx⟩

theorem threadC {prog : Program} {w : World} {t : Sem Fin} {s : Shared} {R : Result → Shared → Prop} (hreg : s.asleep)
    (h : wpC (model prog w) callerA t (fun fin s' => ∃ f, fin = .done f ∧ (R (.ok f) s' ∧ leftWithCleanup s'.gens = false)) s) :
    ∃ n r s' s'', runN (denote table) prog w n s ⟨t, .builtin "claim.caller" {}, default, []⟩ = .halted (outcomeOf r) s' ∧
      schedN (denote table) prog w n (.single s ⟨t, .builtin "claim.caller" {}, default, []⟩) = .halted (outcomeOf r) s' ∧ s'.forget = s''.forget ∧ R r s'' := by
  obtain ⟨n, r, s₁, s₂, hs, hn, hfo, hR⟩ := wp_halts_full (M := model prog w) (R := R) (p := default) hreg
    (Sem.wp_mono _ _ _ (fun fin p' s' h' => by
      obtain ⟨f, rfl, hf⟩ := h'
      exact hf) (fun _ _ _ x => x.elim) default s (h _ default caller_in cln_caller))
  exact ⟨n, r, s₂, s₁, hn, hs, hfo, hR⟩

/-- a call whose tree is shown over the clean stacks -/
theorem callFromC {c : ClaimW} {tree : List Value → Sem Fin} {w : World} {s : Shared} {free : Addr → Prop} {gens : Prop} {kept : Heap → Prop} (hz : s.asleep) (hgens : s.gens = #[])
    (hspec : ∀ args, c.pre args = true → WData.layableAll args = true → ∀ ord : List DictEntry → List DictEntry, (∀ l, (ord l).Perm l) →
      ∃ vs s₁, layAllW c.records (classAt s.heap) w.params ord args s = some (vs, s₁) ∧
        wpC (model c.prog w) callerA (tree vs) (fun fin s' => ∃ f, fin = .done f ∧ (c.Ends s args vs s₁ (.ok f) s' ∧ s'.os = s.os ∧ AllBare s'.gens ∧ kept s'.heap)) s₁) :
    c.CallFrom (fun vs => ⟨tree vs, .builtin "claim.caller" {}, default, []⟩) w free gens kept s := by
  intro args hpre hlay ord hord
  refine Classical.byContradiction fun hG => ?_
  obtain ⟨vs, s₁, hlaid, hcode⟩ := hspec args hpre hlay ord hord
  have rest := layAllW_rest _ _ _ hlaid
  have h := wpC_mono hcode (Q' := fun fin s' => ∃ f, fin = .done f ∧ ((c.Ends s args vs s₁ (.ok f) s' ∧ s'.os = s.os ∧ kept s'.heap) ∧ leftWithCleanup s'.gens = false)) fun fin s' h' => by
    obtain ⟨f, e, a1, a2, a3, a4⟩ := h'
    exact ⟨f, e, ⟨a1, a2, a4⟩, leftWithCleanup_false_of_bare a3⟩
  obtain ⟨k, r, s', s'', hrun, hsched, hfo, hends, hos, hkp⟩ := threadC (R := fun r s' => c.Ends s args vs s₁ r s' ∧ s'.os = s.os ∧ kept s'.heap) (Shared.asleep_of_life rest.2.2.2 hz) h
  obtain ⟨eh, _, _, eo, _⟩ := Shared.forget_eq hfo
  have hends := hends.congr eh
  have hkp : kept s'.heap := by first | exact eh ▸ hkp | (rw [eh] at hkp; exact hkp) | (rw [← eh] at hkp; exact hkp)
  rw [← eo] at hos
  have hlife : s'.heap.life = s.heap.life := (runN_life _ _ _ hrun).trans rest.2.2.2
  refine hG ⟨vs, s₁, hlaid, k, _, s', hsched, ?_, (fun _ i x hx => by rw [hgens] at hx; simp at hx), hkp, by rw [hlife], Shared.rest_eq hos⟩
  rcases hends with ⟨v, rfl, d1, d2, d3, d4, d5⟩ | ⟨e, ob, cls, rfl, d1, d2, d3, d4, d5⟩
  · exact .inl ⟨v, rfl, d1, d2, d3, fun b o y _ => d4 b o y, d5⟩
  · exact .inr ⟨e, ob, cls, rfl, d1, d2, d3, d4, fun b o y _ => d5 b o y⟩

/-- the walk of a call, over the clean stacks -/
abbrev WalkC (q : Program) (loose : List Str) (XP : (Str → Option Value) → Heap → Prop) (YP : World → Heap → Prop) (r : RowW) (d : DefRec) (kwd : List (Str × Expr)) : Prop :=
  ∀ (w : World) (s₀ s₁ : Shared) (mg mb : Str → Option Value), Ground q loose r.records XP w s₀ mg mb s₁.heap → YP w s₁.heap → ∀ (a : Addr) (o : Obj) (pm cd doc dV kV : Value), s₁.heap.get? a = some o →
    o.data = .func { docDef d.name d.params d.body d.scope pm cd doc with defaults := dV, kwdefaults := kV } → s₁.heap.CodeRec cd d.name → Dflts mg s₁.heap d.params kwd dV kV → mg d.name = some (.ref a) → s₁.gens = #[] →
    ∀ (args : List WData) (vals : List Value) (as : List Addr), r.claim.pre args = true → WData.layableAll args = true → ReadsAllW r.records (classAt s₀.heap) s₁.heap vals args as → WellAll w.params s₁.heap vals args → (∀ a ∈ as, (a == sysModules) = false) →
      wpC (model r.prog w) callerA (call (.ref a) vals) (fun v s' => GoodWG r.claim (classAt s₀.heap) (ExcName.means s₀.heap) args s₁ (.ok (.ret v)) s') s₁

theorem holdsC {r : OpenRow} {q : Program} {loose : List Str} {Xt : Shared → Bool} {XP : (Str → Option Value) → Heap → Prop} {α : Type} {Yf : Shared → α} {Ya : World → α} {YP : World → Heap → Prop} {d : DefRec} {kwd : List (Str × Expr)} {N : Nat}
    (left : LeftO r.prog q loose Xt Yf Ya N) (hY : ∀ w s, Yf s = Ya w → YP w s.heap) (hYk : ∀ w h h', YP w h → (∀ b o, h.get? b = some o → h'.get? b = some o) → YP w h')
    (hX : ∀ s, Xt s = true → XP (s.heap.nsMap mainGlobals) s.heap) (hXk : ∀ mg h h', XP mg h → (∀ b o, h.get? b = some o → h'.get? b = some o) → XP mg h')
    (hdef : defOf q r.name = some (d, kwd)) (hp : r.prog.theDef r.name = some (d.params, d.body, d.scope)) (hk : kwWritten? d.params.kwonlyargs d.params.kw_defaults = some kwd) (hRf : ∀ s, Xt s = true → RecFacts r.records s.heap) (hwr : (!r.writes || r.records.isEmpty) = true)
    (k1 : r.wellSaid = true) (ok : (chainsOk q && opensWell r.prog && (frees r.toRowW && r.within.isEmpty)) = true) (hb : r.prog.bare) (hw : r.toRowW.promised)
    (call : WalkC q loose XP YP r.toRowW d kwd) : r.Holds := by
  obtain ⟨ok1, ok2⟩ := Bool.and_eq_true_iff.mp ok
  obtain ⟨hch, hop⟩ := Bool.and_eq_true_iff.mp ok1
  obtain ⟨hfr, hwi0⟩ := Bool.and_eq_true_iff.mp ok2
  obtain ⟨hsame, hu, ha, hap, hm⟩ := frees_parts hfr
  refine ⟨k1, hw, ⟨hb, hop, by show r.makers.map _ = []; rw [hm]; rfl⟩, hw.witness, fun w => ⟨(left.behind hX hch w).1, fun s' hs' => ?_⟩⟩
  obtain ⟨s₀, hf, hg0, s, hT, hz, hgens, hg, G00, y⟩ := (left.behind (XP := fun mg h => XP mg h ∧ RecFacts r.records h) (fun s hs => ⟨hX s hs, hRf s hs⟩) hch w).2 s' hs'
  have G0 : Ground q loose [] XP w s (s.heap.nsMap mainGlobals) (s.heap.nsMap builtinsNs) s.heap := ⟨G00.T, G00.B, G00.D, G00.TE, G00.TD, G00.W, G00.X.1, G00.cls, G00.has, G00.apart, G00.once, G00.K⟩
  have RF := G00.X.2
  have pinned : ∀ n ∈ (if r.pinned then [r.name] else []), isTheDefsW r.prog s.heap n := fun n hn => by
    obtain rfl : n = r.name := by split at hn <;> simp_all
    exact pinned_of_view hg G0 hdef hp hk
  refine ⟨s₀, hf, hg0, s, hT, pinned, RF.1, RF.2.1, ?_⟩
  have hgens : s.gens = #[] := Array.eq_empty_of_size_eq_zero (beq_iff_eq.mp hgens)
  have G : Ground q loose r.records XP w s _ _ s.heap := RF.ground G0
  refine callFromC (c := r.toRowW.claim) (tree := fun vs => do match ← nsGet mainNs r.name with
      | some f => do ret (← PySem.call f vs)
      | none => unsupported "claim.caller:no-such-global") hz hgens fun args hpre hlay ord hord => ?_
  obtain ⟨⟨vs, s₁⟩, hlaid⟩ := Option.isSome_iff_exists.mp (layAllW_isSome (P := w.params) (ord := ord) G.has args r.args s (pre_splitW hpre).1)
  have keeps := layAllW_keeps _ _ _ hlaid
  have rest := layAllW_rest _ _ _ hlaid
  obtain ⟨as, hrd, hin, hold⟩ := reads_layAllW hord _ _ _ hlaid hlay s₁.heap (fun _ _ e => e)
  have L : Laid r.records w s s₁ args vs as := ⟨⟨ord, hord, hlaid⟩, hrd, hin, hold, keeps, rest.1.trans hgens, rest.2.2.1⟩
  have G₁ := G.keeps hXk keeps
  obtain ⟨a, o, pm, cd, doc, dV, kV, h1, h2, h3, h4, h5⟩ := G₁.fn hdef
  have walked := call w s s₁ _ _ G₁ (hYk _ _ _ (hY w s y) keeps) a o pm cd doc dV kV h2 h3 h4 h5 (defOf_name hdef ▸ h1) L.gens args vs as hpre hlay L.reads L.well (L.low G.low)
  have hi := ident_freeW hu ha hap
  have hwi : r.toRowW.claim.within = [] := List.isEmpty_iff.mp hwi0
  refine ⟨vs, s₁, hlaid, wpC_seq (wpAny_nsGet G₁.T.g ?_)⟩
  rw [h1]
  refine wpC_bind (wpC_mono walked fun v s' g => wpC_pure ⟨_, rfl, ?_⟩)
  have z := g.laid (c := r.toRowW.claim) hsame hwi hi L
  exact ⟨z.1, z.2.1, z.2.2, fun q => ⟨namesKept_of hT hg r.keeps keeps g.2.1.old, noTable hwr q⟩⟩
end Mine
end
section
open PySem PySem.W PyProof.Rows PySem.Calls
namespace Mine
set_option maxRecDepth 100000
/-- the byte at a place, as an int -/
def zat (b : Array UInt8) (i : Int) : Int := ((b.toList.getD i.toNat 0).toNat : Int)
section
variable {prog : Program} {w : World} {A : Around} {E : Value → Shared → Prop} {s : Shared} {value slice : PySem.Expr} {t ui : Tok} {Q : Value → Shared → Prop} {i : Int}
theorem item_T {b : Array UInt8} (hfit : b.size ≤ 1099511627776) (h0 : 0 ≤ i) (h1 : i < (b.size : Int)) (h : 0 ≤ zat b i → zat b i < 256 → Q (.int (zat b i) s.toks) { s with toks := s.toks + 1 })
    (hs : subscripted slice false (.bytes b t) (.int i ui) = operate [.bytes b t, .int i ui] (getItem (.bytes b t) (.int i ui)) := by with_unfolding_all rfl)
    (ht : ∀ r, letTemporaryGo value (.bytes b t) r = pure () := by intro _; with_unfolding_all rfl) :
    wpAny (model prog w) A (subscriptTail value slice (.bytes b t) (.int i ui)) Q E s := by
  have e : b = b.toList.toArray := (Array.toArray_toList).symm
  have hl : b.toList.length = b.size := Array.length_toList
  have lt := (b.toList.getD i.toNat 0).toNat_lt
  have hq := h (by unfold zat; omega) (by unfold zat; omega)
  unfold zat at hq
  revert hs ht hq
  generalize b.toList = x at *
  subst e
  intro hs ht hq
  exact KBy.item_N (by omega) h0 (by omega) hq hs ht
theorem item_lit {x : List UInt8} {v : UInt8} (hx : x[i.toNat]? = some v) (h0 : 0 ≤ i) (hfit : x.length ≤ 1099511627776) (h : Q (.int (v.toNat : Int) s.toks) { s with toks := s.toks + 1 })
    (hs : subscripted slice false (.bytes x.toArray t) (.int i ui) = operate [.bytes x.toArray t, .int i ui] (getItem (.bytes x.toArray t) (.int i ui)) := by with_unfolding_all rfl)
    (ht : ∀ r, letTemporaryGo value (.bytes x.toArray t) r = pure () := by intro _; with_unfolding_all rfl) :
    wpAny (model prog w) A (subscriptTail value slice (.bytes x.toArray t) (.int i ui)) Q E s := by
  obtain ⟨hl, _⟩ := List.getElem?_eq_some_iff.mp hx
  have e : x.getD i.toNat 0 = v := by simp [hx]
  refine KBy.item_N hfit h0 (by omega) ?_ hs ht
  rw [e]; exact h
end
end Mine
end
section
open PySem PySem.W PyProof.Rows
namespace Mine
/-- the program's statements and their parts -/
def stN (n : Nat) : Stmt := (PySem.Challenge.pw_tk0057_01.main.body.drop n).headD (.Pass ⟨0, 0, 0, 0⟩)
def clN (n k : Nat) : Stmt := match stN n with
  | .ClassDef _ _ _ b _ _ _ _ _ _ _ => (b.drop k).headD (.Pass ⟨0, 0, 0, 0⟩)
  | x => x
def fP : Stmt → Arguments
  | .FunctionDef _ a _ _ _ _ _ _ _ _ => a
  | _ => ⟨[], [], none, [], [], none, []⟩
def fB : Stmt → List Stmt
  | .FunctionDef _ _ b _ _ _ _ _ _ _ => b
  | _ => []
def fS : Stmt → Scope
  | .FunctionDef _ _ _ _ _ _ s _ _ _ => s
  | _ => { kind := .function, names := [], isGenerator := false, isCoroutine := false }
end Mine
end
section
open PySem PySem.W PyProof.Rows
namespace Mine
set_option maxRecDepth 100000
theorem ls_res : namesResolve PySem.Challenge.rw_tk0057_01.row.prog = true := by kernel_rfl
theorem ls_meet : (namesMeet PySem.Challenge.rw_tk0057_01.row.prog PySem.Challenge.rw_tk0057_01.row.prog.main.body fun _ n => attrL n) = true := by kernel_rfl
theorem ls_looks : looksOpen PySem.Challenge.rw_tk0057_01.row.prog = true := by
  unfold looksOpen
  exact look_both (look_both (look_both (look_both (look_both (by kernel_rfl) (by kernel_rfl)) ls_res) (by kernel_rfl)) (by kernel_rfl)) ls_meet
theorem ls_part : PySem.Challenge.rw_tk0057_01.row.partSaid = true := by
  unfold OpenRow.partSaid
  iterate 13 refine look_both ?_ ?_
  all_goals first | with_reducible exact ls_looks | kernel_rfl
theorem ls_row : PySem.Challenge.rw_tk0057_01.row.wellSaid = true := by
  unfold OpenRow.wellSaid
  exact look_both (look_both ls_part (by kernel_rfl)) (by kernel_rfl)
theorem law_said : PySem.Challenge.rw_tk0057_01.wellSaid = true := by
  unfold OpenLaw.wellSaid
  iterate 18 refine look_both ?_ ?_
  all_goals first | with_reducible exact ls_row | kernel_rfl
end Mine
end
section
open PySem PySem.W PyProof.Rows
namespace Mine
set_option maxRecDepth 100000
/-- what the top leaves: the objects at these addresses; the defs' parts by where they stand in the program -/
noncomputable def heapC (P : Params) : Frag := [
  (nat_lit 2, { cls := Value.none, data := Data.dict #[{ hash := PyData.keyHash P (Str.ofString "type.__subclasses__.Exception.0"), key := Value.str (Str.ofString "type.__subclasses__.Exception.0") 265, val := Value.int 60 0 }, { hash := PyData.keyHash P (Str.ofString "type.__subclasses__.Exception.n"), key := Value.str (Str.ofString "type.__subclasses__.Exception.n") 266, val := Value.int 1 0 }] 2 }),
  (nat_lit 3, { cls := Value.type "dict", data := Data.dict #[{ hash := PyData.keyHash P (Str.ofString "__name__"), key := Value.str (Str.ofString "__name__") 165, val := Value.str (Str.ofString "law_tk0057_01") 620 }, { hash := PyData.keyHash P (Str.ofString "__doc__"), key := Value.str (Str.ofString "__doc__") 166, val := Value.none }, { hash := PyData.keyHash P (Str.ofString "__package__"), key := Value.str (Str.ofString "__package__") 167, val := Value.none }, { hash := PyData.keyHash P (Str.ofString "__loader__"), key := Value.str (Str.ofString "__loader__") 168, val := Value.builtin "__main__.__loader__#opaque" }, { hash := PyData.keyHash P (Str.ofString "__spec__"), key := Value.str (Str.ofString "__spec__") 169, val := Value.none }, { hash := PyData.keyHash P (Str.ofString "__annotations__"), key := Value.str (Str.ofString "__annotations__") 170, val := Value.ref 6 }, { hash := PyData.keyHash P (Str.ofString "__builtins__"), key := Value.str (Str.ofString "__builtins__") 171, val := Value.ref 4 }, { hash := PyData.keyHash P (Str.ofString "__file__"), key := Value.str (Str.ofString "__file__") 173, val := Value.str (Str.ofString "/claim/cut.py") 172 }, { hash := PyData.keyHash P (Str.ofString "__cached__"), key := Value.str (Str.ofString "__cached__") 174, val := Value.none }, { hash := PyData.keyHash P (Str.ofString "_wall"), key := Value.str (Str.ofString "_wall") 193, val := Value.ref 21 }, { hash := PyData.keyHash P (Str.ofString "ESCAPE_SIGN"), key := Value.str (Str.ofString "ESCAPE_SIGN") 197, val := Value.int 37 196 }, { hash := PyData.keyHash P (Str.ofString "ZERO_SIGN"), key := Value.str (Str.ofString "ZERO_SIGN") 199, val := Value.int 48 198 }, { hash := PyData.keyHash P (Str.ofString "NINE_SIGN"), key := Value.str (Str.ofString "NINE_SIGN") 201, val := Value.int 57 200 }, { hash := PyData.keyHash P (Str.ofString "capture_text"), key := Value.str (Str.ofString "capture_text") 208, val := Value.ref 28 }, { hash := PyData.keyHash P (Str.ofString "expanded"), key := Value.str (Str.ofString "expanded") 220, val := Value.ref 36 }, { hash := PyData.keyHash P (Str.ofString "replaced"), key := Value.str (Str.ofString "replaced") 235, val := Value.ref 43 }, { hash := PyData.keyHash P (Str.ofString "LuaError"), key := Value.str (Str.ofString "LuaError") 268, val := Value.ref 60 }, { hash := PyData.keyHash P (Str.ofString "MOST_CAPTURES"), key := Value.str (Str.ofString "MOST_CAPTURES") 272, val := Value.int 32 271 }, { hash := PyData.keyHash P (Str.ofString "UNFINISHED"), key := Value.str (Str.ofString "UNFINISHED") 275, val := Value.int (-1) 274 }, { hash := PyData.keyHash P (Str.ofString "POSITION"), key := Value.str (Str.ofString "POSITION") 278, val := Value.int (-2) 277 }, { hash := PyData.keyHash P (Str.ofString "ESCAPE"), key := Value.str (Str.ofString "ESCAPE") 280, val := Value.int 37 279 }, { hash := PyData.keyHash P (Str.ofString "CARET"), key := Value.str (Str.ofString "CARET") 282, val := Value.int 94 281 }, { hash := PyData.keyHash P (Str.ofString "DOLLAR"), key := Value.str (Str.ofString "DOLLAR") 284, val := Value.int 36 283 }, { hash := PyData.keyHash P (Str.ofString "DOT"), key := Value.str (Str.ofString "DOT") 286, val := Value.int 46 285 }, { hash := PyData.keyHash P (Str.ofString "OPEN"), key := Value.str (Str.ofString "OPEN") 288, val := Value.int 40 287 }, { hash := PyData.keyHash P (Str.ofString "CLOSE"), key := Value.str (Str.ofString "CLOSE") 290, val := Value.int 41 289 }, { hash := PyData.keyHash P (Str.ofString "SET_OPEN"), key := Value.str (Str.ofString "SET_OPEN") 292, val := Value.int 91 291 }, { hash := PyData.keyHash P (Str.ofString "SET_CLOSE"), key := Value.str (Str.ofString "SET_CLOSE") 294, val := Value.int 93 293 }, { hash := PyData.keyHash P (Str.ofString "STAR"), key := Value.str (Str.ofString "STAR") 296, val := Value.int 42 295 }, { hash := PyData.keyHash P (Str.ofString "PLUS"), key := Value.str (Str.ofString "PLUS") 298, val := Value.int 43 297 }, { hash := PyData.keyHash P (Str.ofString "MINUS"), key := Value.str (Str.ofString "MINUS") 300, val := Value.int 45 299 }, { hash := PyData.keyHash P (Str.ofString "MARK"), key := Value.str (Str.ofString "MARK") 302, val := Value.int 63 301 }, { hash := PyData.keyHash P (Str.ofString "is_lower"), key := Value.str (Str.ofString "is_lower") 309, val := Value.ref 70 }, { hash := PyData.keyHash P (Str.ofString "is_upper"), key := Value.str (Str.ofString "is_upper") 316, val := Value.ref 77 }, { hash := PyData.keyHash P (Str.ofString "is_alpha"), key := Value.str (Str.ofString "is_alpha") 323, val := Value.ref 84 }, { hash := PyData.keyHash P (Str.ofString "is_digit"), key := Value.str (Str.ofString "is_digit") 330, val := Value.ref 91 }, { hash := PyData.keyHash P (Str.ofString "is_space"), key := Value.str (Str.ofString "is_space") 337, val := Value.ref 98 }, { hash := PyData.keyHash P (Str.ofString "is_control"), key := Value.str (Str.ofString "is_control") 344, val := Value.ref 105 }, { hash := PyData.keyHash P (Str.ofString "is_punctuation"), key := Value.str (Str.ofString "is_punctuation") 351, val := Value.ref 112 }, { hash := PyData.keyHash P (Str.ofString "is_hex"), key := Value.str (Str.ofString "is_hex") 358, val := Value.ref 119 }, { hash := PyData.keyHash P (Str.ofString "in_class"), key := Value.str (Str.ofString "in_class") 368, val := Value.ref 126 }, { hash := PyData.keyHash P (Str.ofString "Matcher"), key := Value.str (Str.ofString "Matcher") 619, val := Value.ref 282 }, { hash := PyData.keyHash P (Str.ofString "_law_told"), key := Value.str (Str.ofString "_law_told") 630, val := Value.ref 293 }, { hash := PyData.keyHash P (Str.ofString "_law_done"), key := Value.str (Str.ofString "_law_done") 644, val := Value.ref 300 }, { hash := PyData.keyHash P (Str.ofString "_law_drawn"), key := Value.str (Str.ofString "_law_drawn") 657, val := Value.ref 307 }, { hash := PyData.keyHash P (Str.ofString "_law_texts"), key := Value.str (Str.ofString "_law_texts") 669, val := Value.ref 314 }, { hash := PyData.keyHash P (Str.ofString "_law_shown"), key := Value.str (Str.ofString "_law_shown") 675, val := Value.ref 319 }, { hash := PyData.keyHash P (Str.ofString "_law_due"), key := Value.str (Str.ofString "_law_due") 686, val := Value.ref 326 }, { hash := PyData.keyHash P (Str.ofString "law"), key := Value.str (Str.ofString "law") 692, val := Value.ref 331 }] 49 }),
  (nat_lit 15, { cls := Value.type "tuple", data := Data.seq #[] }),
  (nat_lit 17, { cls := Value.type "tuple", data := Data.seq #[Value.str (Str.ofString "k") 190] }),
  (nat_lit 18, { cls := Value.type "tuple", data := Data.seq #[] }),
  (nat_lit 20, { cls := Value.type "code", data := Data.fields #[Value.str (Str.ofString "_wall") 187, Value.str (Str.ofString "_wall") 188, Value.str (Str.ofString "/claim/cut.py") 189, Value.int 1 0, Value.int 1 0, Value.int 0 0, Value.int 0 0, Value.int 3 0, Value.ref 15, Value.bool true, Value.int 181 0, Value.ref 16, Value.none, Value.ref 17, Value.ref 18, Value.ref 19, Value.int 191 0, Value.int 1 0, Value.str (Str.ofString "/claim/cut.py") 192] }),
  (nat_lit 21, { cls := Value.type "function", data := Data.func { name := Str.ofString "_wall", qualname := Str.ofString "_wall", params := fP (stN 0), body := FuncBody.stmts (fB (stN 0)), scope := fS (stN 0), globals := 3, closure := [], defaults := Value.none, kwdefaults := Value.none, pyModule := Value.str (Str.ofString "__main__") 164, code := Value.ref 20 } }),
  (nat_lit 22, { cls := Value.type "tuple", data := Data.seq #[] }),
  (nat_lit 24, { cls := Value.type "tuple", data := Data.seq #[Value.str (Str.ofString "value") 205] }),
  (nat_lit 25, { cls := Value.type "tuple", data := Data.seq #[] }),
  (nat_lit 27, { cls := Value.type "code", data := Data.fields #[Value.str (Str.ofString "capture_text") 202, Value.str (Str.ofString "capture_text") 203, Value.str (Str.ofString "/claim/cut.py") 204, Value.int 8 0, Value.int 1 0, Value.int 0 0, Value.int 0 0, Value.int 3 0, Value.ref 22, Value.bool true, Value.int 181 0, Value.ref 23, Value.none, Value.ref 24, Value.ref 25, Value.ref 26, Value.int 206 0, Value.int 8 0, Value.str (Str.ofString "/claim/cut.py") 207] }),
  (nat_lit 28, { cls := Value.type "function", data := Data.func { name := Str.ofString "capture_text", qualname := Str.ofString "capture_text", params := fP (stN 5), body := FuncBody.stmts (fB (stN 5)), scope := fS (stN 5), globals := 3, closure := [], defaults := Value.none, kwdefaults := Value.none, pyModule := Value.str (Str.ofString "lua.replace") 194, code := Value.ref 27 } }),
  (nat_lit 29, { cls := Value.type "tuple", data := Data.seq #[Value.none] }),
  (nat_lit 30, { cls := Value.type "tuple", data := Data.seq #[] }),
  (nat_lit 32, { cls := Value.type "tuple", data := Data.seq #[Value.str (Str.ofString "news") 212, Value.str (Str.ofString "held") 213, Value.str (Str.ofString "most") 214, Value.str (Str.ofString "found") 215, Value.str (Str.ofString "at") 216, Value.str (Str.ofString "octet") 217] }),
  (nat_lit 33, { cls := Value.type "tuple", data := Data.seq #[] }),
  (nat_lit 35, { cls := Value.type "code", data := Data.fields #[Value.str (Str.ofString "expanded") 209, Value.str (Str.ofString "expanded") 210, Value.str (Str.ofString "/claim/cut.py") 211, Value.int 10 0, Value.int 3 0, Value.int 0 0, Value.int 0 0, Value.int 3 0, Value.ref 30, Value.bool true, Value.int 181 0, Value.ref 31, Value.none, Value.ref 32, Value.ref 33, Value.ref 34, Value.int 218 0, Value.int 10 0, Value.str (Str.ofString "/claim/cut.py") 219] }),
  (nat_lit 36, { cls := Value.type "function", data := Data.func { name := Str.ofString "expanded", qualname := Str.ofString "expanded", params := fP (stN 6), body := FuncBody.stmts (fB (stN 6)), scope := fS (stN 6), globals := 3, closure := [], defaults := Value.ref 29, kwdefaults := Value.none, pyModule := Value.str (Str.ofString "lua.replace") 194, code := Value.ref 35 } }),
  (nat_lit 37, { cls := Value.type "tuple", data := Data.seq #[] }),
  (nat_lit 39, { cls := Value.type "tuple", data := Data.seq #[Value.str (Str.ofString "text") 224, Value.str (Str.ofString "most") 225, Value.str (Str.ofString "is_bound") 226, Value.str (Str.ofString "ends_at") 227, Value.str (Str.ofString "give") 228, Value.str (Str.ofString "found") 229, Value.str (Str.ofString "at") 230, Value.str (Str.ofString "many") 231, Value.str (Str.ofString "end") 232] }),
  (nat_lit 40, { cls := Value.type "tuple", data := Data.seq #[] }),
  (nat_lit 42, { cls := Value.type "code", data := Data.fields #[Value.str (Str.ofString "replaced") 221, Value.str (Str.ofString "replaced") 222, Value.str (Str.ofString "/claim/cut.py") 223, Value.int 27 0, Value.int 5 0, Value.int 0 0, Value.int 0 0, Value.int 3 0, Value.ref 37, Value.bool true, Value.int 181 0, Value.ref 38, Value.none, Value.ref 39, Value.ref 40, Value.ref 41, Value.int 233 0, Value.int 27 0, Value.str (Str.ofString "/claim/cut.py") 234] }),
  (nat_lit 43, { cls := Value.type "function", data := Data.func { name := Str.ofString "replaced", qualname := Str.ofString "replaced", params := fP (stN 7), body := FuncBody.stmts (fB (stN 7)), scope := fS (stN 7), globals := 3, closure := [], defaults := Value.none, kwdefaults := Value.none, pyModule := Value.str (Str.ofString "lua.replace") 194, code := Value.ref 42 } }),
  (nat_lit 44, { cls := Value.type "tuple", data := Data.seq #[Value.type "Exception"] }),
  (nat_lit 51, { cls := Value.type "tuple", data := Data.seq #[] }),
  (nat_lit 53, { cls := Value.type "tuple", data := Data.seq #[Value.str (Str.ofString "self") 253, Value.str (Str.ofString "value") 254] }),
  (nat_lit 54, { cls := Value.type "tuple", data := Data.seq #[] }),
  (nat_lit 56, { cls := Value.type "code", data := Data.fields #[Value.str (Str.ofString "__init__") 250, Value.str (Str.ofString "LuaError.__init__") 251, Value.str (Str.ofString "/claim/cut.py") 252, Value.int 48 0, Value.int 2 0, Value.int 0 0, Value.int 0 0, Value.int 3 0, Value.ref 51, Value.bool true, Value.int 181 0, Value.ref 52, Value.none, Value.ref 53, Value.ref 54, Value.ref 55, Value.int 255 0, Value.int 48 0, Value.str (Str.ofString "/claim/cut.py") 256] }),
  (nat_lit 57, { cls := Value.type "function", data := Data.func { name := Str.ofString "__init__", qualname := Str.ofString "LuaError.__init__", params := fP (clN 9 0), body := FuncBody.stmts (fB (clN 9 0)), scope := fS (clN 9 0), globals := 3, closure := [], defaults := Value.none, kwdefaults := Value.none, pyModule := Value.str (Str.ofString "lua.values") 236, code := Value.ref 56 } }),
  (nat_lit 58, { cls := Value.type "tuple", data := Data.seq #[Value.str (Str.ofString "is_in_handler") 258, Value.str (Str.ofString "trace") 259, Value.str (Str.ofString "value") 260] }),
  (nat_lit 59, { cls := Value.type "dict", data := Data.dict #[{ hash := PyData.keyHash P (Str.ofString "__module__"), key := Value.str (Str.ofString "__module__") 245, val := Value.str (Str.ofString "lua.values") 236 }, { hash := PyData.keyHash P (Str.ofString "__firstlineno__"), key := Value.str (Str.ofString "__firstlineno__") 249, val := Value.int 46 248 }, { hash := PyData.keyHash P (Str.ofString "__init__"), key := Value.str (Str.ofString "__init__") 257, val := Value.ref 57 }, { hash := PyData.keyHash P (Str.ofString "__static_attributes__"), key := Value.str (Str.ofString "__static_attributes__") 261, val := Value.ref 58 }, { hash := PyData.keyHash P (Str.ofString "__weakref__"), key := Value.str (Str.ofString "__weakref__") 263, val := Value.ref 61 }, { hash := PyData.keyHash P (Str.ofString "__doc__"), key := Value.str (Str.ofString "__doc__") 264, val := Value.none }] 3 }),
  (nat_lit 60, { cls := Value.type "type", data := Data.cls { name := Str.ofString "LuaError", bases := [Value.type "Exception"], mro := [Value.ref 60, Value.type "Exception", Value.type "BaseException", Value.type "object"], ns := 59, qualname := Str.ofString "LuaError" }, slots := #[some (Value.ref 44), none, some (Value.str (Str.ofString "LuaError") 238), some (Value.str (Str.ofString "LuaError") 246), some (Value.builtin "Exception.__new__"), some (Value.bool true)] }),
  (nat_lit 61, { cls := Value.type "getset_descriptor", data := Data.fields #[Value.str (Str.ofString "__weakref__") 262, Value.ref 60, Value.builtin "ExceptionGroup.__weakref__", Value.none] }),
  (nat_lit 64, { cls := Value.type "tuple", data := Data.seq #[] }),
  (nat_lit 66, { cls := Value.type "tuple", data := Data.seq #[Value.str (Str.ofString "c") 306] }),
  (nat_lit 67, { cls := Value.type "tuple", data := Data.seq #[] }),
  (nat_lit 69, { cls := Value.type "code", data := Data.fields #[Value.str (Str.ofString "is_lower") 303, Value.str (Str.ofString "is_lower") 304, Value.str (Str.ofString "/claim/cut.py") 305, Value.int 68 0, Value.int 1 0, Value.int 0 0, Value.int 0 0, Value.int 3 0, Value.ref 64, Value.bool true, Value.int 181 0, Value.ref 65, Value.none, Value.ref 66, Value.ref 67, Value.ref 68, Value.int 307 0, Value.int 68 0, Value.str (Str.ofString "/claim/cut.py") 308] }),
  (nat_lit 70, { cls := Value.type "function", data := Data.func { name := Str.ofString "is_lower", qualname := Str.ofString "is_lower", params := fP (stN 26), body := FuncBody.stmts (fB (stN 26)), scope := fS (stN 26), globals := 3, closure := [], defaults := Value.none, kwdefaults := Value.none, pyModule := Value.str (Str.ofString "lua.patterns") 269, code := Value.ref 69 } }),
  (nat_lit 71, { cls := Value.type "tuple", data := Data.seq #[] }),
  (nat_lit 73, { cls := Value.type "tuple", data := Data.seq #[Value.str (Str.ofString "c") 313] }),
  (nat_lit 74, { cls := Value.type "tuple", data := Data.seq #[] }),
  (nat_lit 76, { cls := Value.type "code", data := Data.fields #[Value.str (Str.ofString "is_upper") 310, Value.str (Str.ofString "is_upper") 311, Value.str (Str.ofString "/claim/cut.py") 312, Value.int 70 0, Value.int 1 0, Value.int 0 0, Value.int 0 0, Value.int 3 0, Value.ref 71, Value.bool true, Value.int 181 0, Value.ref 72, Value.none, Value.ref 73, Value.ref 74, Value.ref 75, Value.int 314 0, Value.int 70 0, Value.str (Str.ofString "/claim/cut.py") 315] }),
  (nat_lit 77, { cls := Value.type "function", data := Data.func { name := Str.ofString "is_upper", qualname := Str.ofString "is_upper", params := fP (stN 27), body := FuncBody.stmts (fB (stN 27)), scope := fS (stN 27), globals := 3, closure := [], defaults := Value.none, kwdefaults := Value.none, pyModule := Value.str (Str.ofString "lua.patterns") 269, code := Value.ref 76 } }),
  (nat_lit 78, { cls := Value.type "tuple", data := Data.seq #[] }),
  (nat_lit 80, { cls := Value.type "tuple", data := Data.seq #[Value.str (Str.ofString "c") 320] }),
  (nat_lit 81, { cls := Value.type "tuple", data := Data.seq #[] }),
  (nat_lit 83, { cls := Value.type "code", data := Data.fields #[Value.str (Str.ofString "is_alpha") 317, Value.str (Str.ofString "is_alpha") 318, Value.str (Str.ofString "/claim/cut.py") 319, Value.int 72 0, Value.int 1 0, Value.int 0 0, Value.int 0 0, Value.int 3 0, Value.ref 78, Value.bool true, Value.int 181 0, Value.ref 79, Value.none, Value.ref 80, Value.ref 81, Value.ref 82, Value.int 321 0, Value.int 72 0, Value.str (Str.ofString "/claim/cut.py") 322] }),
  (nat_lit 84, { cls := Value.type "function", data := Data.func { name := Str.ofString "is_alpha", qualname := Str.ofString "is_alpha", params := fP (stN 28), body := FuncBody.stmts (fB (stN 28)), scope := fS (stN 28), globals := 3, closure := [], defaults := Value.none, kwdefaults := Value.none, pyModule := Value.str (Str.ofString "lua.patterns") 269, code := Value.ref 83 } }),
  (nat_lit 85, { cls := Value.type "tuple", data := Data.seq #[] }),
  (nat_lit 87, { cls := Value.type "tuple", data := Data.seq #[Value.str (Str.ofString "c") 327] }),
  (nat_lit 88, { cls := Value.type "tuple", data := Data.seq #[] }),
  (nat_lit 90, { cls := Value.type "code", data := Data.fields #[Value.str (Str.ofString "is_digit") 324, Value.str (Str.ofString "is_digit") 325, Value.str (Str.ofString "/claim/cut.py") 326, Value.int 74 0, Value.int 1 0, Value.int 0 0, Value.int 0 0, Value.int 3 0, Value.ref 85, Value.bool true, Value.int 181 0, Value.ref 86, Value.none, Value.ref 87, Value.ref 88, Value.ref 89, Value.int 328 0, Value.int 74 0, Value.str (Str.ofString "/claim/cut.py") 329] }),
  (nat_lit 91, { cls := Value.type "function", data := Data.func { name := Str.ofString "is_digit", qualname := Str.ofString "is_digit", params := fP (stN 29), body := FuncBody.stmts (fB (stN 29)), scope := fS (stN 29), globals := 3, closure := [], defaults := Value.none, kwdefaults := Value.none, pyModule := Value.str (Str.ofString "lua.patterns") 269, code := Value.ref 90 } }),
  (nat_lit 92, { cls := Value.type "tuple", data := Data.seq #[] }),
  (nat_lit 94, { cls := Value.type "tuple", data := Data.seq #[Value.str (Str.ofString "c") 334] }),
  (nat_lit 95, { cls := Value.type "tuple", data := Data.seq #[] }),
  (nat_lit 97, { cls := Value.type "code", data := Data.fields #[Value.str (Str.ofString "is_space") 331, Value.str (Str.ofString "is_space") 332, Value.str (Str.ofString "/claim/cut.py") 333, Value.int 76 0, Value.int 1 0, Value.int 0 0, Value.int 0 0, Value.int 3 0, Value.ref 92, Value.bool true, Value.int 181 0, Value.ref 93, Value.none, Value.ref 94, Value.ref 95, Value.ref 96, Value.int 335 0, Value.int 76 0, Value.str (Str.ofString "/claim/cut.py") 336] }),
  (nat_lit 98, { cls := Value.type "function", data := Data.func { name := Str.ofString "is_space", qualname := Str.ofString "is_space", params := fP (stN 30), body := FuncBody.stmts (fB (stN 30)), scope := fS (stN 30), globals := 3, closure := [], defaults := Value.none, kwdefaults := Value.none, pyModule := Value.str (Str.ofString "lua.patterns") 269, code := Value.ref 97 } }),
  (nat_lit 99, { cls := Value.type "tuple", data := Data.seq #[] }),
  (nat_lit 101, { cls := Value.type "tuple", data := Data.seq #[Value.str (Str.ofString "c") 341] }),
  (nat_lit 102, { cls := Value.type "tuple", data := Data.seq #[] }),
  (nat_lit 104, { cls := Value.type "code", data := Data.fields #[Value.str (Str.ofString "is_control") 338, Value.str (Str.ofString "is_control") 339, Value.str (Str.ofString "/claim/cut.py") 340, Value.int 78 0, Value.int 1 0, Value.int 0 0, Value.int 0 0, Value.int 3 0, Value.ref 99, Value.bool true, Value.int 181 0, Value.ref 100, Value.none, Value.ref 101, Value.ref 102, Value.ref 103, Value.int 342 0, Value.int 78 0, Value.str (Str.ofString "/claim/cut.py") 343] }),
  (nat_lit 105, { cls := Value.type "function", data := Data.func { name := Str.ofString "is_control", qualname := Str.ofString "is_control", params := fP (stN 31), body := FuncBody.stmts (fB (stN 31)), scope := fS (stN 31), globals := 3, closure := [], defaults := Value.none, kwdefaults := Value.none, pyModule := Value.str (Str.ofString "lua.patterns") 269, code := Value.ref 104 } }),
  (nat_lit 106, { cls := Value.type "tuple", data := Data.seq #[] }),
  (nat_lit 108, { cls := Value.type "tuple", data := Data.seq #[Value.str (Str.ofString "c") 348] }),
  (nat_lit 109, { cls := Value.type "tuple", data := Data.seq #[] }),
  (nat_lit 111, { cls := Value.type "code", data := Data.fields #[Value.str (Str.ofString "is_punctuation") 345, Value.str (Str.ofString "is_punctuation") 346, Value.str (Str.ofString "/claim/cut.py") 347, Value.int 80 0, Value.int 1 0, Value.int 0 0, Value.int 0 0, Value.int 3 0, Value.ref 106, Value.bool true, Value.int 181 0, Value.ref 107, Value.none, Value.ref 108, Value.ref 109, Value.ref 110, Value.int 349 0, Value.int 80 0, Value.str (Str.ofString "/claim/cut.py") 350] }),
  (nat_lit 112, { cls := Value.type "function", data := Data.func { name := Str.ofString "is_punctuation", qualname := Str.ofString "is_punctuation", params := fP (stN 32), body := FuncBody.stmts (fB (stN 32)), scope := fS (stN 32), globals := 3, closure := [], defaults := Value.none, kwdefaults := Value.none, pyModule := Value.str (Str.ofString "lua.patterns") 269, code := Value.ref 111 } }),
  (nat_lit 113, { cls := Value.type "tuple", data := Data.seq #[] }),
  (nat_lit 115, { cls := Value.type "tuple", data := Data.seq #[Value.str (Str.ofString "c") 355] }),
  (nat_lit 116, { cls := Value.type "tuple", data := Data.seq #[] }),
  (nat_lit 118, { cls := Value.type "code", data := Data.fields #[Value.str (Str.ofString "is_hex") 352, Value.str (Str.ofString "is_hex") 353, Value.str (Str.ofString "/claim/cut.py") 354, Value.int 82 0, Value.int 1 0, Value.int 0 0, Value.int 0 0, Value.int 3 0, Value.ref 113, Value.bool true, Value.int 181 0, Value.ref 114, Value.none, Value.ref 115, Value.ref 116, Value.ref 117, Value.int 356 0, Value.int 82 0, Value.str (Str.ofString "/claim/cut.py") 357] }),
  (nat_lit 119, { cls := Value.type "function", data := Data.func { name := Str.ofString "is_hex", qualname := Str.ofString "is_hex", params := fP (stN 33), body := FuncBody.stmts (fB (stN 33)), scope := fS (stN 33), globals := 3, closure := [], defaults := Value.none, kwdefaults := Value.none, pyModule := Value.str (Str.ofString "lua.patterns") 269, code := Value.ref 118 } }),
  (nat_lit 120, { cls := Value.type "tuple", data := Data.seq #[] }),
  (nat_lit 122, { cls := Value.type "tuple", data := Data.seq #[Value.str (Str.ofString "c") 362, Value.str (Str.ofString "letter") 363, Value.str (Str.ofString "low") 364, Value.str (Str.ofString "found") 365] }),
  (nat_lit 123, { cls := Value.type "tuple", data := Data.seq #[] }),
  (nat_lit 125, { cls := Value.type "code", data := Data.fields #[Value.str (Str.ofString "in_class") 359, Value.str (Str.ofString "in_class") 360, Value.str (Str.ofString "/claim/cut.py") 361, Value.int 84 0, Value.int 2 0, Value.int 0 0, Value.int 0 0, Value.int 3 0, Value.ref 120, Value.bool true, Value.int 181 0, Value.ref 121, Value.none, Value.ref 122, Value.ref 123, Value.ref 124, Value.int 366 0, Value.int 84 0, Value.str (Str.ofString "/claim/cut.py") 367] }),
  (nat_lit 126, { cls := Value.type "function", data := Data.func { name := Str.ofString "in_class", qualname := Str.ofString "in_class", params := fP (stN 34), body := FuncBody.stmts (fB (stN 34)), scope := fS (stN 34), globals := 3, closure := [], defaults := Value.none, kwdefaults := Value.none, pyModule := Value.str (Str.ofString "lua.patterns") 269, code := Value.ref 125 } }),
  (nat_lit 134, { cls := Value.type "tuple", data := Data.seq #[Value.int 60 381, Value.none] }),
  (nat_lit 135, { cls := Value.type "tuple", data := Data.seq #[] }),
  (nat_lit 137, { cls := Value.type "tuple", data := Data.seq #[Value.str (Str.ofString "self") 385, Value.str (Str.ofString "text") 386, Value.str (Str.ofString "pattern") 387, Value.str (Str.ofString "depth") 388, Value.str (Str.ofString "tick") 389, Value.str (Str.ofString "zero") 390] }),
  (nat_lit 138, { cls := Value.type "tuple", data := Data.seq #[] }),
  (nat_lit 140, { cls := Value.type "code", data := Data.fields #[Value.str (Str.ofString "__init__") 382, Value.str (Str.ofString "Matcher.__init__") 383, Value.str (Str.ofString "/claim/cut.py") 384, Value.int 111 0, Value.int 5 0, Value.int 0 0, Value.int 0 0, Value.int 3 0, Value.ref 135, Value.bool true, Value.int 181 0, Value.ref 136, Value.none, Value.ref 137, Value.ref 138, Value.ref 139, Value.int 391 0, Value.int 111 0, Value.str (Str.ofString "/claim/cut.py") 392] }),
  (nat_lit 141, { cls := Value.type "function", data := Data.func { name := Str.ofString "__init__", qualname := Str.ofString "Matcher.__init__", params := fP (clN 35 0), body := FuncBody.stmts (fB (clN 35 0)), scope := fS (clN 35 0), globals := 3, closure := [], defaults := Value.ref 134, kwdefaults := Value.none, pyModule := Value.str (Str.ofString "lua.patterns") 269, code := Value.ref 140 } }),
  (nat_lit 142, { cls := Value.type "tuple", data := Data.seq #[] }),
  (nat_lit 144, { cls := Value.type "tuple", data := Data.seq #[Value.str (Str.ofString "self") 397] }),
  (nat_lit 145, { cls := Value.type "tuple", data := Data.seq #[] }),
  (nat_lit 147, { cls := Value.type "code", data := Data.fields #[Value.str (Str.ofString "count") 394, Value.str (Str.ofString "Matcher.count") 395, Value.str (Str.ofString "/claim/cut.py") 396, Value.int 122 0, Value.int 1 0, Value.int 0 0, Value.int 0 0, Value.int 3 0, Value.ref 142, Value.bool true, Value.int 181 0, Value.ref 143, Value.none, Value.ref 144, Value.ref 145, Value.ref 146, Value.int 398 0, Value.int 122 0, Value.str (Str.ofString "/claim/cut.py") 399] }),
  (nat_lit 148, { cls := Value.type "function", data := Data.func { name := Str.ofString "count", qualname := Str.ofString "Matcher.count", params := fP (clN 35 1), body := FuncBody.stmts (fB (clN 35 1)), scope := fS (clN 35 1), globals := 3, closure := [], defaults := Value.none, kwdefaults := Value.none, pyModule := Value.str (Str.ofString "lua.patterns") 269, code := Value.ref 147 } }),
  (nat_lit 149, { cls := Value.type "tuple", data := Data.seq #[] }),
  (nat_lit 151, { cls := Value.type "tuple", data := Data.seq #[Value.str (Str.ofString "self") 404] }),
  (nat_lit 152, { cls := Value.type "tuple", data := Data.seq #[] }),
  (nat_lit 154, { cls := Value.type "code", data := Data.fields #[Value.str (Str.ofString "reset") 401, Value.str (Str.ofString "Matcher.reset") 402, Value.str (Str.ofString "/claim/cut.py") 403, Value.int 126 0, Value.int 1 0, Value.int 0 0, Value.int 0 0, Value.int 3 0, Value.ref 149, Value.bool true, Value.int 181 0, Value.ref 150, Value.none, Value.ref 151, Value.ref 152, Value.ref 153, Value.int 405 0, Value.int 126 0, Value.str (Str.ofString "/claim/cut.py") 406] }),
  (nat_lit 155, { cls := Value.type "function", data := Data.func { name := Str.ofString "reset", qualname := Str.ofString "Matcher.reset", params := fP (clN 35 2), body := FuncBody.stmts (fB (clN 35 2)), scope := fS (clN 35 2), globals := 3, closure := [], defaults := Value.none, kwdefaults := Value.none, pyModule := Value.str (Str.ofString "lua.patterns") 269, code := Value.ref 154 } }),
  (nat_lit 156, { cls := Value.type "tuple", data := Data.seq #[] }),
  (nat_lit 158, { cls := Value.type "tuple", data := Data.seq #[Value.str (Str.ofString "self") 411, Value.str (Str.ofString "p") 412] }),
  (nat_lit 159, { cls := Value.type "tuple", data := Data.seq #[] }),
  (nat_lit 161, { cls := Value.type "code", data := Data.fields #[Value.str (Str.ofString "at") 408, Value.str (Str.ofString "Matcher.at") 409, Value.str (Str.ofString "/claim/cut.py") 410, Value.int 132 0, Value.int 2 0, Value.int 0 0, Value.int 0 0, Value.int 3 0, Value.ref 156, Value.bool true, Value.int 181 0, Value.ref 157, Value.none, Value.ref 158, Value.ref 159, Value.ref 160, Value.int 413 0, Value.int 132 0, Value.str (Str.ofString "/claim/cut.py") 414] }),
  (nat_lit 162, { cls := Value.type "function", data := Data.func { name := Str.ofString "at", qualname := Str.ofString "Matcher.at", params := fP (clN 35 3), body := FuncBody.stmts (fB (clN 35 3)), scope := fS (clN 35 3), globals := 3, closure := [], defaults := Value.none, kwdefaults := Value.none, pyModule := Value.str (Str.ofString "lua.patterns") 269, code := Value.ref 161 } }),
  (nat_lit 163, { cls := Value.type "tuple", data := Data.seq #[] }),
  (nat_lit 165, { cls := Value.type "tuple", data := Data.seq #[Value.str (Str.ofString "self") 419, Value.str (Str.ofString "p") 420, Value.str (Str.ofString "first") 421, Value.str (Str.ofString "is_first") 422, Value.str (Str.ofString "is_escaped") 423] }),
  (nat_lit 166, { cls := Value.type "tuple", data := Data.seq #[] }),
  (nat_lit 168, { cls := Value.type "code", data := Data.fields #[Value.str (Str.ofString "class_end") 416, Value.str (Str.ofString "Matcher.class_end") 417, Value.str (Str.ofString "/claim/cut.py") 418, Value.int 135 0, Value.int 2 0, Value.int 0 0, Value.int 0 0, Value.int 3 0, Value.ref 163, Value.bool true, Value.int 181 0, Value.ref 164, Value.none, Value.ref 165, Value.ref 166, Value.ref 167, Value.int 424 0, Value.int 135 0, Value.str (Str.ofString "/claim/cut.py") 425] }),
  (nat_lit 169, { cls := Value.type "function", data := Data.func { name := Str.ofString "class_end", qualname := Str.ofString "Matcher.class_end", params := fP (clN 35 4), body := FuncBody.stmts (fB (clN 35 4)), scope := fS (clN 35 4), globals := 3, closure := [], defaults := Value.none, kwdefaults := Value.none, pyModule := Value.str (Str.ofString "lua.patterns") 269, code := Value.ref 168 } }),
  (nat_lit 170, { cls := Value.type "tuple", data := Data.seq #[] }),
  (nat_lit 172, { cls := Value.type "tuple", data := Data.seq #[Value.str (Str.ofString "self") 430, Value.str (Str.ofString "c") 431, Value.str (Str.ofString "p") 432, Value.str (Str.ofString "last") 433, Value.str (Str.ofString "is_wanted") 434, Value.str (Str.ofString "here") 435] }),
  (nat_lit 173, { cls := Value.type "tuple", data := Data.seq #[] }),
  (nat_lit 175, { cls := Value.type "code", data := Data.fields #[Value.str (Str.ofString "in_set") 427, Value.str (Str.ofString "Matcher.in_set") 428, Value.str (Str.ofString "/claim/cut.py") 429, Value.int 157 0, Value.int 4 0, Value.int 0 0, Value.int 0 0, Value.int 3 0, Value.ref 170, Value.bool true, Value.int 181 0, Value.ref 171, Value.none, Value.ref 172, Value.ref 173, Value.ref 174, Value.int 436 0, Value.int 157 0, Value.str (Str.ofString "/claim/cut.py") 437] }),
  (nat_lit 176, { cls := Value.type "function", data := Data.func { name := Str.ofString "in_set", qualname := Str.ofString "Matcher.in_set", params := fP (clN 35 5), body := FuncBody.stmts (fB (clN 35 5)), scope := fS (clN 35 5), globals := 3, closure := [], defaults := Value.none, kwdefaults := Value.none, pyModule := Value.str (Str.ofString "lua.patterns") 269, code := Value.ref 175 } }),
  (nat_lit 177, { cls := Value.type "tuple", data := Data.seq #[] }),
  (nat_lit 179, { cls := Value.type "tuple", data := Data.seq #[Value.str (Str.ofString "self") 442, Value.str (Str.ofString "s") 443, Value.str (Str.ofString "p") 444, Value.str (Str.ofString "end") 445, Value.str (Str.ofString "c") 446, Value.str (Str.ofString "first") 447] }),
  (nat_lit 180, { cls := Value.type "tuple", data := Data.seq #[] }),
  (nat_lit 182, { cls := Value.type "code", data := Data.fields #[Value.str (Str.ofString "is_single") 439, Value.str (Str.ofString "Matcher.is_single") 440, Value.str (Str.ofString "/claim/cut.py") 441, Value.int 178 0, Value.int 4 0, Value.int 0 0, Value.int 0 0, Value.int 3 0, Value.ref 177, Value.bool true, Value.int 181 0, Value.ref 178, Value.none, Value.ref 179, Value.ref 180, Value.ref 181, Value.int 448 0, Value.int 178 0, Value.str (Str.ofString "/claim/cut.py") 449] }),
  (nat_lit 183, { cls := Value.type "function", data := Data.func { name := Str.ofString "is_single", qualname := Str.ofString "Matcher.is_single", params := fP (clN 35 6), body := FuncBody.stmts (fB (clN 35 6)), scope := fS (clN 35 6), globals := 3, closure := [], defaults := Value.none, kwdefaults := Value.none, pyModule := Value.str (Str.ofString "lua.patterns") 269, code := Value.ref 182 } }),
  (nat_lit 184, { cls := Value.type "tuple", data := Data.seq #[] }),
  (nat_lit 186, { cls := Value.type "tuple", data := Data.seq #[Value.str (Str.ofString "self") 454, Value.str (Str.ofString "s") 455, Value.str (Str.ofString "p") 456, Value.str (Str.ofString "found") 457] }),
  (nat_lit 187, { cls := Value.type "tuple", data := Data.seq #[] }),
  (nat_lit 189, { cls := Value.type "code", data := Data.fields #[Value.str (Str.ofString "match") 451, Value.str (Str.ofString "Matcher.match") 452, Value.str (Str.ofString "/claim/cut.py") 453, Value.int 190 0, Value.int 3 0, Value.int 0 0, Value.int 0 0, Value.int 3 0, Value.ref 184, Value.bool true, Value.int 181 0, Value.ref 185, Value.none, Value.ref 186, Value.ref 187, Value.ref 188, Value.int 458 0, Value.int 190 0, Value.str (Str.ofString "/claim/cut.py") 459] }),
  (nat_lit 190, { cls := Value.type "function", data := Data.func { name := Str.ofString "match", qualname := Str.ofString "Matcher.match", params := fP (clN 35 7), body := FuncBody.stmts (fB (clN 35 7)), scope := fS (clN 35 7), globals := 3, closure := [], defaults := Value.none, kwdefaults := Value.none, pyModule := Value.str (Str.ofString "lua.patterns") 269, code := Value.ref 189 } }),
  (nat_lit 191, { cls := Value.type "tuple", data := Data.seq #[] }),
  (nat_lit 193, { cls := Value.type "tuple", data := Data.seq #[Value.str (Str.ofString "self") 464, Value.str (Str.ofString "s") 465, Value.str (Str.ofString "p") 466, Value.str (Str.ofString "first") 467, Value.str (Str.ofString "second") 468, Value.str (Str.ofString "end") 469, Value.str (Str.ofString "after") 470, Value.str (Str.ofString "is_here") 471, Value.str (Str.ofString "found") 472] }),
  (nat_lit 194, { cls := Value.type "tuple", data := Data.seq #[] }),
  (nat_lit 196, { cls := Value.type "code", data := Data.fields #[Value.str (Str.ofString "match_here") 461, Value.str (Str.ofString "Matcher.match_here") 462, Value.str (Str.ofString "/claim/cut.py") 463, Value.int 199 0, Value.int 3 0, Value.int 0 0, Value.int 0 0, Value.int 3 0, Value.ref 191, Value.bool true, Value.int 181 0, Value.ref 192, Value.none, Value.ref 193, Value.ref 194, Value.ref 195, Value.int 473 0, Value.int 199 0, Value.str (Str.ofString "/claim/cut.py") 474] }),
  (nat_lit 197, { cls := Value.type "function", data := Data.func { name := Str.ofString "match_here", qualname := Str.ofString "Matcher.match_here", params := fP (clN 35 8), body := FuncBody.stmts (fB (clN 35 8)), scope := fS (clN 35 8), globals := 3, closure := [], defaults := Value.none, kwdefaults := Value.none, pyModule := Value.str (Str.ofString "lua.patterns") 269, code := Value.ref 196 } }),
  (nat_lit 198, { cls := Value.type "tuple", data := Data.seq #[] }),
  (nat_lit 200, { cls := Value.type "tuple", data := Data.seq #[Value.str (Str.ofString "self") 479, Value.str (Str.ofString "s") 480, Value.str (Str.ofString "p") 481, Value.str (Str.ofString "letter") 482] }),
  (nat_lit 201, { cls := Value.type "tuple", data := Data.seq #[] }),
  (nat_lit 203, { cls := Value.type "code", data := Data.fields #[Value.str (Str.ofString "match_special") 476, Value.str (Str.ofString "Matcher.match_special") 477, Value.str (Str.ofString "/claim/cut.py") 478, Value.int 237 0, Value.int 4 0, Value.int 0 0, Value.int 0 0, Value.int 3 0, Value.ref 198, Value.bool true, Value.int 181 0, Value.ref 199, Value.none, Value.ref 200, Value.ref 201, Value.ref 202, Value.int 483 0, Value.int 237 0, Value.str (Str.ofString "/claim/cut.py") 484] }),
  (nat_lit 204, { cls := Value.type "function", data := Data.func { name := Str.ofString "match_special", qualname := Str.ofString "Matcher.match_special", params := fP (clN 35 9), body := FuncBody.stmts (fB (clN 35 9)), scope := fS (clN 35 9), globals := 3, closure := [], defaults := Value.none, kwdefaults := Value.none, pyModule := Value.str (Str.ofString "lua.patterns") 269, code := Value.ref 203 } }),
  (nat_lit 205, { cls := Value.type "tuple", data := Data.seq #[] }),
  (nat_lit 207, { cls := Value.type "tuple", data := Data.seq #[Value.str (Str.ofString "self") 489, Value.str (Str.ofString "s") 490, Value.str (Str.ofString "p") 491, Value.str (Str.ofString "begin") 492, Value.str (Str.ofString "end") 493, Value.str (Str.ofString "open_ones") 494, Value.str (Str.ofString "c") 495] }),
  (nat_lit 208, { cls := Value.type "tuple", data := Data.seq #[] }),
  (nat_lit 210, { cls := Value.type "code", data := Data.fields #[Value.str (Str.ofString "match_balance") 486, Value.str (Str.ofString "Matcher.match_balance") 487, Value.str (Str.ofString "/claim/cut.py") 488, Value.int 244 0, Value.int 3 0, Value.int 0 0, Value.int 0 0, Value.int 3 0, Value.ref 205, Value.bool true, Value.int 181 0, Value.ref 206, Value.none, Value.ref 207, Value.ref 208, Value.ref 209, Value.int 496 0, Value.int 244 0, Value.str (Str.ofString "/claim/cut.py") 497] }),
  (nat_lit 211, { cls := Value.type "function", data := Data.func { name := Str.ofString "match_balance", qualname := Str.ofString "Matcher.match_balance", params := fP (clN 35 10), body := FuncBody.stmts (fB (clN 35 10)), scope := fS (clN 35 10), globals := 3, closure := [], defaults := Value.none, kwdefaults := Value.none, pyModule := Value.str (Str.ofString "lua.patterns") 269, code := Value.ref 210 } }),
  (nat_lit 212, { cls := Value.type "tuple", data := Data.seq #[] }),
  (nat_lit 214, { cls := Value.type "tuple", data := Data.seq #[Value.str (Str.ofString "self") 502, Value.str (Str.ofString "s") 503, Value.str (Str.ofString "p") 504, Value.str (Str.ofString "end") 505, Value.str (Str.ofString "ahead") 506, Value.str (Str.ofString "here") 507] }),
  (nat_lit 215, { cls := Value.type "tuple", data := Data.seq #[] }),
  (nat_lit 217, { cls := Value.type "code", data := Data.fields #[Value.str (Str.ofString "match_frontier") 499, Value.str (Str.ofString "Matcher.match_frontier") 500, Value.str (Str.ofString "/claim/cut.py") 501, Value.int 264 0, Value.int 3 0, Value.int 0 0, Value.int 0 0, Value.int 3 0, Value.ref 212, Value.bool true, Value.int 181 0, Value.ref 213, Value.none, Value.ref 214, Value.ref 215, Value.ref 216, Value.int 508 0, Value.int 264 0, Value.str (Str.ofString "/claim/cut.py") 509] }),
  (nat_lit 218, { cls := Value.type "function", data := Data.func { name := Str.ofString "match_frontier", qualname := Str.ofString "Matcher.match_frontier", params := fP (clN 35 11), body := FuncBody.stmts (fB (clN 35 11)), scope := fS (clN 35 11), globals := 3, closure := [], defaults := Value.none, kwdefaults := Value.none, pyModule := Value.str (Str.ofString "lua.patterns") 269, code := Value.ref 217 } }),
  (nat_lit 219, { cls := Value.type "tuple", data := Data.seq #[] }),
  (nat_lit 221, { cls := Value.type "tuple", data := Data.seq #[Value.str (Str.ofString "self") 514, Value.str (Str.ofString "s") 515, Value.str (Str.ofString "p") 516, Value.str (Str.ofString "end") 517, Value.str (Str.ofString "many") 518, Value.str (Str.ofString "found") 519] }),
  (nat_lit 222, { cls := Value.type "tuple", data := Data.seq #[] }),
  (nat_lit 224, { cls := Value.type "code", data := Data.fields #[Value.str (Str.ofString "expand_most") 511, Value.str (Str.ofString "Matcher.expand_most") 512, Value.str (Str.ofString "/claim/cut.py") 513, Value.int 274 0, Value.int 4 0, Value.int 0 0, Value.int 0 0, Value.int 3 0, Value.ref 219, Value.bool true, Value.int 181 0, Value.ref 220, Value.none, Value.ref 221, Value.ref 222, Value.ref 223, Value.int 520 0, Value.int 274 0, Value.str (Str.ofString "/claim/cut.py") 521] }),
  (nat_lit 225, { cls := Value.type "function", data := Data.func { name := Str.ofString "expand_most", qualname := Str.ofString "Matcher.expand_most", params := fP (clN 35 12), body := FuncBody.stmts (fB (clN 35 12)), scope := fS (clN 35 12), globals := 3, closure := [], defaults := Value.none, kwdefaults := Value.none, pyModule := Value.str (Str.ofString "lua.patterns") 269, code := Value.ref 224 } }),
  (nat_lit 226, { cls := Value.type "tuple", data := Data.seq #[] }),
  (nat_lit 228, { cls := Value.type "tuple", data := Data.seq #[Value.str (Str.ofString "self") 526, Value.str (Str.ofString "s") 527, Value.str (Str.ofString "p") 528, Value.str (Str.ofString "end") 529, Value.str (Str.ofString "found") 530] }),
  (nat_lit 229, { cls := Value.type "tuple", data := Data.seq #[] }),
  (nat_lit 231, { cls := Value.type "code", data := Data.fields #[Value.str (Str.ofString "expand_least") 523, Value.str (Str.ofString "Matcher.expand_least") 524, Value.str (Str.ofString "/claim/cut.py") 525, Value.int 286 0, Value.int 4 0, Value.int 0 0, Value.int 0 0, Value.int 3 0, Value.ref 226, Value.bool true, Value.int 181 0, Value.ref 227, Value.none, Value.ref 228, Value.ref 229, Value.ref 230, Value.int 531 0, Value.int 286 0, Value.str (Str.ofString "/claim/cut.py") 532] }),
  (nat_lit 232, { cls := Value.type "function", data := Data.func { name := Str.ofString "expand_least", qualname := Str.ofString "Matcher.expand_least", params := fP (clN 35 13), body := FuncBody.stmts (fB (clN 35 13)), scope := fS (clN 35 13), globals := 3, closure := [], defaults := Value.none, kwdefaults := Value.none, pyModule := Value.str (Str.ofString "lua.patterns") 269, code := Value.ref 231 } }),
  (nat_lit 233, { cls := Value.type "tuple", data := Data.seq #[] }),
  (nat_lit 235, { cls := Value.type "tuple", data := Data.seq #[Value.str (Str.ofString "self") 537, Value.str (Str.ofString "s") 538, Value.str (Str.ofString "p") 539, Value.str (Str.ofString "kind") 540, Value.str (Str.ofString "found") 541] }),
  (nat_lit 236, { cls := Value.type "tuple", data := Data.seq #[] }),
  (nat_lit 238, { cls := Value.type "code", data := Data.fields #[Value.str (Str.ofString "start_capture") 534, Value.str (Str.ofString "Matcher.start_capture") 535, Value.str (Str.ofString "/claim/cut.py") 536, Value.int 295 0, Value.int 4 0, Value.int 0 0, Value.int 0 0, Value.int 3 0, Value.ref 233, Value.bool true, Value.int 181 0, Value.ref 234, Value.none, Value.ref 235, Value.ref 236, Value.ref 237, Value.int 542 0, Value.int 295 0, Value.str (Str.ofString "/claim/cut.py") 543] }),
  (nat_lit 239, { cls := Value.type "function", data := Data.func { name := Str.ofString "start_capture", qualname := Str.ofString "Matcher.start_capture", params := fP (clN 35 14), body := FuncBody.stmts (fB (clN 35 14)), scope := fS (clN 35 14), globals := 3, closure := [], defaults := Value.none, kwdefaults := Value.none, pyModule := Value.str (Str.ofString "lua.patterns") 269, code := Value.ref 238 } }),
  (nat_lit 240, { cls := Value.type "tuple", data := Data.seq #[] }),
  (nat_lit 242, { cls := Value.type "tuple", data := Data.seq #[Value.str (Str.ofString "self") 548, Value.str (Str.ofString "s") 549, Value.str (Str.ofString "p") 550, Value.str (Str.ofString "number") 551, Value.str (Str.ofString "found") 552] }),
  (nat_lit 243, { cls := Value.type "tuple", data := Data.seq #[] }),
  (nat_lit 245, { cls := Value.type "code", data := Data.fields #[Value.str (Str.ofString "end_capture") 545, Value.str (Str.ofString "Matcher.end_capture") 546, Value.str (Str.ofString "/claim/cut.py") 547, Value.int 306 0, Value.int 3 0, Value.int 0 0, Value.int 0 0, Value.int 3 0, Value.ref 240, Value.bool true, Value.int 181 0, Value.ref 241, Value.none, Value.ref 242, Value.ref 243, Value.ref 244, Value.int 553 0, Value.int 306 0, Value.str (Str.ofString "/claim/cut.py") 554] }),
  (nat_lit 246, { cls := Value.type "function", data := Data.func { name := Str.ofString "end_capture", qualname := Str.ofString "Matcher.end_capture", params := fP (clN 35 15), body := FuncBody.stmts (fB (clN 35 15)), scope := fS (clN 35 15), globals := 3, closure := [], defaults := Value.none, kwdefaults := Value.none, pyModule := Value.str (Str.ofString "lua.patterns") 269, code := Value.ref 245 } }),
  (nat_lit 247, { cls := Value.type "tuple", data := Data.seq #[] }),
  (nat_lit 249, { cls := Value.type "tuple", data := Data.seq #[Value.str (Str.ofString "self") 559, Value.str (Str.ofString "number") 560] }),
  (nat_lit 250, { cls := Value.type "tuple", data := Data.seq #[] }),
  (nat_lit 252, { cls := Value.type "code", data := Data.fields #[Value.str (Str.ofString "to_close") 556, Value.str (Str.ofString "Matcher.to_close") 557, Value.str (Str.ofString "/claim/cut.py") 558, Value.int 314 0, Value.int 1 0, Value.int 0 0, Value.int 0 0, Value.int 3 0, Value.ref 247, Value.bool true, Value.int 181 0, Value.ref 248, Value.none, Value.ref 249, Value.ref 250, Value.ref 251, Value.int 561 0, Value.int 314 0, Value.str (Str.ofString "/claim/cut.py") 562] }),
  (nat_lit 253, { cls := Value.type "function", data := Data.func { name := Str.ofString "to_close", qualname := Str.ofString "Matcher.to_close", params := fP (clN 35 16), body := FuncBody.stmts (fB (clN 35 16)), scope := fS (clN 35 16), globals := 3, closure := [], defaults := Value.none, kwdefaults := Value.none, pyModule := Value.str (Str.ofString "lua.patterns") 269, code := Value.ref 252 } }),
  (nat_lit 254, { cls := Value.type "tuple", data := Data.seq #[] }),
  (nat_lit 256, { cls := Value.type "tuple", data := Data.seq #[Value.str (Str.ofString "self") 567, Value.str (Str.ofString "s") 568, Value.str (Str.ofString "digit") 569, Value.str (Str.ofString "number") 570, Value.str (Str.ofString "size") 571, Value.str (Str.ofString "start") 572] }),
  (nat_lit 257, { cls := Value.type "tuple", data := Data.seq #[] }),
  (nat_lit 259, { cls := Value.type "code", data := Data.fields #[Value.str (Str.ofString "match_capture") 564, Value.str (Str.ofString "Matcher.match_capture") 565, Value.str (Str.ofString "/claim/cut.py") 566, Value.int 322 0, Value.int 3 0, Value.int 0 0, Value.int 0 0, Value.int 3 0, Value.ref 254, Value.bool true, Value.int 181 0, Value.ref 255, Value.none, Value.ref 256, Value.ref 257, Value.ref 258, Value.int 573 0, Value.int 322 0, Value.str (Str.ofString "/claim/cut.py") 574] }),
  (nat_lit 260, { cls := Value.type "function", data := Data.func { name := Str.ofString "match_capture", qualname := Str.ofString "Matcher.match_capture", params := fP (clN 35 17), body := FuncBody.stmts (fB (clN 35 17)), scope := fS (clN 35 17), globals := 3, closure := [], defaults := Value.none, kwdefaults := Value.none, pyModule := Value.str (Str.ofString "lua.patterns") 269, code := Value.ref 259 } }),
  (nat_lit 261, { cls := Value.type "tuple", data := Data.seq #[] }),
  (nat_lit 263, { cls := Value.type "tuple", data := Data.seq #[Value.str (Str.ofString "self") 579, Value.str (Str.ofString "number") 580, Value.str (Str.ofString "s") 581, Value.str (Str.ofString "end") 582, Value.str (Str.ofString "size") 583, Value.str (Str.ofString "start") 584] }),
  (nat_lit 264, { cls := Value.type "tuple", data := Data.seq #[] }),
  (nat_lit 266, { cls := Value.type "code", data := Data.fields #[Value.str (Str.ofString "capture") 576, Value.str (Str.ofString "Matcher.capture") 577, Value.str (Str.ofString "/claim/cut.py") 578, Value.int 332 0, Value.int 4 0, Value.int 0 0, Value.int 0 0, Value.int 3 0, Value.ref 261, Value.bool true, Value.int 181 0, Value.ref 262, Value.none, Value.ref 263, Value.ref 264, Value.ref 265, Value.int 585 0, Value.int 332 0, Value.str (Str.ofString "/claim/cut.py") 586] }),
  (nat_lit 267, { cls := Value.type "function", data := Data.func { name := Str.ofString "capture", qualname := Str.ofString "Matcher.capture", params := fP (clN 35 18), body := FuncBody.stmts (fB (clN 35 18)), scope := fS (clN 35 18), globals := 3, closure := [], defaults := Value.none, kwdefaults := Value.none, pyModule := Value.str (Str.ofString "lua.patterns") 269, code := Value.ref 266 } }),
  (nat_lit 268, { cls := Value.type "tuple", data := Data.seq #[] }),
  (nat_lit 271, { cls := Value.type "code", data := Data.fields #[Value.str (Str.ofString "captures") 588, Value.str (Str.ofString "Matcher.captures") 589, Value.str (Str.ofString "/claim/cut.py") 590, Value.int 342 0, Value.int 4 0, Value.int 0 0, Value.int 0 0, Value.int 3 0, Value.ref 268, Value.bool true, Value.int 181 0, Value.ref 269, Value.none, Value.none, Value.none, Value.ref 270, Value.int 591 0, Value.int 342 0, Value.str (Str.ofString "/claim/cut.py") 592] }),
  (nat_lit 272, { cls := Value.type "function", data := Data.func { name := Str.ofString "captures", qualname := Str.ofString "Matcher.captures", params := fP (clN 35 19), body := FuncBody.stmts (fB (clN 35 19)), scope := fS (clN 35 19), globals := 3, closure := [], defaults := Value.none, kwdefaults := Value.none, pyModule := Value.str (Str.ofString "lua.patterns") 269, code := Value.ref 271 } }),
  (nat_lit 273, { cls := Value.type "tuple", data := Data.seq #[] }),
  (nat_lit 275, { cls := Value.type "tuple", data := Data.seq #[Value.str (Str.ofString "self") 597, Value.str (Str.ofString "init") 598, Value.str (Str.ofString "p") 599, Value.str (Str.ofString "is_anchored") 600] }),
  (nat_lit 276, { cls := Value.type "tuple", data := Data.seq #[] }),
  (nat_lit 278, { cls := Value.type "code", data := Data.fields #[Value.str (Str.ofString "search") 594, Value.str (Str.ofString "Matcher.search") 595, Value.str (Str.ofString "/claim/cut.py") 596, Value.int 346 0, Value.int 4 0, Value.int 0 0, Value.int 0 0, Value.int 3 0, Value.ref 273, Value.bool true, Value.int 181 0, Value.ref 274, Value.none, Value.ref 275, Value.ref 276, Value.ref 277, Value.int 601 0, Value.int 346 0, Value.str (Str.ofString "/claim/cut.py") 602] }),
  (nat_lit 279, { cls := Value.type "function", data := Data.func { name := Str.ofString "search", qualname := Str.ofString "Matcher.search", params := fP (clN 35 20), body := FuncBody.stmts (fB (clN 35 20)), scope := fS (clN 35 20), globals := 3, closure := [], defaults := Value.none, kwdefaults := Value.none, pyModule := Value.str (Str.ofString "lua.patterns") 269, code := Value.ref 278 } }),
  (nat_lit 280, { cls := Value.type "tuple", data := Data.seq #[Value.str (Str.ofString "depth") 604, Value.str (Str.ofString "lengths") 605, Value.str (Str.ofString "level") 606, Value.str (Str.ofString "most_depth") 607, Value.str (Str.ofString "pattern") 608, Value.str (Str.ofString "starts") 609, Value.str (Str.ofString "text") 610, Value.str (Str.ofString "tick") 611] }),
  (nat_lit 281, { cls := Value.type "dict", data := Data.dict #[{ hash := PyData.keyHash P (Str.ofString "__module__"), key := Value.str (Str.ofString "__module__") 376, val := Value.str (Str.ofString "lua.patterns") 269 }, { hash := PyData.keyHash P (Str.ofString "__firstlineno__"), key := Value.str (Str.ofString "__firstlineno__") 380, val := Value.int 109 379 }, { hash := PyData.keyHash P (Str.ofString "__init__"), key := Value.str (Str.ofString "__init__") 393, val := Value.ref 141 }, { hash := PyData.keyHash P (Str.ofString "count"), key := Value.str (Str.ofString "count") 400, val := Value.ref 148 }, { hash := PyData.keyHash P (Str.ofString "reset"), key := Value.str (Str.ofString "reset") 407, val := Value.ref 155 }, { hash := PyData.keyHash P (Str.ofString "at"), key := Value.str (Str.ofString "at") 415, val := Value.ref 162 }, { hash := PyData.keyHash P (Str.ofString "class_end"), key := Value.str (Str.ofString "class_end") 426, val := Value.ref 169 }, { hash := PyData.keyHash P (Str.ofString "in_set"), key := Value.str (Str.ofString "in_set") 438, val := Value.ref 176 }, { hash := PyData.keyHash P (Str.ofString "is_single"), key := Value.str (Str.ofString "is_single") 450, val := Value.ref 183 }, { hash := PyData.keyHash P (Str.ofString "match"), key := Value.str (Str.ofString "match") 460, val := Value.ref 190 }, { hash := PyData.keyHash P (Str.ofString "match_here"), key := Value.str (Str.ofString "match_here") 475, val := Value.ref 197 }, { hash := PyData.keyHash P (Str.ofString "match_special"), key := Value.str (Str.ofString "match_special") 485, val := Value.ref 204 }, { hash := PyData.keyHash P (Str.ofString "match_balance"), key := Value.str (Str.ofString "match_balance") 498, val := Value.ref 211 }, { hash := PyData.keyHash P (Str.ofString "match_frontier"), key := Value.str (Str.ofString "match_frontier") 510, val := Value.ref 218 }, { hash := PyData.keyHash P (Str.ofString "expand_most"), key := Value.str (Str.ofString "expand_most") 522, val := Value.ref 225 }, { hash := PyData.keyHash P (Str.ofString "expand_least"), key := Value.str (Str.ofString "expand_least") 533, val := Value.ref 232 }, { hash := PyData.keyHash P (Str.ofString "start_capture"), key := Value.str (Str.ofString "start_capture") 544, val := Value.ref 239 }, { hash := PyData.keyHash P (Str.ofString "end_capture"), key := Value.str (Str.ofString "end_capture") 555, val := Value.ref 246 }, { hash := PyData.keyHash P (Str.ofString "to_close"), key := Value.str (Str.ofString "to_close") 563, val := Value.ref 253 }, { hash := PyData.keyHash P (Str.ofString "match_capture"), key := Value.str (Str.ofString "match_capture") 575, val := Value.ref 260 }, { hash := PyData.keyHash P (Str.ofString "capture"), key := Value.str (Str.ofString "capture") 587, val := Value.ref 267 }, { hash := PyData.keyHash P (Str.ofString "captures"), key := Value.str (Str.ofString "captures") 593, val := Value.ref 272 }, { hash := PyData.keyHash P (Str.ofString "search"), key := Value.str (Str.ofString "search") 603, val := Value.ref 279 }, { hash := PyData.keyHash P (Str.ofString "__static_attributes__"), key := Value.str (Str.ofString "__static_attributes__") 612, val := Value.ref 280 }, { hash := PyData.keyHash P (Str.ofString "__dict__"), key := Value.str (Str.ofString "__dict__") 614, val := Value.ref 283 }, { hash := PyData.keyHash P (Str.ofString "__weakref__"), key := Value.str (Str.ofString "__weakref__") 616, val := Value.ref 284 }, { hash := PyData.keyHash P (Str.ofString "__doc__"), key := Value.str (Str.ofString "__doc__") 617, val := Value.none }] 4 }),
  (nat_lit 282, { cls := Value.type "type", data := Data.cls { name := Str.ofString "Matcher", bases := [Value.type "object"], mro := [Value.ref 282, Value.type "object"], ns := 281, qualname := Str.ofString "Matcher" }, slots := #[none, none, some (Value.str (Str.ofString "Matcher") 369), some (Value.str (Str.ofString "Matcher") 377), some (Value.builtin "object.__new__"), some (Value.bool true)] }),
  (nat_lit 283, { cls := Value.type "getset_descriptor", data := Data.fields #[Value.str (Str.ofString "__dict__") 613, Value.ref 282, Value.builtin "function.__dict__", Value.builtin "function.__dict__#set"] }),
  (nat_lit 284, { cls := Value.type "getset_descriptor", data := Data.fields #[Value.str (Str.ofString "__weakref__") 615, Value.ref 282, Value.builtin "ExceptionGroup.__weakref__", Value.none] }),
  (nat_lit 287, { cls := Value.type "tuple", data := Data.seq #[] }),
  (nat_lit 289, { cls := Value.type "tuple", data := Data.seq #[Value.str (Str.ofString "bag") 625, Value.str (Str.ofString "many") 626, Value.str (Str.ofString "at") 627] }),
  (nat_lit 290, { cls := Value.type "tuple", data := Data.seq #[] }),
  (nat_lit 292, { cls := Value.type "code", data := Data.fields #[Value.str (Str.ofString "_law_told") 622, Value.str (Str.ofString "_law_told") 623, Value.str (Str.ofString "/claim/cut.py") 624, Value.int 349 0, Value.int 2 0, Value.int 0 0, Value.int 0 0, Value.int 3 0, Value.ref 287, Value.bool true, Value.int 181 0, Value.ref 288, Value.none, Value.ref 289, Value.ref 290, Value.ref 291, Value.int 628 0, Value.int 349 0, Value.str (Str.ofString "/claim/cut.py") 629] }),
  (nat_lit 293, { cls := Value.type "function", data := Data.func { name := Str.ofString "_law_told", qualname := Str.ofString "_law_told", params := fP (stN 37), body := FuncBody.stmts (fB (stN 37)), scope := fS (stN 37), globals := 3, closure := [], defaults := Value.none, kwdefaults := Value.none, pyModule := Value.str (Str.ofString "law_tk0057_01") 620, code := Value.ref 292 } }),
  (nat_lit 294, { cls := Value.type "tuple", data := Data.seq #[] }),
  (nat_lit 296, { cls := Value.type "tuple", data := Data.seq #[Value.str (Str.ofString "text") 634, Value.str (Str.ofString "pattern") 635, Value.str (Str.ofString "news") 636, Value.str (Str.ofString "ends_at") 637, Value.str (Str.ofString "give") 638] }),
  (nat_lit 297, { cls := Value.type "tuple", data := Data.seq #[Value.str (Str.ofString "text") 639, Value.str (Str.ofString "news") 640, Value.str (Str.ofString "matcher") 641] }),
  (nat_lit 299, { cls := Value.type "code", data := Data.fields #[Value.str (Str.ofString "_law_done") 631, Value.str (Str.ofString "_law_done") 632, Value.str (Str.ofString "/claim/cut.py") 633, Value.int 355 0, Value.int 3 0, Value.int 0 0, Value.int 0 0, Value.int 3 0, Value.ref 294, Value.bool true, Value.int 181 0, Value.ref 295, Value.none, Value.ref 296, Value.ref 297, Value.ref 298, Value.int 642 0, Value.int 355 0, Value.str (Str.ofString "/claim/cut.py") 643] }),
  (nat_lit 300, { cls := Value.type "function", data := Data.func { name := Str.ofString "_law_done", qualname := Str.ofString "_law_done", params := fP (stN 38), body := FuncBody.stmts (fB (stN 38)), scope := fS (stN 38), globals := 3, closure := [], defaults := Value.none, kwdefaults := Value.none, pyModule := Value.str (Str.ofString "law_tk0057_01") 620, code := Value.ref 299 } }),
  (nat_lit 301, { cls := Value.type "tuple", data := Data.seq #[] }),
  (nat_lit 303, { cls := Value.type "tuple", data := Data.seq #[Value.str (Str.ofString "bag") 648, Value.str (Str.ofString "states") 649, Value.str (Str.ofString "rules") 650, Value.str (Str.ofString "state") 651, Value.str (Str.ofString "row") 652, Value.str (Str.ofString "sign") 653, Value.str (Str.ofString "form") 654] }),
  (nat_lit 304, { cls := Value.type "tuple", data := Data.seq #[] }),
  (nat_lit 306, { cls := Value.type "code", data := Data.fields #[Value.str (Str.ofString "_law_drawn") 645, Value.str (Str.ofString "_law_drawn") 646, Value.str (Str.ofString "/claim/cut.py") 647, Value.int 370 0, Value.int 2 0, Value.int 0 0, Value.int 0 0, Value.int 3 0, Value.ref 301, Value.bool true, Value.int 181 0, Value.ref 302, Value.none, Value.ref 303, Value.ref 304, Value.ref 305, Value.int 655 0, Value.int 370 0, Value.str (Str.ofString "/claim/cut.py") 656] }),
  (nat_lit 307, { cls := Value.type "function", data := Data.func { name := Str.ofString "_law_drawn", qualname := Str.ofString "_law_drawn", params := fP (stN 39), body := FuncBody.stmts (fB (stN 39)), scope := fS (stN 39), globals := 3, closure := [], defaults := Value.none, kwdefaults := Value.none, pyModule := Value.str (Str.ofString "law_tk0057_01") 620, code := Value.ref 306 } }),
  (nat_lit 308, { cls := Value.type "tuple", data := Data.seq #[] }),
  (nat_lit 310, { cls := Value.type "tuple", data := Data.seq #[Value.str (Str.ofString "state") 661, Value.str (Str.ofString "sign") 662, Value.str (Str.ofString "rule") 663, Value.str (Str.ofString "here") 664, Value.str (Str.ofString "later") 665, Value.str (Str.ofString "mark") 666] }),
  (nat_lit 311, { cls := Value.type "tuple", data := Data.seq #[] }),
  (nat_lit 313, { cls := Value.type "code", data := Data.fields #[Value.str (Str.ofString "_law_texts") 658, Value.str (Str.ofString "_law_texts") 659, Value.str (Str.ofString "/claim/cut.py") 660, Value.int 379 0, Value.int 3 0, Value.int 0 0, Value.int 0 0, Value.int 3 0, Value.ref 308, Value.bool true, Value.int 181 0, Value.ref 309, Value.none, Value.ref 310, Value.ref 311, Value.ref 312, Value.int 667 0, Value.int 379 0, Value.str (Str.ofString "/claim/cut.py") 668] }),
  (nat_lit 314, { cls := Value.type "function", data := Data.func { name := Str.ofString "_law_texts", qualname := Str.ofString "_law_texts", params := fP (stN 40), body := FuncBody.stmts (fB (stN 40)), scope := fS (stN 40), globals := 3, closure := [], defaults := Value.none, kwdefaults := Value.none, pyModule := Value.str (Str.ofString "law_tk0057_01") 620, code := Value.ref 313 } }),
  (nat_lit 315, { cls := Value.type "tuple", data := Data.seq #[] }),
  (nat_lit 318, { cls := Value.type "code", data := Data.fields #[Value.str (Str.ofString "_law_shown") 670, Value.str (Str.ofString "_law_shown") 671, Value.str (Str.ofString "/claim/cut.py") 672, Value.int 383 0, Value.int 3 0, Value.int 0 0, Value.int 0 0, Value.int 3 0, Value.ref 315, Value.bool true, Value.int 181 0, Value.ref 316, Value.none, Value.none, Value.none, Value.ref 317, Value.int 673 0, Value.int 383 0, Value.str (Str.ofString "/claim/cut.py") 674] }),
  (nat_lit 319, { cls := Value.type "function", data := Data.func { name := Str.ofString "_law_shown", qualname := Str.ofString "_law_shown", params := fP (stN 41), body := FuncBody.stmts (fB (stN 41)), scope := fS (stN 41), globals := 3, closure := [], defaults := Value.none, kwdefaults := Value.none, pyModule := Value.str (Str.ofString "law_tk0057_01") 620, code := Value.ref 318 } }),
  (nat_lit 320, { cls := Value.type "tuple", data := Data.seq #[] }),
  (nat_lit 322, { cls := Value.type "tuple", data := Data.seq #[Value.str (Str.ofString "tape") 679, Value.str (Str.ofString "place") 680, Value.str (Str.ofString "state") 681, Value.str (Str.ofString "rules") 682, Value.str (Str.ofString "rule") 683] }),
  (nat_lit 323, { cls := Value.type "tuple", data := Data.seq #[] }),
  (nat_lit 325, { cls := Value.type "code", data := Data.fields #[Value.str (Str.ofString "_law_due") 676, Value.str (Str.ofString "_law_due") 677, Value.str (Str.ofString "/claim/cut.py") 678, Value.int 386 0, Value.int 4 0, Value.int 0 0, Value.int 0 0, Value.int 3 0, Value.ref 320, Value.bool true, Value.int 181 0, Value.ref 321, Value.none, Value.ref 322, Value.ref 323, Value.ref 324, Value.int 684 0, Value.int 386 0, Value.str (Str.ofString "/claim/cut.py") 685] }),
  (nat_lit 326, { cls := Value.type "function", data := Data.func { name := Str.ofString "_law_due", qualname := Str.ofString "_law_due", params := fP (stN 42), body := FuncBody.stmts (fB (stN 42)), scope := fS (stN 42), globals := 3, closure := [], defaults := Value.none, kwdefaults := Value.none, pyModule := Value.str (Str.ofString "law_tk0057_01") 620, code := Value.ref 325 } }),
  (nat_lit 327, { cls := Value.type "tuple", data := Data.seq #[] }),
  (nat_lit 330, { cls := Value.type "code", data := Data.fields #[Value.str (Str.ofString "law") 687, Value.str (Str.ofString "law") 688, Value.str (Str.ofString "/claim/cut.py") 689, Value.int 393 0, Value.int 1 0, Value.int 0 0, Value.int 0 0, Value.int 3 0, Value.ref 327, Value.bool true, Value.int 181 0, Value.ref 328, Value.none, Value.none, Value.none, Value.ref 329, Value.int 690 0, Value.int 393 0, Value.str (Str.ofString "/claim/cut.py") 691] }),
  (nat_lit 331, { cls := Value.type "function", data := Data.func { name := Str.ofString "law", qualname := Str.ofString "law", params := fP (stN 43), body := FuncBody.stmts (fB (stN 43)), scope := fS (stN 43), globals := 3, closure := [], defaults := Value.none, kwdefaults := Value.none, pyModule := Value.str (Str.ofString "law_tk0057_01") 620, code := Value.ref 330 } })]
/-- the same, the parts written out -/
noncomputable def hd.heap_39 : Params → Frag := by
  refine (fun (_ : ?a = heapC) => ?a) ?h
  case h =>
    delta heapC
    dsimp only [fP, fB, fS, clN, stN, PySem.Challenge.pw_tk0057_01, List.drop, List.headD]
    exact (rfl : (fun (P : Params) => ((nat_lit 2, _) :: (nat_lit 3, _) :: (nat_lit 15, _) :: (nat_lit 17, _) :: (nat_lit 18, _) :: (nat_lit 20, _) :: (nat_lit 21, _) :: (nat_lit 22, _) :: (nat_lit 24, _) :: (nat_lit 25, _) :: (nat_lit 27, _) :: (nat_lit 28, _) :: (nat_lit 29, _) :: (nat_lit 30, _) :: (nat_lit 32, _) :: (nat_lit 33, _) :: (nat_lit 35, _) :: (nat_lit 36, _) :: (nat_lit 37, _) :: (nat_lit 39, _) :: (nat_lit 40, _) :: (nat_lit 42, _) :: (nat_lit 43, _) :: (nat_lit 44, _) :: (nat_lit 51, _) :: (nat_lit 53, _) :: (nat_lit 54, _) :: (nat_lit 56, _) :: (nat_lit 57, _) :: (nat_lit 58, _) :: (nat_lit 59, _) :: (nat_lit 60, _) :: (nat_lit 61, _) :: (nat_lit 64, _) :: (nat_lit 66, _) :: (nat_lit 67, _) :: (nat_lit 69, _) :: (nat_lit 70, _) :: (nat_lit 71, _) :: (nat_lit 73, _) :: (nat_lit 74, _) :: (nat_lit 76, _) :: (nat_lit 77, _) :: (nat_lit 78, _) :: (nat_lit 80, _) :: (nat_lit 81, _) :: (nat_lit 83, _) :: (nat_lit 84, _) :: (nat_lit 85, _) :: (nat_lit 87, _) :: (nat_lit 88, _) :: (nat_lit 90, _) :: (nat_lit 91, _) :: (nat_lit 92, _) :: (nat_lit 94, _) :: (nat_lit 95, _) :: (nat_lit 97, _) :: (nat_lit 98, _) :: (nat_lit 99, _) :: (nat_lit 101, _) :: (nat_lit 102, _) :: (nat_lit 104, _) :: (nat_lit 105, _) :: (nat_lit 106, _) :: (nat_lit 108, _) :: (nat_lit 109, _) :: (nat_lit 111, _) :: (nat_lit 112, _) :: (nat_lit 113, _) :: (nat_lit 115, _) :: (nat_lit 116, _) :: (nat_lit 118, _) :: (nat_lit 119, _) :: (nat_lit 120, _) :: (nat_lit 122, _) :: (nat_lit 123, _) :: (nat_lit 125, _) :: (nat_lit 126, _) :: (nat_lit 134, _) :: (nat_lit 135, _) :: (nat_lit 137, _) :: (nat_lit 138, _) :: (nat_lit 140, _) :: (nat_lit 141, _) :: (nat_lit 142, _) :: (nat_lit 144, _) :: (nat_lit 145, _) :: (nat_lit 147, _) :: (nat_lit 148, _) :: (nat_lit 149, _) :: (nat_lit 151, _) :: (nat_lit 152, _) :: (nat_lit 154, _) :: (nat_lit 155, _) :: (nat_lit 156, _) :: (nat_lit 158, _) :: (nat_lit 159, _) :: (nat_lit 161, _) :: (nat_lit 162, _) :: (nat_lit 163, _) :: (nat_lit 165, _) :: (nat_lit 166, _) :: (nat_lit 168, _) :: (nat_lit 169, _) :: (nat_lit 170, _) :: (nat_lit 172, _) :: (nat_lit 173, _) :: (nat_lit 175, _) :: (nat_lit 176, _) :: (nat_lit 177, _) :: (nat_lit 179, _) :: (nat_lit 180, _) :: (nat_lit 182, _) :: (nat_lit 183, _) :: (nat_lit 184, _) :: (nat_lit 186, _) :: (nat_lit 187, _) :: (nat_lit 189, _) :: (nat_lit 190, _) :: (nat_lit 191, _) :: (nat_lit 193, _) :: (nat_lit 194, _) :: (nat_lit 196, _) :: (nat_lit 197, _) :: (nat_lit 198, _) :: (nat_lit 200, _) :: (nat_lit 201, _) :: (nat_lit 203, _) :: (nat_lit 204, _) :: (nat_lit 205, _) :: (nat_lit 207, _) :: (nat_lit 208, _) :: (nat_lit 210, _) :: (nat_lit 211, _) :: (nat_lit 212, _) :: (nat_lit 214, _) :: (nat_lit 215, _) :: (nat_lit 217, _) :: (nat_lit 218, _) :: (nat_lit 219, _) :: (nat_lit 221, _) :: (nat_lit 222, _) :: (nat_lit 224, _) :: (nat_lit 225, _) :: (nat_lit 226, _) :: (nat_lit 228, _) :: (nat_lit 229, _) :: (nat_lit 231, _) :: (nat_lit 232, _) :: (nat_lit 233, _) :: (nat_lit 235, _) :: (nat_lit 236, _) :: (nat_lit 238, _) :: (nat_lit 239, _) :: (nat_lit 240, _) :: (nat_lit 242, _) :: (nat_lit 243, _) :: (nat_lit 245, _) :: (nat_lit 246, _) :: (nat_lit 247, _) :: (nat_lit 249, _) :: (nat_lit 250, _) :: (nat_lit 252, _) :: (nat_lit 253, _) :: (nat_lit 254, _) :: (nat_lit 256, _) :: (nat_lit 257, _) :: (nat_lit 259, _) :: (nat_lit 260, _) :: (nat_lit 261, _) :: (nat_lit 263, _) :: (nat_lit 264, _) :: (nat_lit 266, _) :: (nat_lit 267, _) :: (nat_lit 268, _) :: (nat_lit 271, _) :: (nat_lit 272, _) :: (nat_lit 273, _) :: (nat_lit 275, _) :: (nat_lit 276, _) :: (nat_lit 278, _) :: (nat_lit 279, _) :: (nat_lit 280, _) :: (nat_lit 281, _) :: (nat_lit 282, _) :: (nat_lit 283, _) :: (nat_lit 284, _) :: (nat_lit 287, _) :: (nat_lit 289, _) :: (nat_lit 290, _) :: (nat_lit 292, _) :: (nat_lit 293, _) :: (nat_lit 294, _) :: (nat_lit 296, _) :: (nat_lit 297, _) :: (nat_lit 299, _) :: (nat_lit 300, _) :: (nat_lit 301, _) :: (nat_lit 303, _) :: (nat_lit 304, _) :: (nat_lit 306, _) :: (nat_lit 307, _) :: (nat_lit 308, _) :: (nat_lit 310, _) :: (nat_lit 311, _) :: (nat_lit 313, _) :: (nat_lit 314, _) :: (nat_lit 315, _) :: (nat_lit 318, _) :: (nat_lit 319, _) :: (nat_lit 320, _) :: (nat_lit 322, _) :: (nat_lit 323, _) :: (nat_lit 325, _) :: (nat_lit 326, _) :: (nat_lit 327, _) :: (nat_lit 330, _) :: (nat_lit 331, _) :: [] : Frag)) = _)
noncomputable def hd.view_39 : Program := { PySem.Challenge.pw_tk0057_01 with main := { PySem.Challenge.pw_tk0057_01.main with body := ([0, 2, 3, 4, 5, 7, 9, 11, 12, 13, 14, 15, 16, 17, 18, 19, 20, 21, 22, 23, 24, 25, 26, 27, 28, 29, 30, 31, 32, 33, 34, 35, 37, 38, 39, 40, 41, 42, 43] : List Nat).map stN } }
def hd.addrs : List Addr := [2, 3, 15, 17, 18, 20, 21, 22, 24, 25, 27, 28, 29, 30, 32, 33, 35, 36, 37, 39, 40, 42, 43, 44, 51, 53, 54, 56, 57, 58, 59, 60, 61, 64, 66, 67, 69, 70, 71, 73, 74, 76, 77, 78, 80, 81, 83, 84, 85, 87, 88, 90, 91, 92, 94, 95, 97, 98, 99, 101, 102, 104, 105, 106, 108, 109, 111, 112, 113, 115, 116, 118, 119, 120, 122, 123, 125, 126, 134, 135, 137, 138, 140, 141, 142, 144, 145, 147, 148, 149, 151, 152, 154, 155, 156, 158, 159, 161, 162, 163, 165, 166, 168, 169, 170, 172, 173, 175, 176, 177, 179, 180, 182, 183, 184, 186, 187, 189, 190, 191, 193, 194, 196, 197, 198, 200, 201, 203, 204, 205, 207, 208, 210, 211, 212, 214, 215, 217, 218, 219, 221, 222, 224, 225, 226, 228, 229, 231, 232, 233, 235, 236, 238, 239, 240, 242, 243, 245, 246, 247, 249, 250, 252, 253, 254, 256, 257, 259, 260, 261, 263, 264, 266, 267, 268, 271, 272, 273, 275, 276, 278, 279, 280, 281, 282, 283, 284, 287, 289, 290, 292, 293, 294, 296, 297, 299, 300, 301, 303, 304, 306, 307, 308, 310, 311, 313, 314, 315, 318, 319, 320, 322, 323, 325, 326, 327, 330, 331]
theorem hd.addrs_eq : ∀ P, hd.addrs = (hd.heap_39 P).map (·.1) := fun _ => by kernel_rfl
noncomputable abbrev hd.hook : Hook := kmHook hd.heap_39 hd.addrs hd.addrs_eq [295]
/-- the objects that the walk does not keep -/
noncomputable def hd.more (P : Params) : Frag := [
  (0, boot_o_0 P),
  (1, boot_o_1 P),
  (4, boot_o_4 P),
  (5, boot_o_5 P),
  (6, boot_o_6 P),
  (7, boot_o_7 P),
  (8, boot_o_8 P),
  (9, boot_o_9 P),
  (10, boot_o_10 P),
  (11, { cls := Value.type "tuple", data := Data.seq #[] }),
  (12, { cls := Value.none, data := Data.fields #[Value.int 1 0, Value.int 0 0, Value.ref 20, Value.int 8 0, Value.int 0 0, Value.ref 27, Value.int 10 0, Value.int 0 0, Value.ref 35, Value.int 27 0, Value.int 0 0, Value.ref 42, Value.int 46 0, Value.int 0 0, Value.ref 49, Value.int 68 0, Value.int 0 0, Value.ref 69, Value.int 70 0, Value.int 0 0, Value.ref 76, Value.int 72 0, Value.int 0 0, Value.ref 83, Value.int 74 0, Value.int 0 0, Value.ref 90, Value.int 76 0, Value.int 0 0, Value.ref 97, Value.int 78 0, Value.int 0 0, Value.ref 104, Value.int 80 0, Value.int 0 0, Value.ref 111, Value.int 82 0, Value.int 0 0, Value.ref 118, Value.int 84 0, Value.int 0 0, Value.ref 125, Value.int 109 0, Value.int 0 0, Value.ref 132, Value.int 349 0, Value.int 0 0, Value.ref 292, Value.int 355 0, Value.int 0 0, Value.ref 299, Value.int 370 0, Value.int 0 0, Value.ref 306, Value.int 379 0, Value.int 0 0, Value.ref 313, Value.int 383 0, Value.int 0 0, Value.ref 318, Value.int 386 0, Value.int 0 0, Value.ref 325, Value.int 393 0, Value.int 0 0, Value.ref 330] }),
  (13, { cls := Value.type "code", data := Data.fields #[Value.str (Str.ofString "<module>") 182, Value.str (Str.ofString "<module>") 183, Value.str (Str.ofString "/claim/cut.py") 184, Value.int 1 0, Value.int 0 0, Value.int 0 0, Value.int 0 0, Value.int 0 0, Value.ref 11, Value.bool false, Value.int 181 0, Value.ref 12, Value.none, Value.none, Value.none, Value.none, Value.int 185 0, Value.int 1 0, Value.str (Str.ofString "/claim/cut.py") 186] }),
  (14, { cls := Value.type "frame", slots := #[some (Value.ref 13), some (Value.ref 3), some (Value.ref 3), none, some (Value.str (Str.ofString "__main__") 164), none, some (Value.ref 0)] }),
  (16, { cls := Value.none, data := Data.fields #[] }),
  (19, { cls := Value.none, data := Data.func { name := Str.ofString "_wall", qualname := Str.ofString "_wall", params := fP (stN 0), body := FuncBody.stmts (fB (stN 0)), scope := fS (stN 0), globals := 0, closure := [], defaults := Value.none, kwdefaults := Value.none } }),
  (23, { cls := Value.none, data := Data.fields #[] }),
  (26, { cls := Value.none, data := Data.func { name := Str.ofString "capture_text", qualname := Str.ofString "capture_text", params := fP (stN 5), body := FuncBody.stmts (fB (stN 5)), scope := fS (stN 5), globals := 0, closure := [], defaults := Value.none, kwdefaults := Value.none } }),
  (31, { cls := Value.none, data := Data.fields #[] }),
  (34, { cls := Value.none, data := Data.func { name := Str.ofString "expanded", qualname := Str.ofString "expanded", params := fP (stN 6), body := FuncBody.stmts (fB (stN 6)), scope := fS (stN 6), globals := 0, closure := [], defaults := Value.none, kwdefaults := Value.none } }),
  (38, { cls := Value.none, data := Data.fields #[] }),
  (41, { cls := Value.none, data := Data.func { name := Str.ofString "replaced", qualname := Str.ofString "replaced", params := fP (stN 7), body := FuncBody.stmts (fB (stN 7)), scope := fS (stN 7), globals := 0, closure := [], defaults := Value.none, kwdefaults := Value.none } }),
  (45, { cls := Value.type "builtin_function_or_method", data := Data.fields #[Value.builtin "type.__prepare__", Value.type "type"] }),
  (46, { cls := Value.type "dict", data := Data.dict #[{ hash := PyData.keyHash P (Str.ofString "__module__"), key := Value.str (Str.ofString "__module__") 245, val := Value.str (Str.ofString "lua.values") 236 }, { hash := PyData.keyHash P (Str.ofString "__qualname__"), key := Value.str (Str.ofString "__qualname__") 247, val := Value.str (Str.ofString "LuaError") 246 }, { hash := PyData.keyHash P (Str.ofString "__firstlineno__"), key := Value.str (Str.ofString "__firstlineno__") 249, val := Value.int 46 248 }, { hash := PyData.keyHash P (Str.ofString "__init__"), key := Value.str (Str.ofString "__init__") 257, val := Value.ref 57 }, { hash := PyData.keyHash P (Str.ofString "__static_attributes__"), key := Value.str (Str.ofString "__static_attributes__") 261, val := Value.ref 58 }] 5 }),
  (47, { cls := Value.type "tuple", data := Data.seq #[] }),
  (48, { cls := Value.none, data := Data.fields #[Value.int 48 0, Value.int 4 0, Value.ref 56] }),
  (49, { cls := Value.type "code", data := Data.fields #[Value.str (Str.ofString "LuaError") 240, Value.str (Str.ofString "LuaError") 241, Value.str (Str.ofString "/claim/cut.py") 242, Value.int 46 0, Value.int 0 0, Value.int 0 0, Value.int 0 0, Value.int 0 0, Value.ref 47, Value.bool false, Value.int 181 0, Value.ref 48, Value.none, Value.none, Value.none, Value.none, Value.int 243 0, Value.int 46 0, Value.str (Str.ofString "/claim/cut.py") 244] }),
  (50, { cls := Value.type "frame", slots := #[some (Value.ref 49), some (Value.ref 3), some (Value.ref 46), none, some (Value.str (Str.ofString "lua.values") 236), none, some (Value.ref 0)] }),
  (52, { cls := Value.none, data := Data.fields #[] }),
  (55, { cls := Value.none, data := Data.func { name := Str.ofString "__init__", qualname := Str.ofString "LuaError.__init__", params := fP (clN 9 0), body := FuncBody.stmts (fB (clN 9 0)), scope := fS (clN 9 0), globals := 0, closure := [], defaults := Value.none, kwdefaults := Value.none } }),
  (62, { cls := Value.type "super", data := Data.fields #[Value.ref 60, Value.ref 60, Value.ref 60] }),
  (63, { cls := Value.type "builtin_function_or_method", data := Data.fields #[Value.builtin "object.__init_subclass__", Value.ref 60] }),
  (65, { cls := Value.none, data := Data.fields #[] }),
  (68, { cls := Value.none, data := Data.func { name := Str.ofString "is_lower", qualname := Str.ofString "is_lower", params := fP (stN 26), body := FuncBody.stmts (fB (stN 26)), scope := fS (stN 26), globals := 0, closure := [], defaults := Value.none, kwdefaults := Value.none } }),
  (72, { cls := Value.none, data := Data.fields #[] }),
  (75, { cls := Value.none, data := Data.func { name := Str.ofString "is_upper", qualname := Str.ofString "is_upper", params := fP (stN 27), body := FuncBody.stmts (fB (stN 27)), scope := fS (stN 27), globals := 0, closure := [], defaults := Value.none, kwdefaults := Value.none } }),
  (79, { cls := Value.none, data := Data.fields #[] }),
  (82, { cls := Value.none, data := Data.func { name := Str.ofString "is_alpha", qualname := Str.ofString "is_alpha", params := fP (stN 28), body := FuncBody.stmts (fB (stN 28)), scope := fS (stN 28), globals := 0, closure := [], defaults := Value.none, kwdefaults := Value.none } }),
  (86, { cls := Value.none, data := Data.fields #[] }),
  (89, { cls := Value.none, data := Data.func { name := Str.ofString "is_digit", qualname := Str.ofString "is_digit", params := fP (stN 29), body := FuncBody.stmts (fB (stN 29)), scope := fS (stN 29), globals := 0, closure := [], defaults := Value.none, kwdefaults := Value.none } }),
  (93, { cls := Value.none, data := Data.fields #[] }),
  (96, { cls := Value.none, data := Data.func { name := Str.ofString "is_space", qualname := Str.ofString "is_space", params := fP (stN 30), body := FuncBody.stmts (fB (stN 30)), scope := fS (stN 30), globals := 0, closure := [], defaults := Value.none, kwdefaults := Value.none } }),
  (100, { cls := Value.none, data := Data.fields #[] }),
  (103, { cls := Value.none, data := Data.func { name := Str.ofString "is_control", qualname := Str.ofString "is_control", params := fP (stN 31), body := FuncBody.stmts (fB (stN 31)), scope := fS (stN 31), globals := 0, closure := [], defaults := Value.none, kwdefaults := Value.none } }),
  (107, { cls := Value.none, data := Data.fields #[] }),
  (110, { cls := Value.none, data := Data.func { name := Str.ofString "is_punctuation", qualname := Str.ofString "is_punctuation", params := fP (stN 32), body := FuncBody.stmts (fB (stN 32)), scope := fS (stN 32), globals := 0, closure := [], defaults := Value.none, kwdefaults := Value.none } }),
  (114, { cls := Value.none, data := Data.fields #[] }),
  (117, { cls := Value.none, data := Data.func { name := Str.ofString "is_hex", qualname := Str.ofString "is_hex", params := fP (stN 33), body := FuncBody.stmts (fB (stN 33)), scope := fS (stN 33), globals := 0, closure := [], defaults := Value.none, kwdefaults := Value.none } }),
  (121, { cls := Value.none, data := Data.fields #[] }),
  (124, { cls := Value.none, data := Data.func { name := Str.ofString "in_class", qualname := Str.ofString "in_class", params := fP (stN 34), body := FuncBody.stmts (fB (stN 34)), scope := fS (stN 34), globals := 0, closure := [], defaults := Value.none, kwdefaults := Value.none } }),
  (127, { cls := Value.type "tuple", data := Data.seq #[] }),
  (128, { cls := Value.type "builtin_function_or_method", data := Data.fields #[Value.builtin "type.__prepare__", Value.type "type"] }),
  (129, { cls := Value.type "dict", data := Data.dict #[{ hash := PyData.keyHash P (Str.ofString "__module__"), key := Value.str (Str.ofString "__module__") 376, val := Value.str (Str.ofString "lua.patterns") 269 }, { hash := PyData.keyHash P (Str.ofString "__qualname__"), key := Value.str (Str.ofString "__qualname__") 378, val := Value.str (Str.ofString "Matcher") 377 }, { hash := PyData.keyHash P (Str.ofString "__firstlineno__"), key := Value.str (Str.ofString "__firstlineno__") 380, val := Value.int 109 379 }, { hash := PyData.keyHash P (Str.ofString "__init__"), key := Value.str (Str.ofString "__init__") 393, val := Value.ref 141 }, { hash := PyData.keyHash P (Str.ofString "count"), key := Value.str (Str.ofString "count") 400, val := Value.ref 148 }, { hash := PyData.keyHash P (Str.ofString "reset"), key := Value.str (Str.ofString "reset") 407, val := Value.ref 155 }, { hash := PyData.keyHash P (Str.ofString "at"), key := Value.str (Str.ofString "at") 415, val := Value.ref 162 }, { hash := PyData.keyHash P (Str.ofString "class_end"), key := Value.str (Str.ofString "class_end") 426, val := Value.ref 169 }, { hash := PyData.keyHash P (Str.ofString "in_set"), key := Value.str (Str.ofString "in_set") 438, val := Value.ref 176 }, { hash := PyData.keyHash P (Str.ofString "is_single"), key := Value.str (Str.ofString "is_single") 450, val := Value.ref 183 }, { hash := PyData.keyHash P (Str.ofString "match"), key := Value.str (Str.ofString "match") 460, val := Value.ref 190 }, { hash := PyData.keyHash P (Str.ofString "match_here"), key := Value.str (Str.ofString "match_here") 475, val := Value.ref 197 }, { hash := PyData.keyHash P (Str.ofString "match_special"), key := Value.str (Str.ofString "match_special") 485, val := Value.ref 204 }, { hash := PyData.keyHash P (Str.ofString "match_balance"), key := Value.str (Str.ofString "match_balance") 498, val := Value.ref 211 }, { hash := PyData.keyHash P (Str.ofString "match_frontier"), key := Value.str (Str.ofString "match_frontier") 510, val := Value.ref 218 }, { hash := PyData.keyHash P (Str.ofString "expand_most"), key := Value.str (Str.ofString "expand_most") 522, val := Value.ref 225 }, { hash := PyData.keyHash P (Str.ofString "expand_least"), key := Value.str (Str.ofString "expand_least") 533, val := Value.ref 232 }, { hash := PyData.keyHash P (Str.ofString "start_capture"), key := Value.str (Str.ofString "start_capture") 544, val := Value.ref 239 }, { hash := PyData.keyHash P (Str.ofString "end_capture"), key := Value.str (Str.ofString "end_capture") 555, val := Value.ref 246 }, { hash := PyData.keyHash P (Str.ofString "to_close"), key := Value.str (Str.ofString "to_close") 563, val := Value.ref 253 }, { hash := PyData.keyHash P (Str.ofString "match_capture"), key := Value.str (Str.ofString "match_capture") 575, val := Value.ref 260 }, { hash := PyData.keyHash P (Str.ofString "capture"), key := Value.str (Str.ofString "capture") 587, val := Value.ref 267 }, { hash := PyData.keyHash P (Str.ofString "captures"), key := Value.str (Str.ofString "captures") 593, val := Value.ref 272 }, { hash := PyData.keyHash P (Str.ofString "search"), key := Value.str (Str.ofString "search") 603, val := Value.ref 279 }, { hash := PyData.keyHash P (Str.ofString "__static_attributes__"), key := Value.str (Str.ofString "__static_attributes__") 612, val := Value.ref 280 }] 25 }),
  (130, { cls := Value.type "tuple", data := Data.seq #[] }),
  (131, { cls := Value.none, data := Data.fields #[Value.int 111 0, Value.int 4 0, Value.ref 140, Value.int 122 0, Value.int 4 0, Value.ref 147, Value.int 126 0, Value.int 4 0, Value.ref 154, Value.int 132 0, Value.int 4 0, Value.ref 161, Value.int 135 0, Value.int 4 0, Value.ref 168, Value.int 157 0, Value.int 4 0, Value.ref 175, Value.int 178 0, Value.int 4 0, Value.ref 182, Value.int 190 0, Value.int 4 0, Value.ref 189, Value.int 199 0, Value.int 4 0, Value.ref 196, Value.int 237 0, Value.int 4 0, Value.ref 203, Value.int 244 0, Value.int 4 0, Value.ref 210, Value.int 264 0, Value.int 4 0, Value.ref 217, Value.int 274 0, Value.int 4 0, Value.ref 224, Value.int 286 0, Value.int 4 0, Value.ref 231, Value.int 295 0, Value.int 4 0, Value.ref 238, Value.int 306 0, Value.int 4 0, Value.ref 245, Value.int 314 0, Value.int 4 0, Value.ref 252, Value.int 322 0, Value.int 4 0, Value.ref 259, Value.int 332 0, Value.int 4 0, Value.ref 266, Value.int 342 0, Value.int 4 0, Value.ref 271, Value.int 346 0, Value.int 4 0, Value.ref 278] }),
  (132, { cls := Value.type "code", data := Data.fields #[Value.str (Str.ofString "Matcher") 371, Value.str (Str.ofString "Matcher") 372, Value.str (Str.ofString "/claim/cut.py") 373, Value.int 109 0, Value.int 0 0, Value.int 0 0, Value.int 0 0, Value.int 0 0, Value.ref 130, Value.bool false, Value.int 181 0, Value.ref 131, Value.none, Value.none, Value.none, Value.none, Value.int 374 0, Value.int 109 0, Value.str (Str.ofString "/claim/cut.py") 375] }),
  (133, { cls := Value.type "frame", slots := #[some (Value.ref 132), some (Value.ref 3), some (Value.ref 129), none, some (Value.str (Str.ofString "lua.patterns") 269), none, some (Value.ref 0)] }),
  (136, { cls := Value.none, data := Data.fields #[] }),
  (139, { cls := Value.none, data := Data.func { name := Str.ofString "__init__", qualname := Str.ofString "Matcher.__init__", params := fP (clN 35 0), body := FuncBody.stmts (fB (clN 35 0)), scope := fS (clN 35 0), globals := 0, closure := [], defaults := Value.none, kwdefaults := Value.none } }),
  (143, { cls := Value.none, data := Data.fields #[] }),
  (146, { cls := Value.none, data := Data.func { name := Str.ofString "count", qualname := Str.ofString "Matcher.count", params := fP (clN 35 1), body := FuncBody.stmts (fB (clN 35 1)), scope := fS (clN 35 1), globals := 0, closure := [], defaults := Value.none, kwdefaults := Value.none } }),
  (150, { cls := Value.none, data := Data.fields #[] }),
  (153, { cls := Value.none, data := Data.func { name := Str.ofString "reset", qualname := Str.ofString "Matcher.reset", params := fP (clN 35 2), body := FuncBody.stmts (fB (clN 35 2)), scope := fS (clN 35 2), globals := 0, closure := [], defaults := Value.none, kwdefaults := Value.none } }),
  (157, { cls := Value.none, data := Data.fields #[] }),
  (160, { cls := Value.none, data := Data.func { name := Str.ofString "at", qualname := Str.ofString "Matcher.at", params := fP (clN 35 3), body := FuncBody.stmts (fB (clN 35 3)), scope := fS (clN 35 3), globals := 0, closure := [], defaults := Value.none, kwdefaults := Value.none } }),
  (164, { cls := Value.none, data := Data.fields #[] }),
  (167, { cls := Value.none, data := Data.func { name := Str.ofString "class_end", qualname := Str.ofString "Matcher.class_end", params := fP (clN 35 4), body := FuncBody.stmts (fB (clN 35 4)), scope := fS (clN 35 4), globals := 0, closure := [], defaults := Value.none, kwdefaults := Value.none } }),
  (171, { cls := Value.none, data := Data.fields #[] }),
  (174, { cls := Value.none, data := Data.func { name := Str.ofString "in_set", qualname := Str.ofString "Matcher.in_set", params := fP (clN 35 5), body := FuncBody.stmts (fB (clN 35 5)), scope := fS (clN 35 5), globals := 0, closure := [], defaults := Value.none, kwdefaults := Value.none } }),
  (178, { cls := Value.none, data := Data.fields #[] }),
  (181, { cls := Value.none, data := Data.func { name := Str.ofString "is_single", qualname := Str.ofString "Matcher.is_single", params := fP (clN 35 6), body := FuncBody.stmts (fB (clN 35 6)), scope := fS (clN 35 6), globals := 0, closure := [], defaults := Value.none, kwdefaults := Value.none } }),
  (185, { cls := Value.none, data := Data.fields #[] }),
  (188, { cls := Value.none, data := Data.func { name := Str.ofString "match", qualname := Str.ofString "Matcher.match", params := fP (clN 35 7), body := FuncBody.stmts (fB (clN 35 7)), scope := fS (clN 35 7), globals := 0, closure := [], defaults := Value.none, kwdefaults := Value.none } }),
  (192, { cls := Value.none, data := Data.fields #[] }),
  (195, { cls := Value.none, data := Data.func { name := Str.ofString "match_here", qualname := Str.ofString "Matcher.match_here", params := fP (clN 35 8), body := FuncBody.stmts (fB (clN 35 8)), scope := fS (clN 35 8), globals := 0, closure := [], defaults := Value.none, kwdefaults := Value.none } }),
  (199, { cls := Value.none, data := Data.fields #[] }),
  (202, { cls := Value.none, data := Data.func { name := Str.ofString "match_special", qualname := Str.ofString "Matcher.match_special", params := fP (clN 35 9), body := FuncBody.stmts (fB (clN 35 9)), scope := fS (clN 35 9), globals := 0, closure := [], defaults := Value.none, kwdefaults := Value.none } }),
  (206, { cls := Value.none, data := Data.fields #[] }),
  (209, { cls := Value.none, data := Data.func { name := Str.ofString "match_balance", qualname := Str.ofString "Matcher.match_balance", params := fP (clN 35 10), body := FuncBody.stmts (fB (clN 35 10)), scope := fS (clN 35 10), globals := 0, closure := [], defaults := Value.none, kwdefaults := Value.none } }),
  (213, { cls := Value.none, data := Data.fields #[] }),
  (216, { cls := Value.none, data := Data.func { name := Str.ofString "match_frontier", qualname := Str.ofString "Matcher.match_frontier", params := fP (clN 35 11), body := FuncBody.stmts (fB (clN 35 11)), scope := fS (clN 35 11), globals := 0, closure := [], defaults := Value.none, kwdefaults := Value.none } }),
  (220, { cls := Value.none, data := Data.fields #[] }),
  (223, { cls := Value.none, data := Data.func { name := Str.ofString "expand_most", qualname := Str.ofString "Matcher.expand_most", params := fP (clN 35 12), body := FuncBody.stmts (fB (clN 35 12)), scope := fS (clN 35 12), globals := 0, closure := [], defaults := Value.none, kwdefaults := Value.none } }),
  (227, { cls := Value.none, data := Data.fields #[] }),
  (230, { cls := Value.none, data := Data.func { name := Str.ofString "expand_least", qualname := Str.ofString "Matcher.expand_least", params := fP (clN 35 13), body := FuncBody.stmts (fB (clN 35 13)), scope := fS (clN 35 13), globals := 0, closure := [], defaults := Value.none, kwdefaults := Value.none } }),
  (234, { cls := Value.none, data := Data.fields #[] }),
  (237, { cls := Value.none, data := Data.func { name := Str.ofString "start_capture", qualname := Str.ofString "Matcher.start_capture", params := fP (clN 35 14), body := FuncBody.stmts (fB (clN 35 14)), scope := fS (clN 35 14), globals := 0, closure := [], defaults := Value.none, kwdefaults := Value.none } }),
  (241, { cls := Value.none, data := Data.fields #[] }),
  (244, { cls := Value.none, data := Data.func { name := Str.ofString "end_capture", qualname := Str.ofString "Matcher.end_capture", params := fP (clN 35 15), body := FuncBody.stmts (fB (clN 35 15)), scope := fS (clN 35 15), globals := 0, closure := [], defaults := Value.none, kwdefaults := Value.none } }),
  (248, { cls := Value.none, data := Data.fields #[] }),
  (251, { cls := Value.none, data := Data.func { name := Str.ofString "to_close", qualname := Str.ofString "Matcher.to_close", params := fP (clN 35 16), body := FuncBody.stmts (fB (clN 35 16)), scope := fS (clN 35 16), globals := 0, closure := [], defaults := Value.none, kwdefaults := Value.none } }),
  (255, { cls := Value.none, data := Data.fields #[] }),
  (258, { cls := Value.none, data := Data.func { name := Str.ofString "match_capture", qualname := Str.ofString "Matcher.match_capture", params := fP (clN 35 17), body := FuncBody.stmts (fB (clN 35 17)), scope := fS (clN 35 17), globals := 0, closure := [], defaults := Value.none, kwdefaults := Value.none } }),
  (262, { cls := Value.none, data := Data.fields #[] }),
  (265, { cls := Value.none, data := Data.func { name := Str.ofString "capture", qualname := Str.ofString "Matcher.capture", params := fP (clN 35 18), body := FuncBody.stmts (fB (clN 35 18)), scope := fS (clN 35 18), globals := 0, closure := [], defaults := Value.none, kwdefaults := Value.none } }),
  (269, { cls := Value.none, data := Data.fields #[] }),
  (270, { cls := Value.none, data := Data.func { name := Str.ofString "captures", qualname := Str.ofString "Matcher.captures", params := fP (clN 35 19), body := FuncBody.stmts (fB (clN 35 19)), scope := fS (clN 35 19), globals := 0, closure := [], defaults := Value.none, kwdefaults := Value.none } }),
  (274, { cls := Value.none, data := Data.fields #[] }),
  (277, { cls := Value.none, data := Data.func { name := Str.ofString "search", qualname := Str.ofString "Matcher.search", params := fP (clN 35 20), body := FuncBody.stmts (fB (clN 35 20)), scope := fS (clN 35 20), globals := 0, closure := [], defaults := Value.none, kwdefaults := Value.none } }),
  (285, { cls := Value.type "super", data := Data.fields #[Value.ref 282, Value.ref 282, Value.ref 282] }),
  (286, { cls := Value.type "builtin_function_or_method", data := Data.fields #[Value.builtin "object.__init_subclass__", Value.ref 282] }),
  (288, { cls := Value.none, data := Data.fields #[] }),
  (291, { cls := Value.none, data := Data.func { name := Str.ofString "_law_told", qualname := Str.ofString "_law_told", params := fP (stN 37), body := FuncBody.stmts (fB (stN 37)), scope := fS (stN 37), globals := 0, closure := [], defaults := Value.none, kwdefaults := Value.none } }),
  (295, { cls := Value.none, data := Data.fields #[] }),
  (298, { cls := Value.none, data := Data.func { name := Str.ofString "_law_done", qualname := Str.ofString "_law_done", params := fP (stN 38), body := FuncBody.stmts (fB (stN 38)), scope := fS (stN 38), globals := 0, closure := [], defaults := Value.none, kwdefaults := Value.none } }),
  (302, { cls := Value.none, data := Data.fields #[] }),
  (305, { cls := Value.none, data := Data.func { name := Str.ofString "_law_drawn", qualname := Str.ofString "_law_drawn", params := fP (stN 39), body := FuncBody.stmts (fB (stN 39)), scope := fS (stN 39), globals := 0, closure := [], defaults := Value.none, kwdefaults := Value.none } }),
  (309, { cls := Value.none, data := Data.fields #[] }),
  (312, { cls := Value.none, data := Data.func { name := Str.ofString "_law_texts", qualname := Str.ofString "_law_texts", params := fP (stN 40), body := FuncBody.stmts (fB (stN 40)), scope := fS (stN 40), globals := 0, closure := [], defaults := Value.none, kwdefaults := Value.none } }),
  (316, { cls := Value.none, data := Data.fields #[] }),
  (317, { cls := Value.none, data := Data.func { name := Str.ofString "_law_shown", qualname := Str.ofString "_law_shown", params := fP (stN 41), body := FuncBody.stmts (fB (stN 41)), scope := fS (stN 41), globals := 0, closure := [], defaults := Value.none, kwdefaults := Value.none } }),
  (321, { cls := Value.none, data := Data.fields #[] }),
  (324, { cls := Value.none, data := Data.func { name := Str.ofString "_law_due", qualname := Str.ofString "_law_due", params := fP (stN 42), body := FuncBody.stmts (fB (stN 42)), scope := fS (stN 42), globals := 0, closure := [], defaults := Value.none, kwdefaults := Value.none } }),
  (328, { cls := Value.none, data := Data.fields #[] }),
  (329, { cls := Value.none, data := Data.func { name := Str.ofString "law", qualname := Str.ofString "law", params := fP (stN 43), body := FuncBody.stmts (fB (stN 43)), scope := fS (stN 43), globals := 0, closure := [], defaults := Value.none, kwdefaults := Value.none } })]
/-- both, by address -/
noncomputable def mrg : Nat → Nat → Frag → Frag → List Obj
  | 0, _, _, _ => []
  | f + 1, i, l, m => match l with
    | [] => match m with
      | [] => []
      | y :: m => y.2 :: mrg f (i + 1) [] m
    | x :: l' => match Nat.beq x.1 i with
      | true => x.2 :: mrg f (i + 1) l' m
      | false => match m with
        | [] => []
        | y :: m => y.2 :: mrg f (i + 1) l m
noncomputable def evn : List Obj → List Obj
  | [] => []
  | [a] => [a]
  | a :: _ :: l => a :: evn l
noncomputable def bt : Nat → List Obj → BT
  | 0, _ => .nil
  | k + 1, l => match l with
    | [] => .nil
    | o :: r => .node o (bt k (evn r)) (bt k (evn r.tail))
/-- the tree's objects below n -/
noncomputable def btCut (n : Nat) : BT → Nat → Nat → BT
  | .nil, _, _ => .nil
  | .node v l r, a, b => match Nat.blt b n with
    | true => .node v (btCut n l (2 * a) (a + b)) (btCut n r (2 * a) (2 * a + b))
    | false => .nil
noncomputable def btCpy : BT → BT
  | .nil => .nil
  | .node v l r => .node v (btCpy l) (btCpy r)
noncomputable def hd.objs (P : Params) : List Obj := mrg 332 0 (hd.heap_39 P) (hd.more P)
noncomputable def hd.tree (P : Params) : BT := bt 10 (hd.objs P)
abbrev prg : Program := PySem.Challenge.rw_tk0057_01.row.prog
def bdE : List Stmt := behindTheImports prg
def envE : Env := { scope := prg.main.scope, locals := mainNs, globals := mainNs, cells := [], code := .ref 13, frame := some 14 }
def cdE : Code := .body bdE envE
abbrev q0 : Pos := ⟨0, 0, 0, 0⟩
def grp (i n : Nat) : List Stmt := (bdE.drop i).take n
noncomputable def hd.preO (P : Params) : List Obj := [boot_o_0 P, boot_o_1 P, boot_o_2 P, boot_o_3 P, boot_o_4 P, boot_o_5 P, boot_o_6 P, boot_o_7 P, boot_o_8 P, boot_o_9 P, boot_o_10 P, { cls := Value.type "tuple", data := Data.seq #[] }, { cls := Value.none, data := Data.fields #[] }, { cls := Value.type "code", data := Data.fields #[Value.str (Str.ofString "<module>") 182, Value.str (Str.ofString "<module>") 183, Value.str (Str.ofString "/claim/cut.py") 184, Value.int 1 0, Value.int 0 0, Value.int 0 0, Value.int 0 0, Value.int 0 0, Value.ref 11, Value.bool false, Value.int 181 0, Value.ref 12, Value.none, Value.none, Value.none, Value.none, Value.int 185 0, Value.int 1 0, Value.str (Str.ofString "/claim/cut.py") 186] }, { cls := Value.type "frame", slots := #[some (Value.ref 13), some (Value.ref 3), some (Value.ref 3), none, some (Value.str (Str.ofString "__main__") 164), none, some (Value.ref 0)] }]
noncomputable def hd.sA (w : World) (os : OsState) : Shared := ⟨⟨⟨hd.preO w.params⟩, {}⟩, #[], {}, 187, os⟩
noncomputable def hd.s0 (w : World) (os : OsState) : SharedT := ⟨btCpy (bt 10 (hd.preO w.params)), 15, {}, #[], {}, 187, os⟩
noncomputable def hd.o2_1 (P : Params) : Obj := { cls := Value.none, data := Data.dict #[] }
noncomputable def hd.o3_1 (P : Params) : Obj := { cls := Value.type "dict", data := Data.dict #[{ hash := PyData.keyHash P (Str.ofString "__name__"), key := Value.str (Str.ofString "__name__") 165, val := Value.str (Str.ofString "lua.values") 236 }, { hash := PyData.keyHash P (Str.ofString "__doc__"), key := Value.str (Str.ofString "__doc__") 166, val := Value.none }, { hash := PyData.keyHash P (Str.ofString "__package__"), key := Value.str (Str.ofString "__package__") 167, val := Value.none }, { hash := PyData.keyHash P (Str.ofString "__loader__"), key := Value.str (Str.ofString "__loader__") 168, val := Value.builtin "__main__.__loader__#opaque" }, { hash := PyData.keyHash P (Str.ofString "__spec__"), key := Value.str (Str.ofString "__spec__") 169, val := Value.none }, { hash := PyData.keyHash P (Str.ofString "__annotations__"), key := Value.str (Str.ofString "__annotations__") 170, val := Value.ref 6 }, { hash := PyData.keyHash P (Str.ofString "__builtins__"), key := Value.str (Str.ofString "__builtins__") 171, val := Value.ref 4 }, { hash := PyData.keyHash P (Str.ofString "__file__"), key := Value.str (Str.ofString "__file__") 173, val := Value.str (Str.ofString "/claim/cut.py") 172 }, { hash := PyData.keyHash P (Str.ofString "__cached__"), key := Value.str (Str.ofString "__cached__") 174, val := Value.none }, { hash := PyData.keyHash P (Str.ofString "_wall"), key := Value.str (Str.ofString "_wall") 193, val := Value.ref 21 }, { hash := PyData.keyHash P (Str.ofString "ESCAPE_SIGN"), key := Value.str (Str.ofString "ESCAPE_SIGN") 197, val := Value.int 37 196 }, { hash := PyData.keyHash P (Str.ofString "ZERO_SIGN"), key := Value.str (Str.ofString "ZERO_SIGN") 199, val := Value.int 48 198 }, { hash := PyData.keyHash P (Str.ofString "NINE_SIGN"), key := Value.str (Str.ofString "NINE_SIGN") 201, val := Value.int 57 200 }, { hash := PyData.keyHash P (Str.ofString "capture_text"), key := Value.str (Str.ofString "capture_text") 208, val := Value.ref 28 }, { hash := PyData.keyHash P (Str.ofString "expanded"), key := Value.str (Str.ofString "expanded") 220, val := Value.ref 36 }, { hash := PyData.keyHash P (Str.ofString "replaced"), key := Value.str (Str.ofString "replaced") 235, val := Value.ref 43 }] 16 }
noncomputable def hd.o12_1 (P : Params) : Obj := { cls := Value.none, data := Data.fields #[Value.int 1 0, Value.int 0 0, Value.ref 20, Value.int 8 0, Value.int 0 0, Value.ref 27, Value.int 10 0, Value.int 0 0, Value.ref 35, Value.int 27 0, Value.int 0 0, Value.ref 42] }
noncomputable def hd.t1 (P : Params) : BT := btCpy ((((btCut 44 (hd.tree P) 1 0).set 2 fun _ => hd.o2_1 P).set 3 fun _ => hd.o3_1 P).set 12 fun _ => hd.o12_1 P)
noncomputable def hd.s1 (w : World) (os : OsState) : SharedT := ⟨hd.t1 w.params, 44, {}, #[], {}, 238, os⟩
noncomputable def hd.o3_2 (P : Params) : Obj := { cls := Value.type "dict", data := Data.dict #[{ hash := PyData.keyHash P (Str.ofString "__name__"), key := Value.str (Str.ofString "__name__") 165, val := Value.str (Str.ofString "lua.values") 236 }, { hash := PyData.keyHash P (Str.ofString "__doc__"), key := Value.str (Str.ofString "__doc__") 166, val := Value.none }, { hash := PyData.keyHash P (Str.ofString "__package__"), key := Value.str (Str.ofString "__package__") 167, val := Value.none }, { hash := PyData.keyHash P (Str.ofString "__loader__"), key := Value.str (Str.ofString "__loader__") 168, val := Value.builtin "__main__.__loader__#opaque" }, { hash := PyData.keyHash P (Str.ofString "__spec__"), key := Value.str (Str.ofString "__spec__") 169, val := Value.none }, { hash := PyData.keyHash P (Str.ofString "__annotations__"), key := Value.str (Str.ofString "__annotations__") 170, val := Value.ref 6 }, { hash := PyData.keyHash P (Str.ofString "__builtins__"), key := Value.str (Str.ofString "__builtins__") 171, val := Value.ref 4 }, { hash := PyData.keyHash P (Str.ofString "__file__"), key := Value.str (Str.ofString "__file__") 173, val := Value.str (Str.ofString "/claim/cut.py") 172 }, { hash := PyData.keyHash P (Str.ofString "__cached__"), key := Value.str (Str.ofString "__cached__") 174, val := Value.none }, { hash := PyData.keyHash P (Str.ofString "_wall"), key := Value.str (Str.ofString "_wall") 193, val := Value.ref 21 }, { hash := PyData.keyHash P (Str.ofString "ESCAPE_SIGN"), key := Value.str (Str.ofString "ESCAPE_SIGN") 197, val := Value.int 37 196 }, { hash := PyData.keyHash P (Str.ofString "ZERO_SIGN"), key := Value.str (Str.ofString "ZERO_SIGN") 199, val := Value.int 48 198 }, { hash := PyData.keyHash P (Str.ofString "NINE_SIGN"), key := Value.str (Str.ofString "NINE_SIGN") 201, val := Value.int 57 200 }, { hash := PyData.keyHash P (Str.ofString "capture_text"), key := Value.str (Str.ofString "capture_text") 208, val := Value.ref 28 }, { hash := PyData.keyHash P (Str.ofString "expanded"), key := Value.str (Str.ofString "expanded") 220, val := Value.ref 36 }, { hash := PyData.keyHash P (Str.ofString "replaced"), key := Value.str (Str.ofString "replaced") 235, val := Value.ref 43 }, { hash := PyData.keyHash P (Str.ofString "LuaError"), key := Value.str (Str.ofString "LuaError") 268, val := Value.ref 60 }] 17 }
noncomputable def hd.o12_2 (P : Params) : Obj := { cls := Value.none, data := Data.fields #[Value.int 1 0, Value.int 0 0, Value.ref 20, Value.int 8 0, Value.int 0 0, Value.ref 27, Value.int 10 0, Value.int 0 0, Value.ref 35, Value.int 27 0, Value.int 0 0, Value.ref 42, Value.int 46 0, Value.int 0 0, Value.ref 49] }
noncomputable def hd.t2 (P : Params) : BT := btCpy (((btCut 64 (hd.tree P) 1 0).set 3 fun _ => hd.o3_2 P).set 12 fun _ => hd.o12_2 P)
noncomputable def hd.s2 (w : World) (os : OsState) : SharedT := ⟨hd.t2 w.params, 64, {}, #[], {}, 269, os⟩
noncomputable def hd.o3_3 (P : Params) : Obj := { cls := Value.type "dict", data := Data.dict #[{ hash := PyData.keyHash P (Str.ofString "__name__"), key := Value.str (Str.ofString "__name__") 165, val := Value.str (Str.ofString "lua.patterns") 269 }, { hash := PyData.keyHash P (Str.ofString "__doc__"), key := Value.str (Str.ofString "__doc__") 166, val := Value.none }, { hash := PyData.keyHash P (Str.ofString "__package__"), key := Value.str (Str.ofString "__package__") 167, val := Value.none }, { hash := PyData.keyHash P (Str.ofString "__loader__"), key := Value.str (Str.ofString "__loader__") 168, val := Value.builtin "__main__.__loader__#opaque" }, { hash := PyData.keyHash P (Str.ofString "__spec__"), key := Value.str (Str.ofString "__spec__") 169, val := Value.none }, { hash := PyData.keyHash P (Str.ofString "__annotations__"), key := Value.str (Str.ofString "__annotations__") 170, val := Value.ref 6 }, { hash := PyData.keyHash P (Str.ofString "__builtins__"), key := Value.str (Str.ofString "__builtins__") 171, val := Value.ref 4 }, { hash := PyData.keyHash P (Str.ofString "__file__"), key := Value.str (Str.ofString "__file__") 173, val := Value.str (Str.ofString "/claim/cut.py") 172 }, { hash := PyData.keyHash P (Str.ofString "__cached__"), key := Value.str (Str.ofString "__cached__") 174, val := Value.none }, { hash := PyData.keyHash P (Str.ofString "_wall"), key := Value.str (Str.ofString "_wall") 193, val := Value.ref 21 }, { hash := PyData.keyHash P (Str.ofString "ESCAPE_SIGN"), key := Value.str (Str.ofString "ESCAPE_SIGN") 197, val := Value.int 37 196 }, { hash := PyData.keyHash P (Str.ofString "ZERO_SIGN"), key := Value.str (Str.ofString "ZERO_SIGN") 199, val := Value.int 48 198 }, { hash := PyData.keyHash P (Str.ofString "NINE_SIGN"), key := Value.str (Str.ofString "NINE_SIGN") 201, val := Value.int 57 200 }, { hash := PyData.keyHash P (Str.ofString "capture_text"), key := Value.str (Str.ofString "capture_text") 208, val := Value.ref 28 }, { hash := PyData.keyHash P (Str.ofString "expanded"), key := Value.str (Str.ofString "expanded") 220, val := Value.ref 36 }, { hash := PyData.keyHash P (Str.ofString "replaced"), key := Value.str (Str.ofString "replaced") 235, val := Value.ref 43 }, { hash := PyData.keyHash P (Str.ofString "LuaError"), key := Value.str (Str.ofString "LuaError") 268, val := Value.ref 60 }, { hash := PyData.keyHash P (Str.ofString "MOST_CAPTURES"), key := Value.str (Str.ofString "MOST_CAPTURES") 272, val := Value.int 32 271 }, { hash := PyData.keyHash P (Str.ofString "UNFINISHED"), key := Value.str (Str.ofString "UNFINISHED") 275, val := Value.int (-1) 274 }, { hash := PyData.keyHash P (Str.ofString "POSITION"), key := Value.str (Str.ofString "POSITION") 278, val := Value.int (-2) 277 }, { hash := PyData.keyHash P (Str.ofString "ESCAPE"), key := Value.str (Str.ofString "ESCAPE") 280, val := Value.int 37 279 }, { hash := PyData.keyHash P (Str.ofString "CARET"), key := Value.str (Str.ofString "CARET") 282, val := Value.int 94 281 }, { hash := PyData.keyHash P (Str.ofString "DOLLAR"), key := Value.str (Str.ofString "DOLLAR") 284, val := Value.int 36 283 }, { hash := PyData.keyHash P (Str.ofString "DOT"), key := Value.str (Str.ofString "DOT") 286, val := Value.int 46 285 }, { hash := PyData.keyHash P (Str.ofString "OPEN"), key := Value.str (Str.ofString "OPEN") 288, val := Value.int 40 287 }, { hash := PyData.keyHash P (Str.ofString "CLOSE"), key := Value.str (Str.ofString "CLOSE") 290, val := Value.int 41 289 }, { hash := PyData.keyHash P (Str.ofString "SET_OPEN"), key := Value.str (Str.ofString "SET_OPEN") 292, val := Value.int 91 291 }, { hash := PyData.keyHash P (Str.ofString "SET_CLOSE"), key := Value.str (Str.ofString "SET_CLOSE") 294, val := Value.int 93 293 }, { hash := PyData.keyHash P (Str.ofString "STAR"), key := Value.str (Str.ofString "STAR") 296, val := Value.int 42 295 }, { hash := PyData.keyHash P (Str.ofString "PLUS"), key := Value.str (Str.ofString "PLUS") 298, val := Value.int 43 297 }, { hash := PyData.keyHash P (Str.ofString "MINUS"), key := Value.str (Str.ofString "MINUS") 300, val := Value.int 45 299 }, { hash := PyData.keyHash P (Str.ofString "MARK"), key := Value.str (Str.ofString "MARK") 302, val := Value.int 63 301 }] 32 }
noncomputable def hd.o12_3 (P : Params) : Obj := { cls := Value.none, data := Data.fields #[Value.int 1 0, Value.int 0 0, Value.ref 20, Value.int 8 0, Value.int 0 0, Value.ref 27, Value.int 10 0, Value.int 0 0, Value.ref 35, Value.int 27 0, Value.int 0 0, Value.ref 42, Value.int 46 0, Value.int 0 0, Value.ref 49] }
noncomputable def hd.t3 (P : Params) : BT := btCpy (((btCut 64 (hd.tree P) 1 0).set 3 fun _ => hd.o3_3 P).set 12 fun _ => hd.o12_3 P)
noncomputable def hd.s3 (w : World) (os : OsState) : SharedT := ⟨hd.t3 w.params, 64, {}, #[], {}, 303, os⟩
noncomputable def hd.o3_4 (P : Params) : Obj := { cls := Value.type "dict", data := Data.dict #[{ hash := PyData.keyHash P (Str.ofString "__name__"), key := Value.str (Str.ofString "__name__") 165, val := Value.str (Str.ofString "lua.patterns") 269 }, { hash := PyData.keyHash P (Str.ofString "__doc__"), key := Value.str (Str.ofString "__doc__") 166, val := Value.none }, { hash := PyData.keyHash P (Str.ofString "__package__"), key := Value.str (Str.ofString "__package__") 167, val := Value.none }, { hash := PyData.keyHash P (Str.ofString "__loader__"), key := Value.str (Str.ofString "__loader__") 168, val := Value.builtin "__main__.__loader__#opaque" }, { hash := PyData.keyHash P (Str.ofString "__spec__"), key := Value.str (Str.ofString "__spec__") 169, val := Value.none }, { hash := PyData.keyHash P (Str.ofString "__annotations__"), key := Value.str (Str.ofString "__annotations__") 170, val := Value.ref 6 }, { hash := PyData.keyHash P (Str.ofString "__builtins__"), key := Value.str (Str.ofString "__builtins__") 171, val := Value.ref 4 }, { hash := PyData.keyHash P (Str.ofString "__file__"), key := Value.str (Str.ofString "__file__") 173, val := Value.str (Str.ofString "/claim/cut.py") 172 }, { hash := PyData.keyHash P (Str.ofString "__cached__"), key := Value.str (Str.ofString "__cached__") 174, val := Value.none }, { hash := PyData.keyHash P (Str.ofString "_wall"), key := Value.str (Str.ofString "_wall") 193, val := Value.ref 21 }, { hash := PyData.keyHash P (Str.ofString "ESCAPE_SIGN"), key := Value.str (Str.ofString "ESCAPE_SIGN") 197, val := Value.int 37 196 }, { hash := PyData.keyHash P (Str.ofString "ZERO_SIGN"), key := Value.str (Str.ofString "ZERO_SIGN") 199, val := Value.int 48 198 }, { hash := PyData.keyHash P (Str.ofString "NINE_SIGN"), key := Value.str (Str.ofString "NINE_SIGN") 201, val := Value.int 57 200 }, { hash := PyData.keyHash P (Str.ofString "capture_text"), key := Value.str (Str.ofString "capture_text") 208, val := Value.ref 28 }, { hash := PyData.keyHash P (Str.ofString "expanded"), key := Value.str (Str.ofString "expanded") 220, val := Value.ref 36 }, { hash := PyData.keyHash P (Str.ofString "replaced"), key := Value.str (Str.ofString "replaced") 235, val := Value.ref 43 }, { hash := PyData.keyHash P (Str.ofString "LuaError"), key := Value.str (Str.ofString "LuaError") 268, val := Value.ref 60 }, { hash := PyData.keyHash P (Str.ofString "MOST_CAPTURES"), key := Value.str (Str.ofString "MOST_CAPTURES") 272, val := Value.int 32 271 }, { hash := PyData.keyHash P (Str.ofString "UNFINISHED"), key := Value.str (Str.ofString "UNFINISHED") 275, val := Value.int (-1) 274 }, { hash := PyData.keyHash P (Str.ofString "POSITION"), key := Value.str (Str.ofString "POSITION") 278, val := Value.int (-2) 277 }, { hash := PyData.keyHash P (Str.ofString "ESCAPE"), key := Value.str (Str.ofString "ESCAPE") 280, val := Value.int 37 279 }, { hash := PyData.keyHash P (Str.ofString "CARET"), key := Value.str (Str.ofString "CARET") 282, val := Value.int 94 281 }, { hash := PyData.keyHash P (Str.ofString "DOLLAR"), key := Value.str (Str.ofString "DOLLAR") 284, val := Value.int 36 283 }, { hash := PyData.keyHash P (Str.ofString "DOT"), key := Value.str (Str.ofString "DOT") 286, val := Value.int 46 285 }, { hash := PyData.keyHash P (Str.ofString "OPEN"), key := Value.str (Str.ofString "OPEN") 288, val := Value.int 40 287 }, { hash := PyData.keyHash P (Str.ofString "CLOSE"), key := Value.str (Str.ofString "CLOSE") 290, val := Value.int 41 289 }, { hash := PyData.keyHash P (Str.ofString "SET_OPEN"), key := Value.str (Str.ofString "SET_OPEN") 292, val := Value.int 91 291 }, { hash := PyData.keyHash P (Str.ofString "SET_CLOSE"), key := Value.str (Str.ofString "SET_CLOSE") 294, val := Value.int 93 293 }, { hash := PyData.keyHash P (Str.ofString "STAR"), key := Value.str (Str.ofString "STAR") 296, val := Value.int 42 295 }, { hash := PyData.keyHash P (Str.ofString "PLUS"), key := Value.str (Str.ofString "PLUS") 298, val := Value.int 43 297 }, { hash := PyData.keyHash P (Str.ofString "MINUS"), key := Value.str (Str.ofString "MINUS") 300, val := Value.int 45 299 }, { hash := PyData.keyHash P (Str.ofString "MARK"), key := Value.str (Str.ofString "MARK") 302, val := Value.int 63 301 }, { hash := PyData.keyHash P (Str.ofString "is_lower"), key := Value.str (Str.ofString "is_lower") 309, val := Value.ref 70 }, { hash := PyData.keyHash P (Str.ofString "is_upper"), key := Value.str (Str.ofString "is_upper") 316, val := Value.ref 77 }, { hash := PyData.keyHash P (Str.ofString "is_alpha"), key := Value.str (Str.ofString "is_alpha") 323, val := Value.ref 84 }, { hash := PyData.keyHash P (Str.ofString "is_digit"), key := Value.str (Str.ofString "is_digit") 330, val := Value.ref 91 }, { hash := PyData.keyHash P (Str.ofString "is_space"), key := Value.str (Str.ofString "is_space") 337, val := Value.ref 98 }, { hash := PyData.keyHash P (Str.ofString "is_control"), key := Value.str (Str.ofString "is_control") 344, val := Value.ref 105 }, { hash := PyData.keyHash P (Str.ofString "is_punctuation"), key := Value.str (Str.ofString "is_punctuation") 351, val := Value.ref 112 }, { hash := PyData.keyHash P (Str.ofString "is_hex"), key := Value.str (Str.ofString "is_hex") 358, val := Value.ref 119 }, { hash := PyData.keyHash P (Str.ofString "in_class"), key := Value.str (Str.ofString "in_class") 368, val := Value.ref 126 }] 41 }
noncomputable def hd.o12_4 (P : Params) : Obj := { cls := Value.none, data := Data.fields #[Value.int 1 0, Value.int 0 0, Value.ref 20, Value.int 8 0, Value.int 0 0, Value.ref 27, Value.int 10 0, Value.int 0 0, Value.ref 35, Value.int 27 0, Value.int 0 0, Value.ref 42, Value.int 46 0, Value.int 0 0, Value.ref 49, Value.int 68 0, Value.int 0 0, Value.ref 69, Value.int 70 0, Value.int 0 0, Value.ref 76, Value.int 72 0, Value.int 0 0, Value.ref 83, Value.int 74 0, Value.int 0 0, Value.ref 90, Value.int 76 0, Value.int 0 0, Value.ref 97, Value.int 78 0, Value.int 0 0, Value.ref 104, Value.int 80 0, Value.int 0 0, Value.ref 111, Value.int 82 0, Value.int 0 0, Value.ref 118, Value.int 84 0, Value.int 0 0, Value.ref 125] }
noncomputable def hd.t4 (P : Params) : BT := btCpy (((btCut 127 (hd.tree P) 1 0).set 3 fun _ => hd.o3_4 P).set 12 fun _ => hd.o12_4 P)
noncomputable def hd.s4 (w : World) (os : OsState) : SharedT := ⟨hd.t4 w.params, 127, {}, #[], {}, 369, os⟩
noncomputable def hd.o3_5 (P : Params) : Obj := { cls := Value.type "dict", data := Data.dict #[{ hash := PyData.keyHash P (Str.ofString "__name__"), key := Value.str (Str.ofString "__name__") 165, val := Value.str (Str.ofString "lua.patterns") 269 }, { hash := PyData.keyHash P (Str.ofString "__doc__"), key := Value.str (Str.ofString "__doc__") 166, val := Value.none }, { hash := PyData.keyHash P (Str.ofString "__package__"), key := Value.str (Str.ofString "__package__") 167, val := Value.none }, { hash := PyData.keyHash P (Str.ofString "__loader__"), key := Value.str (Str.ofString "__loader__") 168, val := Value.builtin "__main__.__loader__#opaque" }, { hash := PyData.keyHash P (Str.ofString "__spec__"), key := Value.str (Str.ofString "__spec__") 169, val := Value.none }, { hash := PyData.keyHash P (Str.ofString "__annotations__"), key := Value.str (Str.ofString "__annotations__") 170, val := Value.ref 6 }, { hash := PyData.keyHash P (Str.ofString "__builtins__"), key := Value.str (Str.ofString "__builtins__") 171, val := Value.ref 4 }, { hash := PyData.keyHash P (Str.ofString "__file__"), key := Value.str (Str.ofString "__file__") 173, val := Value.str (Str.ofString "/claim/cut.py") 172 }, { hash := PyData.keyHash P (Str.ofString "__cached__"), key := Value.str (Str.ofString "__cached__") 174, val := Value.none }, { hash := PyData.keyHash P (Str.ofString "_wall"), key := Value.str (Str.ofString "_wall") 193, val := Value.ref 21 }, { hash := PyData.keyHash P (Str.ofString "ESCAPE_SIGN"), key := Value.str (Str.ofString "ESCAPE_SIGN") 197, val := Value.int 37 196 }, { hash := PyData.keyHash P (Str.ofString "ZERO_SIGN"), key := Value.str (Str.ofString "ZERO_SIGN") 199, val := Value.int 48 198 }, { hash := PyData.keyHash P (Str.ofString "NINE_SIGN"), key := Value.str (Str.ofString "NINE_SIGN") 201, val := Value.int 57 200 }, { hash := PyData.keyHash P (Str.ofString "capture_text"), key := Value.str (Str.ofString "capture_text") 208, val := Value.ref 28 }, { hash := PyData.keyHash P (Str.ofString "expanded"), key := Value.str (Str.ofString "expanded") 220, val := Value.ref 36 }, { hash := PyData.keyHash P (Str.ofString "replaced"), key := Value.str (Str.ofString "replaced") 235, val := Value.ref 43 }, { hash := PyData.keyHash P (Str.ofString "LuaError"), key := Value.str (Str.ofString "LuaError") 268, val := Value.ref 60 }, { hash := PyData.keyHash P (Str.ofString "MOST_CAPTURES"), key := Value.str (Str.ofString "MOST_CAPTURES") 272, val := Value.int 32 271 }, { hash := PyData.keyHash P (Str.ofString "UNFINISHED"), key := Value.str (Str.ofString "UNFINISHED") 275, val := Value.int (-1) 274 }, { hash := PyData.keyHash P (Str.ofString "POSITION"), key := Value.str (Str.ofString "POSITION") 278, val := Value.int (-2) 277 }, { hash := PyData.keyHash P (Str.ofString "ESCAPE"), key := Value.str (Str.ofString "ESCAPE") 280, val := Value.int 37 279 }, { hash := PyData.keyHash P (Str.ofString "CARET"), key := Value.str (Str.ofString "CARET") 282, val := Value.int 94 281 }, { hash := PyData.keyHash P (Str.ofString "DOLLAR"), key := Value.str (Str.ofString "DOLLAR") 284, val := Value.int 36 283 }, { hash := PyData.keyHash P (Str.ofString "DOT"), key := Value.str (Str.ofString "DOT") 286, val := Value.int 46 285 }, { hash := PyData.keyHash P (Str.ofString "OPEN"), key := Value.str (Str.ofString "OPEN") 288, val := Value.int 40 287 }, { hash := PyData.keyHash P (Str.ofString "CLOSE"), key := Value.str (Str.ofString "CLOSE") 290, val := Value.int 41 289 }, { hash := PyData.keyHash P (Str.ofString "SET_OPEN"), key := Value.str (Str.ofString "SET_OPEN") 292, val := Value.int 91 291 }, { hash := PyData.keyHash P (Str.ofString "SET_CLOSE"), key := Value.str (Str.ofString "SET_CLOSE") 294, val := Value.int 93 293 }, { hash := PyData.keyHash P (Str.ofString "STAR"), key := Value.str (Str.ofString "STAR") 296, val := Value.int 42 295 }, { hash := PyData.keyHash P (Str.ofString "PLUS"), key := Value.str (Str.ofString "PLUS") 298, val := Value.int 43 297 }, { hash := PyData.keyHash P (Str.ofString "MINUS"), key := Value.str (Str.ofString "MINUS") 300, val := Value.int 45 299 }, { hash := PyData.keyHash P (Str.ofString "MARK"), key := Value.str (Str.ofString "MARK") 302, val := Value.int 63 301 }, { hash := PyData.keyHash P (Str.ofString "is_lower"), key := Value.str (Str.ofString "is_lower") 309, val := Value.ref 70 }, { hash := PyData.keyHash P (Str.ofString "is_upper"), key := Value.str (Str.ofString "is_upper") 316, val := Value.ref 77 }, { hash := PyData.keyHash P (Str.ofString "is_alpha"), key := Value.str (Str.ofString "is_alpha") 323, val := Value.ref 84 }, { hash := PyData.keyHash P (Str.ofString "is_digit"), key := Value.str (Str.ofString "is_digit") 330, val := Value.ref 91 }, { hash := PyData.keyHash P (Str.ofString "is_space"), key := Value.str (Str.ofString "is_space") 337, val := Value.ref 98 }, { hash := PyData.keyHash P (Str.ofString "is_control"), key := Value.str (Str.ofString "is_control") 344, val := Value.ref 105 }, { hash := PyData.keyHash P (Str.ofString "is_punctuation"), key := Value.str (Str.ofString "is_punctuation") 351, val := Value.ref 112 }, { hash := PyData.keyHash P (Str.ofString "is_hex"), key := Value.str (Str.ofString "is_hex") 358, val := Value.ref 119 }, { hash := PyData.keyHash P (Str.ofString "in_class"), key := Value.str (Str.ofString "in_class") 368, val := Value.ref 126 }, { hash := PyData.keyHash P (Str.ofString "Matcher"), key := Value.str (Str.ofString "Matcher") 619, val := Value.ref 282 }] 42 }
noncomputable def hd.o12_5 (P : Params) : Obj := { cls := Value.none, data := Data.fields #[Value.int 1 0, Value.int 0 0, Value.ref 20, Value.int 8 0, Value.int 0 0, Value.ref 27, Value.int 10 0, Value.int 0 0, Value.ref 35, Value.int 27 0, Value.int 0 0, Value.ref 42, Value.int 46 0, Value.int 0 0, Value.ref 49, Value.int 68 0, Value.int 0 0, Value.ref 69, Value.int 70 0, Value.int 0 0, Value.ref 76, Value.int 72 0, Value.int 0 0, Value.ref 83, Value.int 74 0, Value.int 0 0, Value.ref 90, Value.int 76 0, Value.int 0 0, Value.ref 97, Value.int 78 0, Value.int 0 0, Value.ref 104, Value.int 80 0, Value.int 0 0, Value.ref 111, Value.int 82 0, Value.int 0 0, Value.ref 118, Value.int 84 0, Value.int 0 0, Value.ref 125, Value.int 109 0, Value.int 0 0, Value.ref 132] }
noncomputable def hd.t5 (P : Params) : BT := btCpy (((btCut 287 (hd.tree P) 1 0).set 3 fun _ => hd.o3_5 P).set 12 fun _ => hd.o12_5 P)
noncomputable def hd.s5 (w : World) (os : OsState) : SharedT := ⟨hd.t5 w.params, 287, {}, #[], {}, 620, os⟩
noncomputable def hd.t6 (P : Params) : BT := btCpy (hd.tree P)
noncomputable def hd.s6 (w : World) (os : OsState) : SharedT := ⟨hd.t6 w.params, 332, {}, #[], {}, 693, os⟩
noncomputable def hd.sF (w : World) (os : OsState) : Shared := ⟨⟨⟨hd.objs w.params⟩, {}⟩, #[], {}, 693, os⟩
theorem hd.g1 (w : World) (os : OsState) : segRunT treeTable prg w 11 (some (.ref 6)) 1 176 (hd.s0 w os) (piecesOf (grp 0 9) envE cdE ⟨0, 0, 0, 0⟩ [topFrame q0]) = some (.next, hd.s1 w os, cdE, ⟨45, 0, 45, 8⟩) := by kernel_rfl
theorem hd.g2 (w : World) (os : OsState) : segRunT treeTable prg w 11 (some (.ref 6)) 1 231 (hd.s1 w os) (piecesOf (grp 9 1) envE cdE ⟨45, 0, 45, 8⟩ [topFrame q0]) = some (.next, hd.s2 w os, cdE, ⟨46, 0, 51, 34⟩) := by kernel_rfl
theorem hd.g3 (w : World) (os : OsState) : segRunT treeTable prg w 11 (some (.ref 6)) 1 155 (hd.s2 w os) (piecesOf (grp 10 16) envE cdE ⟨46, 0, 51, 34⟩ [topFrame q0]) = some (.next, hd.s3 w os, cdE, ⟨67, 0, 67, 4⟩) := by kernel_rfl
theorem hd.g4 (w : World) (os : OsState) : segRunT treeTable prg w 11 (some (.ref 6)) 1 265 (hd.s3 w os) (piecesOf (grp 26 9) envE cdE ⟨67, 0, 67, 4⟩ [topFrame q0]) = some (.next, hd.s4 w os, cdE, ⟨84, 0, 108, 51⟩) := by kernel_rfl
theorem hd.g5 (w : World) (os : OsState) : segRunT treeTable prg w 11 (some (.ref 6)) 1 924 (hd.s4 w os) (piecesOf (grp 35 1) envE cdE ⟨84, 0, 108, 51⟩ [topFrame q0]) = some (.next, hd.s5 w os, cdE, ⟨109, 0, 347, 16⟩) := by kernel_rfl
theorem hd.g6 (w : World) (os : OsState) : segRunT treeTable prg w 11 (some (.ref 6)) 1 231 (hd.s5 w os) (piecesOf (grp 36 8) envE cdE ⟨109, 0, 347, 16⟩ [topFrame q0]) = some (.next, hd.s6 w os, cdE, ⟨393, 0, 416, 15⟩) := by kernel_rfl
theorem hd.gp (w : World) (os : OsState) : topGo treeTable prg w 11 (some (.ref 6)) 12 ⟨boot_heap w.params, #[], boot_drawn, boot_toks, os⟩ (topStub prg) = some (hd.sA w os, ⟨denote treeTable cdE, cdE, q0, [topFrame q0]⟩) := by kernel_rfl
theorem hd.gb (w : World) (os : OsState) : segRun treeTable prg w 11 (some (.ref 6)) 1 1 (hd.sA w os) (blockOf bdE envE cdE q0 [topFrame q0]) = some (.next, (hd.s0 w os).abs, cdE, q0) := by kernel_rfl
theorem hd.gf (w : World) (os : OsState) : topRun treeTable prg w 11 (some (.ref 6)) 2 (hd.s6 w os).abs ⟨doneF .next, cdE, ⟨393, 0, 416, 15⟩, [topFrame q0]⟩ = some (hd.sF w os) := by kernel_rfl
theorem hd.split : bdE = grp 0 9 ++ (grp 9 1 ++ (grp 10 16 ++ (grp 26 9 ++ (grp 35 1 ++ (grp 36 8 ++ []))))) := by kernel_rfl
theorem hd.run (w : World) (os : OsState) : topRun treeTable prg w 11 (some (.ref 6)) (12 + (1 + (176 + (231 + (155 + (265 + (924 + (231 + 2)))))))) ⟨boot_heap w.params, #[], boot_drawn, boot_toks, os⟩ (topStub prg) = some (hd.sF w os) := by
  refine go_top (hd.gp w os) (piece_block (hd.gb w os) ?_)
  have e : restOf bdE envE cdE q0 [topFrame q0] = restOf (grp 0 9 ++ (grp 9 1 ++ (grp 10 16 ++ (grp 26 9 ++ (grp 35 1 ++ (grp 36 8 ++ [])))))) envE cdE q0 [topFrame q0] := congrArg (fun l => restOf l envE cdE q0 [topFrame q0]) hd.split
  rw [e]
  exact (piece_app (segRun_of (hd.g1 w os)) (piece_app (segRun_of (hd.g2 w os)) (piece_app (segRun_of (hd.g3 w os)) (piece_app (segRun_of (hd.g4 w os)) (piece_app (segRun_of (hd.g5 w os)) (piece_app (segRun_of (hd.g6 w os)) (hd.gf w os)))))))
theorem hd.looks (w : World) : (fun os => ((staticsOk (importedModules prg.main.body) (boot_heap w.params) ⟨⟨hd.objs w.params⟩, {}⟩ && namesBound prg ⟨⟨hd.objs w.params⟩, {}⟩ && gensDone ⟨⟨⟨hd.objs w.params⟩, {}⟩, #[], {}, 693, os⟩ && laidKept (boot_heap w.params) ⟨⟨hd.objs w.params⟩, {}⟩),
      openSeen hd.view_39 [Str.ofString "expanded"] (importedModules prg.main.body) (fun s => xlAt hd.view_39 [] s && recOk (RowW.records PySem.Challenge.rw_tk0057_01.row.toRowW) s) true ⟨⟨⟨hd.objs w.params⟩, {}⟩, #[], {}, 693, os⟩, Hook.obs hd.hook ⟨⟨⟨hd.objs w.params⟩, {}⟩, #[], {}, 693, os⟩)) =
    fun _ => (true, openGood hd.view_39 [Str.ofString "expanded"], Hook.val hd.hook w) := by kernel_rfl
theorem hd.left : LeftO PySem.Challenge.rw_tk0057_01.row.prog hd.view_39 [Str.ofString "expanded"] (fun s => xlAt hd.view_39 [] s && recOk (RowW.records PySem.Challenge.rw_tk0057_01.row.toRowW) s) (Hook.obs hd.hook) (Hook.val hd.hook) 4078 :=
  LeftO.of_pieces (H₁ := fun P => ⟨⟨hd.objs P⟩, {}⟩) (boot_open (by kernel_rfl) (by decide +kernel) (fun s => by kernel_rfl)) (fun w => by kernel_rfl) hd.run (by decide +kernel) hd.looks
end Mine
end
section
open PySem PySem.W PyProof.Rows PySem.Calls
namespace Mine
set_option maxRecDepth 100000

section
variable {M : Model} {A : Around} {s : Shared} {env : Env} {Q : Flow → Shared → Prop}
theorem wpC_AssignSwapped {elts k tpos value pos} {names : List Str}
    (h : wpC M A (eval value env) (fun v s₁ => wpAny M A (unpackItems v names.length none) (fun items s₂ =>
      wpAny M A (assignInOrder (names.reverse.map fun n => bindName env n) items.reverse) (fun _ => Q .next) (fun _ _ => False) s₂) (fun _ _ => False) s₁) s)
    (hs : swapsWithSole [.Tuple elts k tpos] value pos.line env = pure false := by rfl)
    (hw : swappedStores [.Tuple elts k tpos] value env = pure (some names) := by rfl) :
    wpC M A (exec (.Assign [.Tuple elts k tpos] value pos) env) Q s := by
  rw [exec_Assign]
  refine wpC_standAt ?_
  rw [hs]
  refine wpC_bind (wpC_pure ?_)
  rw [if_neg (by decide)]
  refine wpC_bind (wpC_mono h (fun v s₁ h₁ => ?_))
  rw [hw]
  refine wpC_bind (wpC_pure ?_)
  show wpC M A (do rule "assign.swapped-stores"; let items ← unpackItems v names.length none; assignInOrder (names.reverse.map fun n => bindName env n) items.reverse; pure .next) Q s₁
  exact wpC_of_any (wpAny_bind (wpAny_rule (wpAny_bind (wpAny_mono h₁ (fun items s₂ h₂ => wpAny_bind (wpAny_mono h₂ (fun _ _ x => wpAny_pure x) fun _ _ x => x)) fun _ _ x => x))))
theorem wpC_Tuple {elts k pos} {Q : Value → Shared → Prop}
    (h : wpC M A (spliced (backTo pos (starEach elts env))) (fun vs s₁ => wpAny M A (newTuple vs) Q (fun _ _ => False) s₁) s) : wpC M A (eval (.Tuple elts k pos) env) Q s := by
  show wpC M A (do standAt pos; newTuple (← spliced (backTo pos (starEach elts env)))) Q s
  exact wpC_standAt (wpC_bind (wpC_mono h fun _ _ h' => wpC_of_any h'))
theorem wpC_splicedHead {x : Sem Value} {rest : List (Bool × Sem Value)} {Q : List Value → Shared → Prop}
    (h : wpC M A x (fun v s₁ => wpAny M A (spliced rest) (fun vs s₂ => Q (v :: vs) s₂) (fun _ _ => False) s₁) s) : wpC M A (spliced ((false, x) :: rest)) Q s := by
  rw [spliced]
  refine wpC_bind (wpC_mono h fun v s₁ h₁ => ?_)
  refine wpC_bind (wpC_pure ?_)
  exact wpC_of_any (wpAny_bind (wpAny_holding (wpAny_mono h₁ (fun vs s₂ h₂ => wpAny_pure h₂) fun _ _ x => x)))
theorem wpC_splicedNil {Q : List Value → Shared → Prop} (h : Q [] s) : wpC M A (spliced []) Q s := wpC_pure h
theorem keeps_ty (x : String) (h : Heap) (_ : True) : ∃ k, (k = Keeper.frame ∨ k = Keeper.machine ∨ k = Keeper.boundFrame) ∧ Looks M h (keeperOf (.type x)) k := ⟨.machine, .inr (.inl rfl), .now⟩
theorem keeps_bi (x : String) (h : Heap) (_ : True) : ∃ k, (k = Keeper.frame ∨ k = Keeper.machine ∨ k = Keeper.boundFrame) ∧ Looks M h (keeperOf (.builtin x)) k := ⟨.machine, .inr (.inl rfl), .now⟩
/-- a type or a built-in is called -/
theorem wpC_callTy {x : String} {args : List (Bool × Sem Value)} {pos : Pos} {Q : Value → Shared → Prop} (hplain : args.any (·.1) = false)
    (h : wpC M A (spliced args) (fun vs s₁ => wpC M A (call (.type x) vs []) Q s₁) s) : wpC M A (callWith pos (.type x) [] args []) Q s :=
  wpC_callWith (P := fun _ => True) hplain (keeps_ty x) (wpC_mono h fun _ _ h' => ⟨trivial, h'⟩)
theorem wpC_callBi {x : String} {first : List Value} {args : List (Bool × Sem Value)} {pos : Pos} {Q : Value → Shared → Prop} (hplain : args.any (·.1) = false)
    (h : wpC M A (spliced args) (fun vs s₁ => wpC M A (call (.builtin x) (first ++ vs) []) Q s₁) s) : wpC M A (callWith pos (.builtin x) first args []) Q s :=
  wpC_callWith (P := fun _ => True) hplain (keeps_bi x) (wpC_mono h fun _ _ h' => ⟨trivial, h'⟩)
/-- a measure on the turns of a loop -/
theorem loopC {c : Code} {R : Flow → Shared → Prop} (I : Nat → Shared → Prop) (h : ∀ n s, I n s → (∀ s' n', n' < n → I n' s' → codeC M A c R s') → codeC M A c R s) : ∀ n s, I n s → codeC M A c R s := by
  intro n
  induction n using Nat.strongRecOn with
  | ind n ih => exact fun s hs => h n s hs fun s' n' hn hI => ih n' hn s' hI
end

section
variable {prog : Program} {w : World} {A A₀ : Around} {s : Shared} {K : Frag} {R : Flow → Shared → Prop} {base h₀ : Heap} {outer : List Env} {L : Addr} {m mg mb : Str → Option Value} {env : Env} {news : List (Addr × Obj)}
  {name qual : Str} {params : Arguments} {body : List Stmt} {scope : Scope} {dV kV doc pm cdv ct oc : Value} {an od : Option Addr} {osl : Array (Option Value)} {f : Addr} {args : Args} {binds : List (Str × Value)}
  {p : Program} {loose : List Str} {mean : ExcName → Option Value}
/-- a def of the ground is entered -/
theorem defC_K (B : Below A₀ base outer h₀) (F : Fr h₀ L s.heap m) (X₀ : K.In h₀) (N : News h₀ L s.heap news) (T : Top p loose mean mg mb h₀) (hA : A.frames = some (env :: outer)) (hf : env.frame = some L) (hke : env.scope.kind = .function)
    (ho : K.lookup f = some ⟨oc, od, .func (fnOf name qual params body scope dV kV doc pm an cdv ct), osl⟩) (hcd : codeIn K cdv qual = true) (hroom : A.depth < recursionLimit)
    (hbind : BindsTo s (fnOf name qual params body scope dV kV doc pm an cdv ct) args binds) (hloc : ∀ y ∈ binds, scope.names.lookup y.1 = some .local)
    (h : ∀ g L' h₁, Fr h₀ L g m → Fr g L' h₁ (fun y => binds.reverse.lookup y) → News g L' h₁ news → Below A base (env :: outer) g → K.In g → Top p loose mean mg mb g → (∀ p ∈ news, p.1 < L') →
      wpC (model prog w) (A.deeper (envOf qual scope L' f cdv)) (execs body (envOf qual scope L' f cdv))
        (fun fl s' => LeaveK h₀ L m g (resC R) (match fl with | .ret v => v | _ => .none) s') { s with heap := h₁, toks := s.toks + binds.length })
    (hco : scope.isCoroutine = false) (hgen : scope.isGenerator = false) (hk : scope.kind = .function)
    (hcell : ∀ x ∈ scope.names, x.2 ≠ .cell) : codeC (model prog w) A (.call (.ref f) args) R s :=
  defC_plain (cl := []) B F N T.nolimit hA hf hke ((X₀.keeps F.keep) _ _ ho) rfl (codeRec_of (X₀.keeps F.keep) hcd) hroom hbind hloc (fun g L' h₁ FG F' N' B' st l => h g L' h₁ FG F' N' B' (X₀.keeps st) (T.keeps st) l) hcell hco hgen hk
end
section
variable {prog : Program} {w : World} {A A₀ : Around} {s : Shared} {K : Frag} {R : Flow → Shared → Prop} {base h₀ : Heap} {outer : List Env} {L : Addr} {m mg mb : Str → Option Value} {env : Env} {news : List (Addr × Obj)}
  {name qual : Str} {params : Arguments} {body : List Stmt} {scope : Scope} {dV kV doc pm cdv ct oc : Value} {an od : Option Addr} {osl : Array (Option Value)} {f : Addr} {args : Args} {binds : List (Str × Value)}
  {p : Program} {loose : List Str} {mean : ExcName → Option Value}
theorem defC_cellsK (B : Below A₀ base outer h₀) (F : Fr h₀ L s.heap m) (X₀ : K.In h₀) (N : News h₀ L s.heap news) (T : Top p loose mean mg mb h₀) (hA : A.frames = some (env :: outer)) (hf : env.frame = some L) (hke : env.scope.kind = .function)
    (ho : K.lookup f = some ⟨oc, od, .func (fnOf name qual params body scope dV kV doc pm an cdv ct), osl⟩) (hcd : codeIn K cdv qual = true) (hroom : A.depth < recursionLimit)
    (hbind : BindsTo s (fnOf name qual params body scope dV kV doc pm an cdv ct) args binds)
    (hkind : (binds.all fun y => scope.names.lookup y.1 == some .local || scope.names.lookup y.1 == some .cell) = true)
    (hnd : ((cellsFrom 0 scope.names []).map (·.1)).Nodup)
    (h : ∀ g L' h₁ tk cells, Fr h₀ L g m → Fr g L' h₁ (bindL (envOfC qual scope L' f cdv).kindOf binds fun _ => none) → News g L' h₁ (cells ++ news) →
      CellsAre (bindC (envOfC qual scope L' f cdv).kindOf binds fun _ => none) (cellsFrom (L' + 1) scope.names []) cells → Below A base (env :: outer) g → K.In g → Top p loose mean mg mb g → (∀ p ∈ news, p.1 < L') →
      wpC (model prog w) (A.deeper (envOfC qual scope L' f cdv)) (execs body (envOfC qual scope L' f cdv))
        (fun fl s' => LeaveK h₀ L m g (resC R) (match fl with | .ret v => v | _ => .none) s') { s with heap := h₁, toks := tk })
    (hco : scope.isCoroutine = false) (hgen : scope.isGenerator = false) (hk : scope.kind = .function) : codeC (model prog w) A (.call (.ref f) args) R s :=
  defC_cells B F N T.nolimit hA hf hke ((X₀.keeps F.keep) _ _ ho) rfl (codeRec_of (X₀.keeps F.keep) hcd) hroom hbind hkind hnd (fun g L' h₁ tk cells FG F' N' Y B' st l => h g L' h₁ tk cells FG F' N' Y B' (X₀.keeps st) (T.keeps st) l) hco hgen hk
end
theorem lookup_none_of {y : Str} {l : List (Str × Value)} (ks : List Str) (h : (l.map (·.1)).all (fun k => ks.contains k) = true) (hy : ∀ k ∈ ks, y ≠ k) : l.lookup y = none := by
  induction l with
  | nil => rfl
  | cons a l ih =>
    simp only [List.map_cons, List.all_cons, Bool.and_eq_true] at h
    have h1 : (y == a.1) = false := by simpa using hy a.1 (List.contains_iff_mem.mp h.1)
    rw [List.lookup_cons, h1]
    exact ih h.2
theorem News.left {h₀ h : Heap} {L : Addr} {a b : List (Addr × Obj)} (N : News h₀ L h (a ++ b)) : News h₀ L h a := News.perm N fun _ hp => List.mem_append_left _ hp
section
variable {M : Model} {A : Around} {s : Shared} {E : Value → Shared → Prop} {h₀ : Heap} {L X : Addr} {news : List (Addr × Obj)} {b : Array UInt8}
theorem method_appendN {pl : Sem Bool} {Q : Value × List Value → Shared → Prop} (N : News h₀ L s.heap news) (hm : (X, baObj b) ∈ news) (h : Q (.builtin "bytearray.append", [.ref X]) s) : wpAny M A (getMethod (.ref X) "append" pl) Q E s :=
  method_append (N _ hm).1 h
theorem method_extendN {pl : Sem Bool} {Q : Value × List Value → Shared → Prop} (N : News h₀ L s.heap news) (hm : (X, baObj b) ∈ news) (h : Q (.builtin "bytearray.extend", [.ref X]) s) : wpAny M A (getMethod (.ref X) "extend" pl) Q E s :=
  method_extend (N _ hm).1 h
end
end Mine
end
section
open PySem PySem.W PyProof.Rows PySem.Calls
namespace Mine
set_option maxRecDepth 100000
/-- no address of the one list is one of the other -/
def Disj (a b : List (Addr × Obj)) : Prop := ∀ p ∈ a, ∀ q ∈ b, p.1 ≠ q.1
/-- a call, at any place, from a ledger with I to a value and a ledger with J -/
def CallAny (w : World) (p : Program) (loose : List Str) (mean : ExcName → Option Value) (mg mb : Str → Option Value) (f : Addr) (vs : List Value) (I : List (Addr × Obj) → Prop) (J : Value → List (Addr × Obj) → Prop) : Prop :=
  ∀ {dp un : Nat} {gd : Option (List Code)} {cn : Str} {csn : List (Str × NameKind)} {csg csc : Bool} {csm : List (Str × Const)} {a : Addr} {ccd : Value} {cl : List (Str × Addr)} {outer : List Env} {A₀ : Around} {base h₀ : Heap} {L : Nat}
    {m : Str → Option Value} {s : Shared} {Q : Value → Shared → Prop} {pre led : List (Addr × Obj)},
    Below A₀ base outer h₀ → Fr h₀ L s.heap m → (hd.heap_39 w.params).In h₀ → News h₀ L s.heap (led ++ pre) → Top p loose mean mg mb h₀ → I led → Disj pre led → dp + 100 < recursionLimit → un + 1000 < cLine →
    (∀ v h' tk' led', Fr h₀ L h' m → News h₀ L h' (led' ++ pre) → J v led' → Disj pre led' → Q v { s with heap := h', toks := tk' }) →
    wpAny (model PySem.Challenge.rw_tk0057_01.row.prog w) (ktrTop dp un gd cn { kind := .function, names := csn, isGenerator := csg, isCoroutine := csc, more := csm } L a ccd cl outer) (call (.ref f) vs) Q (fun _ _ => False) s
/-- the same over the clean stacks -/
def CallC (d : Nat) (w : World) (p : Program) (loose : List Str) (mean : ExcName → Option Value) (mg mb : Str → Option Value) (f : Addr) (vs : List Value) (I : List (Addr × Obj) → Prop) (J : Value → List (Addr × Obj) → Prop) : Prop :=
  ∀ {dp un : Nat} {gd : Option (List Code)} {cn : Str} {csn : List (Str × NameKind)} {csg csc : Bool} {csm : List (Str × Const)} {a : Addr} {ccd : Value} {cl : List (Str × Addr)} {outer : List Env} {A₀ : Around} {base h₀ : Heap} {L : Nat}
    {m : Str → Option Value} {s : Shared} {Q : Value → Shared → Prop} {pre led : List (Addr × Obj)},
    Below A₀ base outer h₀ → Fr h₀ L s.heap m → (hd.heap_39 w.params).In h₀ → News h₀ L s.heap (led ++ pre) → Top p loose mean mg mb h₀ → I led → Disj pre led → dp + d < recursionLimit → un + (900 + d) < cLine →
    (∀ v h' tk' led', Fr h₀ L h' m → News h₀ L h' (led' ++ pre) → J v led' → Disj pre led' → Q v { s with heap := h', toks := tk' }) →
    wpC (model PySem.Challenge.rw_tk0057_01.row.prog w) (ktrTop dp un gd cn { kind := .function, names := csn, isGenerator := csg, isCoroutine := csc, more := csm } L a ccd cl outer) (call (.ref f) vs) Q s
theorem Fr.eqv {h₀ h : Heap} {L : Addr} {m m' : Str → Option Value} (F : Fr h₀ L h m) (e : ∀ y, m y = m' y) : Fr h₀ L h m' := funext e ▸ F
theorem Disj.consL {x : Addr × Obj} {a b : List (Addr × Obj)} (h : ∀ q ∈ b, q.1 ≠ x.1) (d : Disj a b) : Disj (x :: a) b := fun p hp q hq => by
  rcases List.mem_cons.mp hp with rfl | hp
  · exact (h q hq).symm
  · exact d p hp q hq
theorem Disj.tailL {x : Addr × Obj} {a b : List (Addr × Obj)} (d : Disj (x :: a) b) : Disj a b := fun p hp => d p (.tail _ hp)
theorem Disj.headL {x : Addr × Obj} {a b : List (Addr × Obj)} (d : Disj (x :: a) b) : ∀ q ∈ b, q.1 ≠ x.1 := fun q hq => (d x (.head _) q hq).symm
theorem News.unrot {h₀ h : Heap} {L : Addr} {x : Addr × Obj} {a b : List (Addr × Obj)} (N : News h₀ L h (a ++ x :: b)) : News h₀ L h (x :: (a ++ b)) := News.perm N fun p hp => by simp at hp ⊢; rcases hp with h | h | h <;> simp [h]
theorem AllLt.get {d : Nat} {l : List (Addr × Obj)} (h : AllLt d l) (p : Addr × Obj) (hp : p ∈ l) : @LT.lt Nat _ p.1 d := by
  induction l with
  | nil => cases hp
  | cons a r ih =>
    unfold AllLt at h
    cases hp with
    | head => exact h.1
    | tail _ hp => exact ih h.2 hp
theorem News.sub3 {h₀ h : Heap} {L : Addr} {x y : Addr × Obj} {a b : List (Addr × Obj)} (N : News h₀ L h (x :: y :: (a ++ b))) : News h₀ L h ((x :: a) ++ b) := News.perm N fun p hp => by simp at hp ⊢; rcases hp with h | h | h <;> simp [h]
theorem Disj.consR {x : Addr × Obj} {a b : List (Addr × Obj)} (h : ∀ q ∈ a, q.1 ≠ x.1) (d : Disj a b) : Disj a (x :: b) := fun p hp q hq => by
  rcases List.mem_cons.mp hq with rfl | hq
  · exact h p hp
  · exact d p hp q hq
end Mine
end
section
open PySem PySem.W PyProof.Rows
namespace Mine
section
variable {a D : Nat} {p1 p2 p3 p4 p5 p6 p7 p8 r : Prop}
theorem lt_1 (h : a < D ∧ r) : a < D := h.1
theorem lt_2 (h : p1 ∧ a < D ∧ r) : a < D := h.2.1
theorem lt_3 (h : p1 ∧ p2 ∧ a < D ∧ r) : a < D := h.2.2.1
theorem lt_4 (h : p1 ∧ p2 ∧ p3 ∧ a < D ∧ r) : a < D := h.2.2.2.1
theorem lt_5 (h : p1 ∧ p2 ∧ p3 ∧ p4 ∧ a < D ∧ r) : a < D := h.2.2.2.2.1
theorem lt_6 (h : p1 ∧ p2 ∧ p3 ∧ p4 ∧ p5 ∧ a < D ∧ r) : a < D := h.2.2.2.2.2.1
theorem lt_7 (h : p1 ∧ p2 ∧ p3 ∧ p4 ∧ p5 ∧ p6 ∧ a < D ∧ r) : a < D := h.2.2.2.2.2.2.1
theorem lt_8 (h : p1 ∧ p2 ∧ p3 ∧ p4 ∧ p5 ∧ p6 ∧ p7 ∧ a < D ∧ r) : a < D := h.2.2.2.2.2.2.2.1
theorem lt_9 (h : p1 ∧ p2 ∧ p3 ∧ p4 ∧ p5 ∧ p6 ∧ p7 ∧ p8 ∧ a < D ∧ r) : a < D := h.2.2.2.2.2.2.2.2.1
theorem lt_L (h : p1 ∧ p2 ∧ p3 ∧ p4 ∧ p5 ∧ a < D) : a < D := h.2.2.2.2.2
theorem neG {x y : Nat} (h : y < x) : x ≠ y := Nat.ne_of_gt h
theorem neL {x y : Nat} (h : x < y) : x ≠ y := Nat.ne_of_lt h
theorem ltT {x y z : Nat} (h : y < z) (g : x < y) : x < z := Nat.lt_trans g h
theorem room0 {dp b n lim : Nat} (h : dp + b < lim) (e : Nat.ble n b = true) : dp + n < lim := Nat.lt_of_le_of_lt (Nat.add_le_add_left (Nat.le_of_ble_eq_true e) _) h
theorem room1 {dp b n lim : Nat} (h : dp + b < lim) (e : Nat.ble (n + 1) b = true) : dp + 1 + n < lim := by
  have := Nat.le_of_ble_eq_true e
  omega
theorem units3 {un b n lim : Nat} (h : un + b < lim) (e : Nat.ble (n + 3) b = true) : un + 3 + n < lim := by
  have := Nat.le_of_ble_eq_true e
  omega
section
variable {oc oc' : Value} {od od' an an' : Option Addr} {n n' q q' : Str} {pa pa' : Arguments} {b b' : List Stmt} {sc sc' : Scope} {dV dV' kV kV' doc doc' pm pm' cd cd' ct ct' : Value} {os os' : Array (Option Value)}
  {dl dl' : List Expr} {r r' : Option Expr} {tp tp' : List TypeParam} {z z' : Option Scope} {m m' : Str} {ps ps' : Pos}
/-- what the place of a function in the heap tells of its parts -/
theorem ob_eqs (e : some (⟨oc, od, .func (fnOf n q pa b sc dV kV doc pm an cd ct), os⟩ : Obj) = some ⟨oc', od', .func (fnOf n' q' pa' b' sc' dV' kV' doc' pm' an' cd' ct'), os'⟩) : n = n' ∧ q = q' ∧ b = b' ∧ sc = sc' := by
  cases e; exact ⟨rfl, rfl, rfl, rfl⟩
theorem fd_eqs (e : Stmt.FunctionDef n pa b dl r tp sc z m ps = Stmt.FunctionDef n' pa' b' dl' r' tp' sc' z' m' ps') : n = n' ∧ pa = pa' ∧ b = b' ∧ sc = sc' ∧ ps = ps' := by
  cases e; exact ⟨rfl, rfl, rfl, rfl, rfl⟩
theorem fd_rest (e : Stmt.FunctionDef n pa b dl r tp sc z m ps = Stmt.FunctionDef n' pa' b' dl' r' tp' sc' z' m' ps') : dl = dl' ∧ r = r' ∧ tp = tp' ∧ z = z' ∧ m = m' := by
  cases e; exact ⟨rfl, rfl, rfl, rfl, rfl⟩
end
theorem OcHd.elim {o : Obj} {c P : Addr} {qual : Str} {C : Prop} (x : OcHd o c P qual) (k : ∀ vs file tf flags tg inF text tt t, o.cls = .type "code" → o.data = .fields vs → vs[11]? = some (.ref P) → vs.getD 11 .none = .ref P → vs.getD 18 .none = .str file tf →
    vs.getD 7 .none = .int flags tg → vs.getD 9 .none = .bool inF → vs.getD 10 .none = .int text tt → c ≠ P → vs[1]? = some (.str qual t) → C) : C := by
  obtain ⟨vs, file, tf, flags, tg, inF, text, tt, t, a1, a2, a3, a4, a5, a6, a7, a8, a9, b⟩ := x
  exact k vs file tf flags tg inF text tt t a1 a2 a3 a4 a5 a6 a7 a8 a9 b
end
end Mine
end
section
open PySem PySem.W PyProof.Rows PySem.Calls
namespace Mine
/-- a frame's map, as a list -/
def mapL (l : List (Str × Value)) : Str → Option Value := fun y => l.lookup y
theorem mapL_put (l : List (Str × Value)) (x : Str) (v : Value) : (fun y => if y = x then some v else mapL l y) = mapL ((x, v) :: l) := by
  funext y
  unfold mapL
  rw [List.lookup_cons]
  by_cases h : y = x
  · subst h; simp
  · rw [if_neg h, show (y == x) = false from beq_eq_false_iff_ne.mpr h]
section
variable {M : Model} {A : Around} {E : Value → Shared → Prop} {s : Shared} {h₀ : Heap} {L a : Addr} {m : Str → Option Value} {cn : Str} {cs : Scope} {ccd : Value} {cl : List (Str × Addr)}
  {x : Str} {v : Value} {Q : Unit → Shared → Prop} {news : List (Addr × Obj)} {l : List (Str × Value)}
/-- the frame's store; the count of tokens is forgotten -/
theorem storeM (F : Fr h₀ L s.heap (mapL l)) (N : News h₀ L s.heap news)
    (h : ∀ h' tk', Fr h₀ L h' (mapL ((x, v) :: l)) → News h₀ L h' news → Q () { s with heap := h', toks := tk' })
    (hk : cs.kind = .function) (hx : (envX cn cs L a ccd cl).kindOf x = some .local) : wpAny M A (storeName (envX cn cs L a ccd cl) x v) Q E s :=
  storeX_L F N (fun h' F' N' => h h' _ (mapL_put l x v ▸ F') N') hk hx
theorem storeT (F : Fr h₀ L s.heap m) (N : News h₀ L s.heap news)
    (h : ∀ h' tk', Fr h₀ L h' (fun y => if y = x then some v else m y) → News h₀ L h' news → Q () { s with heap := h', toks := tk' })
    (hk : cs.kind = .function) (hx : (envX cn cs L a ccd cl).kindOf x = some .local) : wpAny M A (storeName (envX cn cs L a ccd cl) x v) Q E s :=
  storeX_L F N (fun h' F' N' => h h' _ F' N') hk hx
end
section
variable {prog : Program} {w : World} {A A₀ : Around} {hp : Heap} {gs : Array GenState} {dr : Drawn} {tk : Nat} {os : OsState} {K : Frag} {L : Addr} {h₀ base : Heap} {m mg mb : Str → Option Value} {news : List (Addr × Obj)} {p : Program} {loose : List Str} {mean : ExcName → Option Value}
theorem code_defM {env : Env} {outer : List Env} {R : Result → Shared → Prop} {name qual : Str} {params : Arguments} {body : List Stmt} {scope : Scope} {dV kV doc pm cdv ct oc : Value} {an od : Option Addr} {osl : Array (Option Value)} {f : Addr} {args : Args} {binds rb : List (Str × Value)}
    (B : Below A₀ base outer h₀) (F : Fr h₀ L hp m) (X₀ : K.In h₀) (N : News h₀ L hp news) (T : Top p loose mean mg mb h₀) (hA : A.frames = some (env :: outer)) (hf : env.frame = some L) (hke : env.scope.kind = .function)
    (ho : K.lookup f = some ⟨oc, od, .func (fnOf name qual params body scope dV kV doc pm an cdv ct), osl⟩) (hcd : codeIn K cdv qual = true) (hroom : A.depth < recursionLimit)
    (hbind : bindArgs (fnOf name qual params body scope dV kV doc pm an cdv ct) args = pure binds) (hrev : binds.reverse = rb) (hloc : ∀ y ∈ binds, scope.names.lookup y.1 = some .local)
    (h : ∀ g L' h₁ tk', Fr h₀ L g m → Fr g L' h₁ (mapL rb) → News g L' h₁ news → Below A base (env :: outer) g → K.In g → Top p loose mean mg mb g →
      wpAny (model prog w) (A.deeper (envOf qual scope L' f cdv)) (execs body (envOf qual scope L' f cdv))
        (fun fl s' => LeaveK h₀ L m g R (match fl with | .ret v => v | _ => .none) s') (fun _ _ => False) ⟨h₁, gs, dr, tk', os⟩)
    (hco : scope.isCoroutine = false) (hgen : scope.isGenerator = false) (hk : scope.kind = .function)
    (hcell : ∀ x ∈ scope.names, x.2 ≠ .cell) : codeAny (model prog w) A (.call (.ref f) args) R ⟨hp, gs, dr, tk, os⟩ :=
  code_def B F X₀ N T hA hf hke ho hcd hroom (BindsTo.of_eq hbind) hloc (fun g L' h₁ a b c d e i => wpAny_noRaise (h g L' h₁ _ a (hrev ▸ b) c d e i)) hco hgen hk hcell
theorem code_nestM {env : Env} {outer : List Env} {R : Result → Shared → Prop} {name qual : Str} {params : Arguments} {body : List Stmt} {scope : Scope} {cl : List (Str × Addr)} {doc pm ctv : Value} {c' : Addr} {f : Addr} {args : Args} {binds rb : List (Str × Value)}
    (B : Below A₀ base outer h₀) (F : Fr h₀ L hp m) (X₀ : K.In h₀) (N : News h₀ L hp news) (T : Top p loose mean mg mb h₀) (hA : A.frames = some (env :: outer)) (hf : env.frame = some L) (hke : env.scope.kind = .function)
    (ho : (f, fnMade name qual params body scope cl doc pm c' ctv) ∈ news) (hcd : hp.CodeRec (.ref c') qual) (hroom : A.depth < recursionLimit)
    (hbind : bindArgs (fnX name qual params body scope cl .none .none doc pm none (.ref c') ctv) args = pure binds) (hrev : binds.reverse = rb) (hloc : ∀ y ∈ binds, scope.names.lookup y.1 = some .local)
    (h : ∀ g L' h₁ tk', Fr h₀ L g m → Fr g L' h₁ (mapL rb) → News g L' h₁ news → Below A base (env :: outer) g → K.In g → Top p loose mean mg mb g →
      wpAny (model prog w) (A.deeper (envX qual scope L' f (.ref c') cl)) (execs body (envX qual scope L' f (.ref c') cl))
        (fun fl s' => LeaveK h₀ L m g R (match fl with | .ret v => v | _ => .none) s') (fun _ _ => False) ⟨h₁, gs, dr, tk', os⟩)
    (hco : scope.isCoroutine = false) (hgen : scope.isGenerator = false) (hk : scope.kind = .function)
    (hcell : ∀ x ∈ scope.names, x.2 ≠ .cell) : codeAny (model prog w) A (.call (.ref f) args) R ⟨hp, gs, dr, tk, os⟩ :=
  code_nest B F X₀ N T hA hf hke ho hcd hroom (BindsTo.of_eq hbind) hloc (fun g L' h₁ a b c d e i => wpAny_noRaise (h g L' h₁ _ a (hrev ▸ b) c d e i)) hco hgen hk hcell
theorem leaveM {g : Heap} {L' : Addr} {m' : Str → Option Value} {news' : List (Addr × Obj)} {R : Result → Shared → Prop} {v : Value} (F' : Fr g L' hp m') (N' : News g L' hp news') (X : K.In h₀) (T : Top p loose mean mg mb h₀)
    (k : ∀ tk', Fr h₀ L hp m → News h₀ L hp news' → K.In h₀ → Top p loose mean mg mb h₀ → R (.ok (.ret v)) ⟨hp, gs, dr, tk', os⟩) : LeaveK h₀ L m g R v ⟨hp, gs, dr, tk, os⟩ :=
  leaveK_ F' N' fun a b => k _ a b X T
section
variable {g : Heap} {L' : Addr} {m' : Str → Option Value} {news' : List (Addr × Obj)} {Q E : Value → Shared → Prop} {v : Value}
/-- back at the caller with a value -/
theorem leaveR (F' : Fr g L' hp m') (N' : News g L' hp news') (X : K.In h₀) (T : Top p loose mean mg mb h₀)
    (k : ∀ tk', Fr h₀ L hp m → News h₀ L hp news' → K.In h₀ → Top p loose mean mg mb h₀ → Q v ⟨hp, gs, dr, tk', os⟩) :
    LeaveK h₀ L m g (fun r s' => match r with | .ok (.ret v) => Q v s' | .ok _ => False | .error e => E e s') (match Flow.ret v with | .ret v => v | _ => .none) ⟨hp, gs, dr, tk, os⟩ :=
  leaveK_ F' N' fun a b => k _ a b X T
theorem leaveN (F' : Fr g L' hp m') (N' : News g L' hp news') (X : K.In h₀) (T : Top p loose mean mg mb h₀)
    (k : ∀ tk', Fr h₀ L hp m → News h₀ L hp news' → K.In h₀ → Top p loose mean mg mb h₀ → Q .none ⟨hp, gs, dr, tk', os⟩) :
    LeaveK h₀ L m g (fun r s' => match r with | .ok (.ret v) => Q v s' | .ok _ => False | .error e => E e s') (match Flow.next with | .ret v => v | _ => .none) ⟨hp, gs, dr, tk, os⟩ :=
  leaveK_ F' N' fun a b => k _ a b X T
theorem leaveV (F' : Fr g L' hp m') (N' : News g L' hp news') (X : K.In h₀) (T : Top p loose mean mg mb h₀)
    (k : ∀ tk', Fr h₀ L hp m → News h₀ L hp news' → K.In h₀ → Top p loose mean mg mb h₀ → Q v ⟨hp, gs, dr, tk', os⟩) :
    LeaveK h₀ L m g (fun r s' => match r with | .ok (.ret v) => Q v s' | .ok _ => False | .error e => E e s') v ⟨hp, gs, dr, tk, os⟩ :=
  leaveK_ F' N' fun a b => k _ a b X T
end
end
end Mine
end
section
open PySem PySem.W PyProof.Rows PySem.Calls
set_option maxRecDepth 100000
set_option maxHeartbeats 8000000
namespace Mine
section
variable {w : World} {p : Program} {loose : List Str} {mean : ExcName → Option Value} {mg mb : Str → Option Value}
  {dp un : Nat} {gd : Option (List Code)} {cn : Str} {csn : List (Str × NameKind)} {csg csc : Bool} {csm : List (Str × Const)} {a : Addr} {ccd : Value} {cl : List (Str × Addr)} {outer : List Env} {A₀ : Around} {base h₀ : Heap} {L : Nat} {m : Str → Option Value} {s : Shared} {Q E : Value → Shared → Prop} {news : List (Addr × Obj)}
local macro_rules | `(tactic| k_all) => `(tactic| with_reducible assumption)
local macro_rules | `(tactic| walk_at "my lt") => `(tactic| with_reducible first | assumption | (show (_ : Nat) < _; first | exact lt_1 (by assumption) | exact lt_2 (by assumption) | exact lt_3 (by assumption) | exact lt_4 (by assumption) | exact lt_5 (by assumption) | exact lt_6 (by assumption) | exact lt_7 (by assumption) | exact lt_8 (by assumption) | exact lt_9 (by assumption) | exact lt_L (by assumption) | exact Nat.lt_trans (by assumption) (by assumption) | exact ltT (by assumption) (by assumption)))
local macro_rules | `(tactic| omega) => `(tactic| first | (with_reducible exact rfl) | decide | walk_at "my lt" | (law_clear; (fail_if_success (fail_if_success omega (config := {}))); first | lia | omega (config := {})) | (simp only [beq_iff_eq, bne_iff_ne, decide_eq_true_eq, ne_eq, Bool.and_eq_true, Bool.or_eq_true]; law_clear; omega (config := {})))
local macro_rules | `(tactic| k_lt $h:ident) => `(tactic| (replace $h := PySem.W.allLt_of $h; dsimp only [PySem.W.AllLt] at $h:ident))
local macro_rules | `(tactic| k_ne) => `(tactic| first | exact neL (by walk_at "my lt") | exact neG (by walk_at "my lt") | (with_reducible_and_instances (refine PySem.W.neN ?_; (try dsimp only)); omega))
local macro_rules | `(tactic| k_room) => `(tactic| ktr_room)
local macro_rules | `(tactic| k_units) => `(tactic| ktr_room)
local macro_rules | `(tactic| ktr_units) => `(tactic| ktr_room)
local macro_rules | `(tactic| ktr_room) => `(tactic| first | (with_reducible exact room0 (by assumption) rfl) | exact room1 (by with_reducible assumption) rfl | exact units3 (by with_reducible assumption) rfl)
local macro_rules | `(tactic| walk_at "getMethod bytes") => `(tactic| first | (with_reducible refine method_find ?_) | (with_reducible refine method_join ?_))
local macro_rules | `(tactic| walk_at "call builtin:bytes.find") => `(tactic| (refine call_find ?f ?_; (case f => first | assumption | decide +kernel)))
local macro_rules | `(tactic| walk_at "ite") => `(tactic| (k_here; k_dflt (first | refine ite_pos (by omega) ?_ | refine ite_neg (by omega) ?_ | refine ite_pos (of_decide_eq_true (by rfl)) ?_ | refine ite_neg (of_decide_eq_false (by rfl)) ?_)))
local macro_rules | `(tactic| walk_at "subscriptTail") => `(tactic| (k_here; (with_reducible show wpAny _ _ (subscriptTail _ _ (Value.bytes _ _) (Value.int _ _)) _ _ _); k_dflt (refine' item_T ?a ?b ?c ?_; (case a | b | c => omega)); intro hz0 hz1))
local macro_rules | `(tactic| walk_at "subscriptTail") => `(tactic| (k_here; (with_reducible show wpAny _ _ (subscriptTail _ _ (Value.bytes (List.toArray _) _) (Value.int _ _)) _ _ _); k_dflt (refine' item_lit ?a ?b ?c ?_; (case a => rfl); (case b => omega); (case c => exact Nat.le_of_ble_eq_true rfl))))
local macro_rules | `(tactic| walk_at "WhlIf") => `(tactic| (k_here; k_dflt (unfold PySem.W.WhlIf; first | rw [if_pos (decide_eq_true (by omega))] | rw [if_neg (by simp only [decide_eq_true_eq]; omega)])))
local macro_rules | `(tactic| walk_at "exec While") => `(tactic| (k_here; k_dflt (refine whl_start 100 ?_)))
local macro_rules | `(tactic| walk_at "eval Name") => `(tactic| (k_here; name_kind "globalImplicit"; (fail_if_success with_reducible show wpAny _ _ (eval _ (compEnvC _ _ _ _)) _ _ _); (with_reducible rename Fr _ _ _ _ => kF); with_unfolding_all refine guard_global (by rfl) ?_; k_dflt (refine' name_K kF ?k1 ?k2 ?k3 ?_; (case k1 | k2 => k_asm); (case k3 => k_is); k_whole)))
local macro_rules | `(tactic| walk_at "callWith ref") => `(tactic| (k_here; k_dflt (first | refine' callWith_K ?k1 ?k2 ?_; (case k1 => k_asm); (case k2 => k_is); k_whole | refine' callWith_K0 (Frag.In.keeps ?k3 (Fr.keep ?k1)) ?k2 ?_; (case k1 | k3 => with_reducible assumption); (case k2 => k_is); k_whole | refine' callWith_M ?k1 ?k2 ?k3 ?k4 ?_; (case k1 | k2 => k_asm); (case k3 => k_mem); (case k4 => k_is); k_whole | (refine' callWith_M0 ?k1 ?k2 ?_; (case k1 => k_meth); (case k2 => k_is); k_whole; try dsimp only [List.nil_append, List.cons_append]))))
local macro_rules | `(tactic| walk_at "eval Name") => `(tactic| (k_here; k_dflt (refine' nameX_L ?F ?v ?_ ?a ?b; (case F => k_asm); (case a => exact Eq.refl ScopeKind.function); (case b => exact Eq.refl (some NameKind.local)); (case v => exact Eq.refl (some _)); k_whole)))
local macro_rules | `(tactic| walk_at "my enter") => `(tactic| (refine' code_defM ?k1 ?k2 ?k3 ?k4 ?k5 ?kA ?kF ?kK ?k6 ?k7 ?k8 ?k9 ?kR ?kB ?_ ?c2 ?c3 ?c4 ?c5; (case kA | kF | kK => exact rfl); (case k1 | k2 | k3 | k4 | k5 => k_asm); (case k6 | k7 => k_is); (case k8 => k_room); (case k9 => first | exact Eq.refl (pure [(_, _)] : Sem _) | exact Eq.refl (pure [(_, _), (_, _)] : Sem _) | exact Eq.refl (pure [(_, _), (_, _), (_, _)] : Sem _) | exact Eq.refl (pure [(_, _), (_, _), (_, _), (_, _)] : Sem _)); (case kR => first | exact Eq.refl [(_, _)] | exact Eq.refl [(_, _), (_, _)] | exact Eq.refl [(_, _), (_, _), (_, _)] | exact Eq.refl [(_, _), (_, _), (_, _), (_, _)]); (case c5 => decide); (case kB => exact locs rfl); (case c2 | c3 | c4 => exact rfl); k_whole; intro g' L' h' tk' FG' F' N' B' X' T'; (try dsimp only); (try k_lift B'); (try k_fold)))
local macro_rules | `(tactic| walk_at "my nenter") => `(tactic| (refine' code_nestM ?k1 ?k2 ?k3 ?k4 ?k5 ?kA ?kF ?kK ?k6 ?k7 ?k8 ?k9 ?kR ?kB ?_ ?c2 ?c3 ?c4 ?c5; (case kA | kF | kK => exact rfl); (case k1 | k2 | k3 | k4 | k5 => k_asm); (case k6 => k_mem); (case k7 => exact codeRec_news (by k_asm) (by k_mem) (by assumption) (by assumption)); (case k8 => k_room); (case k9 => first | exact Eq.refl (pure [(_, _)] : Sem _) | exact Eq.refl (pure [(_, _), (_, _)] : Sem _) | exact Eq.refl (pure [(_, _), (_, _), (_, _)] : Sem _) | exact Eq.refl (pure [(_, _), (_, _), (_, _), (_, _)] : Sem _)); (case kR => first | exact Eq.refl [(_, _)] | exact Eq.refl [(_, _), (_, _)] | exact Eq.refl [(_, _), (_, _), (_, _)] | exact Eq.refl [(_, _), (_, _), (_, _), (_, _)]); (case c5 => decide); (case kB => exact locs rfl); (case c2 | c3 | c4 => exact rfl); k_whole; intro g' L' h' tk' FG' F' N' B' X' T'; (try dsimp only); (try k_lift B'); (try k_fold)))
local macro_rules | `(tactic| walk_at "call ref") => `(tactic| (k_here; k_dflt (first | (refine wpAny_call ?_; walk_at "my enter") | (refine' call_meth ?k1 ?k2 ?_; (case k1 => k_asm); (case k2 => k_mem); k_whole; walk_at "my enter") | (kn_here; refine wpAny_call ?_; walk_at "my nenter"))))
local macro_rules | `(tactic| walk_at "storeName") => `(tactic| (k_here; k_dflt (refine' storeM ?F ?N ?_ ?a ?b; (case F | N => k_asm); (case a => exact Eq.refl ScopeKind.function); (case b => exact Eq.refl (some NameKind.local)); k_whole; intro h' tk' F' N'; (try k_sweep))))
local macro_rules | `(tactic| walk_at "LeaveK") => `(tactic| (k_dflt (first | refine' leaveR ?k1 ?k2 ?k3 ?k4 ?_ | refine' leaveN ?k1 ?k2 ?k3 ?k4 ?_ | refine' leaveV ?k1 ?k2 ?k3 ?k4 ?_ | refine' leaveM ?k1 ?k2 ?k3 ?k4 ?_); (case k1 | k2 | k3 | k4 => k_asm); k_whole; intro tk' kF kN kX kT; (try dsimp only [InitBack, CmpBack, LenBack, StrBack, BoolBack]); (try refine ⟨rfl, ?_⟩)))
theorem flush1 {prog : PySem.Program} {w : PySem.World} {A : PySem.Around} {Q : Unit → PySem.Shared → Prop} {E : PySem.Value → PySem.Shared → Prop} {s : PySem.Shared} (h : Q () s) : PySem.wpAny (PySem.model prog w) A (pure ()) Q E s := by
  w_top off
  first | (walk1; fail) | exact PySem.wpAny_pure h
section
local macro_rules | `(tactic| walk_at "callWith ref") => `(tactic| (k_here; k_dflt (refine' callWith_F ?kfn ?_)))
local macro_rules | `(tactic| walk_at "getMethod ref") => `(tactic| (k_here; k_dflt (first | (refine' method_appendN ?N ?m ?_; (case N => k_asm); (case m => k_mem)) | (refine' method_extendN ?N ?m ?_; (case N => k_asm); (case m => k_mem)))))
local macro_rules | `(tactic| walk_at "call type:bytes") => `(tactic| (k_here; k_dflt (refine' bytesN ?a ?b ?_; (case a => exact (News.get (by k_asm) (by k_mem))); (case b => omega)); intro tb kb))
theorem expanded_c {nw : Array UInt8} {nt : Tok} {hf : Addr} {hv : Array UInt8} {I : List (Addr × Obj) → Prop} {V : Nat → Prop} (ex : Nat → Array UInt8)
    (H : (∃ j, j < nw.size ∧ zat nw (j : Nat) = 37) → ∀ tk, CallAny w p loose mean mg mb hf [.int 1 tk] I (fun v led => (∃ t, v = .bytes hv t) ∧ I led))
    (hfn : ∀ led h₀ L h, I led → News h₀ L h led → FnAt hf h)
    (hex0 : V 0 ∧ ex 0 = #[]) (hexz : ∀ i, (ex i).size ≤ 1000) (hvz : hv.size ≤ 1000) (hsz : nw.size ≤ 1000)
    (hex : ∀ i (hi : i < nw.size), V i → (zat nw i ≠ 37 ∧ V (i + 1) ∧ ex (i + 1) = (ex i).push (zat nw i).toNat.toUInt8) ∨ (zat nw i = 37 ∧ i + 1 < nw.size ∧ zat nw (i + 1) = 49 ∧ V (i + 2) ∧ ex (i + 2) = ex i ++ hv)) :
    CallC 200 w p loose mean mg mb 36 [.bytes nw nt, .ref hf] I (fun v led => (∃ t, v = .bytes (ex nw.size) t) ∧ I led) := by
  intro dp un gd cn csn csg csc csm a ccd cl outer A₀ base h₀ L m s Q pre led B F X N TT hI hD hdp hun hret
  revert X; k_fill; intro X
  refine wpC_call ?_
  k_dflt (refine' defC_K ?k1 ?k2 ?k3 ?k4 ?k5 ?kA ?kF ?kK ?k6 ?k7 ?k8 ?k9 ?kB ?_ ?c2 ?c3 ?c4 ?c5; (case kA => exact rfl); (case kF => exact rfl); (case kK => exact rfl); (case k1 => k_asm); (case k2 => k_asm); (case k3 => k_asm); (case k4 => k_asm); (case k5 => k_asm); (case k6 => k_is); (case k7 => k_is); (case k8 => k_room); (case k9 => first | exact BindsTo.of_eq rfl | exact binds_K (by k_in) rfl (by k_is) rfl rfl rfl | fail "k_enter: no rule for these arguments"); (case c5 => decide); (case kB => exact locs rfl); (case c2 => exact rfl); (case c3 => exact rfl); (case c4 => exact rfl); k_whole; intro g' L' h' FG' F' N' B' X' T' l'; (try dsimp only); (try k_lift B'))
  refine wpC_cons ?_
  refine wpC_AssignSwapped ?_
  refine wpC_Tuple ?_
  refine wpC_splicedHead ?_
  refine wpC_CallName ?_
  k_steps
  refine wpC_callTy rfl ?_
  refine wpC_splicedNil ?_
  refine bytearrayN (by k_asm) (by k_asm) ?_
  intro X1 h1 F1 N1 l1
  k_steps
  dsimp only [nextC]
  refine wpC_cons ?_
  refine wpC_While ?_
  have lX : ∀ q ∈ led ++ pre, q.1 ≠ X1 := fun q hq => Nat.ne_of_lt (l1 q hq)
  refine loopC (fun n s₂ => ∃ (i : Nat) (ti : Tok) (oc : Option Value) (led' : List (Addr × Obj)), n = nw.size - i ∧ i ≤ nw.size ∧ V i ∧ I led' ∧ Disj ((X1, baObj (ex i)) :: pre) led' ∧
    (∃ hh tt, s₂ = { s with heap := hh, toks := tt }) ∧
    Fr g' L' s₂.heap (fun y => if y = Str.ofString "at" then some (.int i ti) else if y = Str.ofString "octet" then oc else if y = Str.ofString "found" then some (.ref X1) else if y = Str.ofString "news" then some (.bytes nw nt)
      else if y = Str.ofString "held" then some (.ref hf) else if y = Str.ofString "most" then some .none else none) ∧ News g' L' s₂.heap ((X1, baObj (ex i)) :: (led' ++ pre))) ?_ nw.size _ ?_
  rotate_left
  · exact ⟨0, _, none, led, by omega, by omega, hex0.1, hI, hD.consL fun q hq => lX q (List.mem_append_left _ hq), ⟨_, _, rfl⟩, Fr.eqv (by k_asm) (by intro y; (by_cases hy0 : y = PySem.Str.ofString "at"; (subst hy0; rfl); by_cases hy1 : y = PySem.Str.ofString "octet"; (subst hy1; rfl); by_cases hy2 : y = PySem.Str.ofString "found"; (subst hy2; rfl); by_cases hy3 : y = PySem.Str.ofString "news"; (subst hy3; rfl); by_cases hy4 : y = PySem.Str.ofString "held"; (subst hy4; rfl); by_cases hy5 : y = PySem.Str.ofString "most"; (subst hy5; rfl); ((repeat rw [if_neg (by assumption)]); first | done | rfl | exact lookup_none_of (List.map PySem.Str.ofString ["at", "octet", "found", "news", "held", "most"]) rfl (by simp [*]) | (symm; exact lookup_none_of (List.map PySem.Str.ofString ["at", "octet", "found", "news", "held", "most"]) rfl (by simp [*]))))),
      hex0.2.symm ▸ News.perm (by k_asm) fun q hq => .tail _ hq⟩
  · intro n s₂ hI0 ih
    refine Classical.byContradiction fun hG0 => ?_
    obtain ⟨i, ti, oc, led', rfl, hi, hV', hI', hD', ⟨hh, tt, rfl⟩, F2, N2⟩ := hI0
    refine hG0 ?_
    clear hG0
    clear l1
    refine codeC_while ?_
    by_cases hlt : i < nw.size
    · k_steps
      refine wpC_cons (wpC_of_any ?_)
      k_steps
      dsimp only [nextC]
      rcases hex i hlt hV' with ⟨h37, hV2, hstep⟩ | ⟨h37, hn, h49, hV2, hstep⟩
      · refine wpC_cons (wpC_If (wpC_of_any ?_))
        k_steps
        refine wpC_cons ?_
        refine wpC_Expr ?_
        refine wpC_CallMethod ?_
        k_steps
        refine wpC_callBi rfl ?_
        refine wpC_spliced1 (wpC_of_any (any_ifn Bool.false_ne_true ?_))
        k_steps
        refine appendN (by k_asm) (by k_asm) (.head ?_) (by assumption) (by assumption) (by have := hexz i; omega) ?_
        · exact fun q hq => by
            rcases List.mem_append.mp hq with hq | hq
            · exact hD'.headL q hq
            · exact lX q (List.mem_append_right _ hq)
        intro h2 F3 N3
        refine ⟨rfl, ?_⟩
        dsimp only [nextC]
        refine wpC_nil ?_
        dsimp only [nextC]
        refine wpC_of_any ?_
        k_steps
        dsimp only [turnC]
        refine ih _ (nw.size - (i + 1)) (by omega) ⟨i + 1, _, _, led', rfl, by omega, hV2, hI', hD'.tailL.consL (hD'.headL), ⟨_, _, rfl⟩, Fr.eqv (by k_asm) (by intro y; (by_cases hy0 : y = PySem.Str.ofString "at"; (subst hy0; rfl); by_cases hy1 : y = PySem.Str.ofString "octet"; (subst hy1; rfl); by_cases hy2 : y = PySem.Str.ofString "found"; (subst hy2; rfl); by_cases hy3 : y = PySem.Str.ofString "news"; (subst hy3; rfl); by_cases hy4 : y = PySem.Str.ofString "held"; (subst hy4; rfl); by_cases hy5 : y = PySem.Str.ofString "most"; (subst hy5; rfl); ((repeat rw [if_neg (by assumption)]); first | done | rfl | exact lookup_none_of (List.map PySem.Str.ofString ["at", "octet", "found", "news", "held", "most"]) rfl (by simp [*]) | (symm; exact lookup_none_of (List.map PySem.Str.ofString ["at", "octet", "found", "news", "held", "most"]) rfl (by simp [*]))))), hstep ▸ (by k_asm)⟩
      · refine wpC_cons (wpC_If (wpC_of_any ?_))
        k_steps
        refine wpC_cons (wpC_of_any ?_)
        k_steps
        dsimp only [nextC]
        refine wpC_cons (wpC_of_any ?_)
        k_steps
        dsimp only [nextC]
        refine wpC_cons (wpC_If (wpC_of_any ?_))
        k_steps
        refine wpC_cons ?_
        refine wpC_Expr ?_
        refine wpC_CallMethod ?_
        k_steps
        refine wpC_callBi rfl ?_
        refine wpC_spliced1 (wpC_of_any (any_ifn Bool.false_ne_true ?_))
        k_steps
        · exact hfn led' _ _ _ hI' (News.perm (by k_asm) (fun q hq => List.mem_cons_of_mem _ (List.mem_append_left _ hq)))
        · exact hfn led' _ _ _ hI' (News.perm (by k_asm) (fun q hq => List.mem_cons_of_mem _ (List.mem_append_left _ hq)))
        rw [show zat nw (↑i + 1) - 48 = 1 by omega]
        k_dflt (refine H ⟨i, hlt, h37⟩ _ (pre := (X1, baObj (ex i)) :: pre) (led := led') (by k_asm) (by k_asm) (by k_asm) (PySem.W.ktn_tl2 (by k_asm)) (by k_asm) hI' hD' (by ktr_room) (by ktr_units) ?_)
        rintro v h3 tk3 led3 F3 N3 ⟨⟨t3, rfl⟩, hI3⟩ hD3
        refine extendN (by k_asm) (News.unrot N3) (.head ?_) (by have := hexz i; omega) ?_
        · exact fun q hq => by
            rcases List.mem_append.mp hq with hq | hq
            · exact hD3.headL q hq
            · exact lX q (List.mem_append_right _ hq)
        intro h4 F4 N4
        refine ⟨rfl, ?_⟩
        dsimp only [nextC]
        refine wpC_nil ?_
        dsimp only [nextC]
        refine wpC_nil ?_
        dsimp only [nextC]
        refine wpC_of_any ?_
        k_steps
        dsimp only [turnC]
        refine ih _ (nw.size - (i + 2)) (by omega) ⟨i + 2, _, _, led3, rfl, by omega, hV2, hI3, hD3.tailL.consL (hD3.headL), ⟨_, _, rfl⟩, Fr.eqv (by k_asm) (by intro y; (by_cases hy0 : y = PySem.Str.ofString "at"; (subst hy0; rfl); by_cases hy1 : y = PySem.Str.ofString "octet"; (subst hy1; rfl); by_cases hy2 : y = PySem.Str.ofString "found"; (subst hy2; rfl); by_cases hy3 : y = PySem.Str.ofString "news"; (subst hy3; rfl); by_cases hy4 : y = PySem.Str.ofString "held"; (subst hy4; rfl); by_cases hy5 : y = PySem.Str.ofString "most"; (subst hy5; rfl); ((repeat rw [if_neg (by assumption)]); first | done | rfl | exact lookup_none_of (List.map PySem.Str.ofString ["at", "octet", "found", "news", "held", "most"]) rfl (by simp [*]) | (symm; exact lookup_none_of (List.map PySem.Str.ofString ["at", "octet", "found", "news", "held", "most"]) rfl (by simp [*]))))), hstep ▸ (by k_asm)⟩
    · obtain rfl : i = nw.size := by omega
      k_steps
      dsimp only [nextC]
      refine wpC_of_any ?_
      k_steps
      dsimp only [nextC]
      have hz := hexz nw.size
      refine wpC_of_any ?_
      k_steps
      show Q _ _
      exact hret _ _ _ led' (by k_asm) (News.perm (by k_asm) fun q hq => .tail _ hq) ⟨⟨_, rfl⟩, hI'⟩ hD'.tailL
end
theorem flush2 {prog : PySem.Program} {w : PySem.World} {A : PySem.Around} {Q : Unit → PySem.Shared → Prop} {E : PySem.Value → PySem.Shared → Prop} {s : PySem.Shared} (h : Q () s) : PySem.wpAny (PySem.model prog w) A (pure ()) Q E s := by
  w_top off
  first | (walk1; fail) | exact PySem.wpAny_pure h
section
local macro_rules | `(tactic| walk_at "callWith ref") => `(tactic| (k_here; k_dflt (refine' callWith_F ?kfn ?_)))
local macro_rules | `(tactic| walk_at "getMethod ref") => `(tactic| (k_here; k_dflt (first | (refine' method_appendN ?N ?m ?_; (case N => k_asm); (case m => k_mem)) | (refine' method_extendN ?N ?m ?_; (case N => k_asm); (case m => k_mem)))))
local macro_rules | `(tactic| walk_at "call type:bytes") => `(tactic| (k_here; k_dflt (refine' bytesN ?a ?b ?_; (case a => exact (News.get (by k_asm) (by k_mem))); (case b => omega)); intro tb kb))
theorem picked_end (b : Array UInt8) : PySem.W.KBy.picked b (some (b.size : Int)) none = #[] := by
  rw [PySem.W.KBc.picked_eq]
  have : PySem.clipAt b.size (b.size : Int) = b.size := by unfold PySem.clipAt; omega
  simp [this]
theorem replaced_c {T : Array UInt8} {tT t99 : Tok} {f g : Addr} {I : List (Addr × Obj) → Prop} {J : Nat → List (Addr × Obj) → Prop} (P : Nat → Prop) (res : Nat → Option Nat) (gv : Nat → Array UInt8) (fo : Nat → Array UInt8) (co : Nat → Nat)
    (HE : ∀ (i : Nat) tk, i ≤ T.size → P i → CallAny w p loose mean mg mb f [.int i tk] I (fun v led => (res i = none ∧ v = .none ∧ I led) ∨ ∃ e t, res i = some e ∧ v = .int (e : Nat) t ∧ J i led))
    (HG : ∀ (i e : Nat) tk te, res i = some e → P i → CallC 400 w p loose mean mg mb g [.int i tk, .int e te] (J i) (fun v led => (∃ t, v = .bytes (gv i) t) ∧ I led))
    (hfn : ∀ led h₀ L h, I led → News h₀ L h led → FnAt f h) (hgn : ∀ i led h₀ L h, J i led → News h₀ L h led → FnAt g h)
    (h0 : P 0 ∧ fo 0 = #[] ∧ co 0 = 0) (hfz : ∀ i, (fo i).size ≤ 1000) (hgz : ∀ i, (gv i).size ≤ 1000) (hT : T.size ≤ 1000) (hco : ∀ i, co i ≤ 50)
    (hs : ∀ i e, P i → res i = some e → i < e ∧ e ≤ T.size ∧ P e ∧ fo e = fo i ++ gv i ∧ co e = co i + 1)
    (hn : ∀ i, P i → res i = none → i < T.size → P (i + 1) ∧ fo (i + 1) = (fo i).push (zat T i).toNat.toUInt8 ∧ co (i + 1) = co i) :
    CallC 600 w p loose mean mg mb 43 [.bytes T tT, .int 99 t99, .bool false, .ref f, .ref g] I
      (fun v led => ∃ t tb tc led', v = .ref t ∧ led = (t, { cls := .type "tuple", data := .seq #[.bytes (fo T.size) tb, .int (co T.size : Nat) tc] }) :: led' ∧ I led') := by
  intro dp un gd cn csn csg csc csm a ccd cl outer A₀ base h₀ L m s Q pre led B F X N TT hI hD hdp hun hret
  revert X; k_fill; intro X
  refine wpC_call ?_
  k_dflt (refine' defC_K ?k1 ?k2 ?k3 ?k4 ?k5 ?kA ?kF ?kK ?k6 ?k7 ?k8 ?k9 ?kB ?_ ?c2 ?c3 ?c4 ?c5; (case kA => exact rfl); (case kF => exact rfl); (case kK => exact rfl); (case k1 => k_asm); (case k2 => k_asm); (case k3 => k_asm); (case k4 => k_asm); (case k5 => k_asm); (case k6 => k_is); (case k7 => k_is); (case k8 => k_room); (case k9 => first | exact BindsTo.of_eq rfl | exact binds_K (by k_in) rfl (by k_is) rfl rfl rfl | fail "k_enter: no rule for these arguments"); (case c5 => decide); (case kB => exact locs rfl); (case c2 => exact rfl); (case c3 => exact rfl); (case c4 => exact rfl); k_whole; intro g' L' h' FG' F' N' B' X' T' l'; (try dsimp only); (try k_lift B'))
  refine wpC_cons ?_
  refine wpC_AssignSwapped ?_
  refine wpC_Tuple ?_
  refine wpC_splicedHead ?_
  refine wpC_CallName ?_
  k_steps
  refine wpC_callTy rfl ?_
  refine wpC_splicedNil ?_
  refine bytearrayN (by k_asm) (by k_asm) ?_
  intro X1 h1 F1 N1 l1
  k_steps
  dsimp only [nextC]
  refine wpC_cons ?_
  refine wpC_While ?_
  have lX : ∀ q ∈ led ++ pre, q.1 ≠ X1 := fun q hq => Nat.ne_of_lt (l1 q hq)
  refine loopC (fun n s₂ => ∃ (i : Nat) (ti tm : Tok) (oc : Option Value) (led' : List (Addr × Obj)), n = T.size - i ∧ i ≤ T.size ∧ P i ∧ I led' ∧ Disj ((X1, baObj (fo i)) :: pre) led' ∧
    (∃ hh tt, s₂ = { s with heap := hh, toks := tt }) ∧
    Fr g' L' s₂.heap (fun y => if y = Str.ofString "at" then some (.int i ti) else if y = Str.ofString "many" then some (.int (co i : Nat) tm) else if y = Str.ofString "end" then oc else if y = Str.ofString "found" then some (.ref X1)
      else if y = Str.ofString "text" then some (.bytes T tT) else if y = Str.ofString "most" then some (.int 99 t99) else if y = Str.ofString "is_bound" then some (.bool false) else if y = Str.ofString "ends_at" then some (.ref f)
      else if y = Str.ofString "give" then some (.ref g) else none) ∧ News g' L' s₂.heap ((X1, baObj (fo i)) :: (led' ++ pre))) ?_ T.size _ ?_
  rotate_left
  · exact ⟨0, _, _, none, led, by omega, by omega, h0.1, hI, hD.consL fun q hq => lX q (List.mem_append_left _ hq), ⟨_, _, rfl⟩, Fr.eqv (by k_asm) (by intro y; rw [h0.2.2]; (by_cases hy0 : y = PySem.Str.ofString "at"; (subst hy0; rfl); by_cases hy1 : y = PySem.Str.ofString "many"; (subst hy1; rfl); by_cases hy2 : y = PySem.Str.ofString "end"; (subst hy2; rfl); by_cases hy3 : y = PySem.Str.ofString "found"; (subst hy3; rfl); by_cases hy4 : y = PySem.Str.ofString "text"; (subst hy4; rfl); by_cases hy5 : y = PySem.Str.ofString "most"; (subst hy5; rfl); by_cases hy6 : y = PySem.Str.ofString "is_bound"; (subst hy6; rfl); by_cases hy7 : y = PySem.Str.ofString "ends_at"; (subst hy7; rfl); by_cases hy8 : y = PySem.Str.ofString "give"; (subst hy8; rfl); ((repeat rw [if_neg (by assumption)]); first | done | rfl | exact lookup_none_of (List.map PySem.Str.ofString ["at", "many", "end", "found", "text", "most", "is_bound", "ends_at", "give"]) rfl (by simp [*]) | (symm; exact lookup_none_of (List.map PySem.Str.ofString ["at", "many", "end", "found", "text", "most", "is_bound", "ends_at", "give"]) rfl (by simp [*]))))),
      h0.2.1.symm ▸ News.perm (by k_asm) fun q hq => .tail _ hq⟩
  · intro n s₂ hI0 ih
    refine Classical.byContradiction fun hG0 => ?_
    obtain ⟨i, ti, tm, oc, led', rfl, hi, hP, hI', hD', ⟨hh, tt, rfl⟩, F2, N2⟩ := hI0
    refine hG0 ?_
    clear hG0
    clear l1
    have hc := hco i
    refine codeC_while ?_
    k_steps
    refine wpC_cons (wpC_of_any ?_)
    k_steps
    · exact hfn led' _ _ _ hI' (News.perm (by k_asm) (fun q hq => List.mem_cons_of_mem _ (List.mem_append_left _ hq)))
    · exact hfn led' _ _ _ hI' (News.perm (by k_asm) (fun q hq => List.mem_cons_of_mem _ (List.mem_append_left _ hq)))
    k_dflt (refine HE i _ hi hP (pre := (X1, baObj (fo i)) :: pre) (led := led') (by k_asm) (by k_asm) (by k_asm) (PySem.W.ktn_tl2 (by k_asm)) (by k_asm) hI' hD' (by ktr_room) (by ktr_units) ?_)
    intro v h3 tk3 led3 F3 N3 hI0 hD3
    refine Classical.byContradiction fun hG0 => ?_
    rcases hI0 with ⟨hr, rfl, hI3⟩ | ⟨e, t3, hr, rfl, hJ3⟩
    all_goals refine hG0 ?_
    all_goals clear hG0
    · replace N3 := News.unrot N3
      k_steps
      dsimp only [nextC]
      refine wpC_cons (wpC_If (wpC_of_any ?_))
      k_steps
      refine wpC_nil ?_
      dsimp only [nextC]
      refine wpC_cons (wpC_If (wpC_of_any ?_))
      k_steps
      refine wpC_cons (wpC_If (wpC_of_any ?_))
      by_cases hlt : i < T.size
      · obtain ⟨hP1, hf1, hc1⟩ := hn i hP hr hlt
        k_steps
        refine wpC_cons ?_
        refine wpC_Expr ?_
        refine wpC_CallMethod ?_
        k_steps
        refine wpC_callBi rfl ?_
        refine wpC_spliced1 (wpC_of_any (any_ifn Bool.false_ne_true ?_))
        k_steps
        refine appendN (by k_asm) (by k_asm) (.head ?_) (by assumption) (by assumption) (by have := hfz i; omega) ?_
        · exact fun q hq => by
            rcases List.mem_append.mp hq with hq | hq
            · exact hD3.headL q hq
            · exact lX q (List.mem_append_right _ hq)
        intro h4 F4 N4
        refine ⟨rfl, ?_⟩
        iterate 5 (try (dsimp only [nextC]; refine wpC_of_any ?_; k_steps))
        dsimp only [turnC]
        refine ih _ (T.size - (i + 1)) (by omega) ⟨i + 1, _, _, _, led3, rfl, by omega, hP1, hI3, hD3.tailL.consL (hD3.headL), ⟨_, _, rfl⟩, Fr.eqv (by k_asm) (by intro y; rw [hc1]; (by_cases hy0 : y = PySem.Str.ofString "at"; (subst hy0; rfl); by_cases hy1 : y = PySem.Str.ofString "many"; (subst hy1; rfl); by_cases hy2 : y = PySem.Str.ofString "end"; (subst hy2; rfl); by_cases hy3 : y = PySem.Str.ofString "found"; (subst hy3; rfl); by_cases hy4 : y = PySem.Str.ofString "text"; (subst hy4; rfl); by_cases hy5 : y = PySem.Str.ofString "most"; (subst hy5; rfl); by_cases hy6 : y = PySem.Str.ofString "is_bound"; (subst hy6; rfl); by_cases hy7 : y = PySem.Str.ofString "ends_at"; (subst hy7; rfl); by_cases hy8 : y = PySem.Str.ofString "give"; (subst hy8; rfl); ((repeat rw [if_neg (by assumption)]); first | done | rfl | exact lookup_none_of (List.map PySem.Str.ofString ["at", "many", "end", "found", "text", "most", "is_bound", "ends_at", "give"]) rfl (by simp [*]) | (symm; exact lookup_none_of (List.map PySem.Str.ofString ["at", "many", "end", "found", "text", "most", "is_bound", "ends_at", "give"]) rfl (by simp [*]))))), hf1 ▸ (by k_asm)⟩
      · k_steps
        obtain rfl : i = T.size := by omega
        refine wpC_of_any ?_
        k_steps
        dsimp only [turnC, nextC]
        refine wpC_cons ?_
        refine wpC_Expr ?_
        refine wpC_CallMethod ?_
        k_steps
        refine wpC_callBi rfl ?_
        refine wpC_spliced1 (wpC_of_any (any_ifn Bool.false_ne_true ?_))
        k_steps
        ((with_reducible rename Fr _ _ _ _ => F'); (with_reducible rename News _ _ _ _ => N'); k_dflt (refine PySem.W.KBc.slice_K (s := ⟨_, _, _, _, _⟩) F' N' rfl (by constructor) (by constructor) (by rw [PySem.W.KBw.ints_length]; omega) ?_); intro _ _ _ _ _ _)
        k_steps
        rw [picked_end]
        refine extendN (by k_asm) (by k_asm) (.head ?_) (by have := hfz T.size; simp; omega) ?_
        · exact fun q hq => by
            rcases List.mem_append.mp hq with hq | hq
            · exact hD3.headL q hq
            · exact lX q (List.mem_append_right _ hq)
        intro h4 F4 N4
        refine ⟨rfl, ?_⟩
        rw [Array.append_empty] at N4
        dsimp only [nextC]
        have hz := hfz T.size
        refine wpC_of_any ?_
        k_steps
        show Q _ _
        rename News h₀ L _ _ => kN
        rename _ ∧ AllLt _ _ => kl
        exact hret _ _ _ (_ :: led3) (by k_asm) (News.sub3 kN) ⟨_, _, _, led3, rfl, rfl, hI3⟩ (hD3.tailL.consR fun q hq => Nat.ne_of_lt (AllLt.get kl.2 q (List.mem_append_right _ hq)))
    · replace N3 := News.unrot N3
      refine Classical.byContradiction fun hG0 => ?_
      obtain ⟨h1, h2, hP1, hf1, hc1⟩ := hs i e hP hr
      refine hG0 ?_
      clear hG0
      k_steps
      dsimp only [nextC]
      refine wpC_cons (wpC_If (wpC_of_any ?_))
      k_steps
      refine wpC_cons (wpC_of_any ?_)
      k_steps
      dsimp only [nextC]
      refine wpC_cons ?_
      refine wpC_Expr ?_
      refine wpC_CallMethod ?_
      k_steps
      refine wpC_callBi rfl ?_
      refine wpC_spliced1 (wpC_ifn Bool.false_ne_true ?_)
      refine wpC_CallName ?_
      k_steps
      have keep : ∀ q ∈ led3, q ∈ (X1, baObj (fo i)) :: (led3 ++ pre) := fun q hq => List.mem_cons_of_mem _ (List.mem_append_left _ hq)
      refine wpC_callWith (P := FnAt g) rfl keeps_F (wpC_of_any ?_)
      k_steps
      · exact hgn i led3 _ _ _ hJ3 (News.perm (by k_asm) keep)
      k_dflt (refine HG i e _ _ hr hP (pre := (X1, baObj (fo i)) :: pre) (led := led3) (by k_asm) (by k_asm) (by k_asm) (PySem.W.ktn_tl2 (by k_asm)) (by k_asm) hJ3 hD3 (by ktr_room) (by ktr_units) ?_)
      rintro v h5 tk5 led5 F5 N5 ⟨⟨t5, rfl⟩, hI5⟩ hD5
      refine extendN (by k_asm) (News.unrot N5) (.head ?_) (by have := hfz i; have := hgz i; omega) ?_
      · exact fun q hq => by
          rcases List.mem_append.mp hq with hq | hq
          · exact hD5.headL q hq
          · exact lX q (List.mem_append_right _ hq)
      intro h6 F6 N6
      refine ⟨rfl, ?_⟩
      iterate 5 (try (dsimp only [nextC]; refine wpC_of_any ?_; k_steps))
      dsimp only [turnC]
      refine ih _ (T.size - e) (by omega) ⟨e, _, _, _, led5, rfl, by omega, hP1, hI5, hD5.tailL.consL (hD5.headL), ⟨_, _, rfl⟩, Fr.eqv (by k_asm) (by intro y; rw [hc1]; (by_cases hy0 : y = PySem.Str.ofString "at"; (subst hy0; rfl); by_cases hy1 : y = PySem.Str.ofString "many"; (subst hy1; rfl); by_cases hy2 : y = PySem.Str.ofString "end"; (subst hy2; rfl); by_cases hy3 : y = PySem.Str.ofString "found"; (subst hy3; rfl); by_cases hy4 : y = PySem.Str.ofString "text"; (subst hy4; rfl); by_cases hy5 : y = PySem.Str.ofString "most"; (subst hy5; rfl); by_cases hy6 : y = PySem.Str.ofString "is_bound"; (subst hy6; rfl); by_cases hy7 : y = PySem.Str.ofString "ends_at"; (subst hy7; rfl); by_cases hy8 : y = PySem.Str.ofString "give"; (subst hy8; rfl); ((repeat rw [if_neg (by assumption)]); first | done | rfl | exact lookup_none_of (List.map PySem.Str.ofString ["at", "many", "end", "found", "text", "most", "is_bound", "ends_at", "give"]) rfl (by simp [*]) | (symm; exact lookup_none_of (List.map PySem.Str.ofString ["at", "many", "end", "found", "text", "most", "is_bound", "ends_at", "give"]) rfl (by simp [*]))))), hf1 ▸ (by k_asm)⟩
end
theorem flush3 {prog : PySem.Program} {w : PySem.World} {A : PySem.Around} {Q : Unit → PySem.Shared → Prop} {E : PySem.Value → PySem.Shared → Prop} {s : PySem.Shared} (h : Q () s) : PySem.wpAny (PySem.model prog w) A (pure ()) Q E s := by
  w_top off
  first | (walk1; fail) | exact PySem.wpAny_pure h
section
/-- the matcher's entries -/
abbrev mE (w : World) (T P : Array UInt8) (tT tP t0 t1 t2 t3 t4 t5 t6 t7 t8 : Tok) (dep : Int) (td : Tok) (vl vs ve : Value) : Obj := dictOf [⟨PyData.keyHash w.params (Str.ofString "text"), .str (Str.ofString "text") t1, .bytes T tT⟩, ⟨PyData.keyHash w.params (Str.ofString "pattern"), .str (Str.ofString "pattern") t2, .bytes P tP⟩,
      ⟨PyData.keyHash w.params (Str.ofString "most_depth"), .str (Str.ofString "most_depth") t3, .int 60 t0⟩, ⟨PyData.keyHash w.params (Str.ofString "tick"), .str (Str.ofString "tick") t4, .none⟩,
      ⟨PyData.keyHash w.params (Str.ofString "depth"), .str (Str.ofString "depth") t5, .int dep td⟩, ⟨PyData.keyHash w.params (Str.ofString "level"), .str (Str.ofString "level") t6, vl⟩,
      ⟨PyData.keyHash w.params (Str.ofString "starts"), .str (Str.ofString "starts") t7, vs⟩, ⟨PyData.keyHash w.params (Str.ofString "lengths"), .str (Str.ofString "lengths") t8, ve⟩] 8
theorem at_in {T P : Array UInt8} {x d : Nat} {led : List (Addr × Obj)} {dep : Int} {t1 t2 t3 t4 t5 t6 t7 t8 tT tP t0 td : Tok} {vl vs ve : Value} {q : Int} {tq : Tok}
    (B : Below A₀ base outer h₀) (F : Fr h₀ L s.heap m) (X : (hd.heap_39 w.params).In h₀) (N : News h₀ L s.heap led) (TT : Top p loose mean mg mb h₀)
    (hx : (x, instObj 282 d) ∈ led) (hdm : (d, mE w T P tT tP t0 t1 t2 t3 t4 t5 t6 t7 t8 dep td vl vs ve) ∈ led) (hq0 : 0 ≤ q) (hq1 : q < P.size) (hP : P.size ≤ 10) (hdp : dp + 5 < recursionLimit) (hun : un + 200 < cLine)
    (h : ∀ t h' tk', Fr h₀ L h' m → News h₀ L h' led → Q (.int (zat P q) t) { s with heap := h', toks := tk' }) :
    wpAny (model PySem.Challenge.rw_tk0057_01.row.prog w) (ktrTop dp un gd cn { kind := .function, names := csn, isGenerator := csg, isCoroutine := csc, more := csm } L a ccd cl outer) (call (.ref 162) [.ref x, .int q tq]) Q E s := by
  have NN : News h₀ L s.heap ((x, instObj 282 d) :: (d, mE w T P tT tP t0 t1 t2 t3 t4 t5 t6 t7 t8 dep td vl vs ve) :: led) := News.perm N (fun q hq => by
    rcases List.mem_cons.mp hq with rfl | hq
    · exact hx
    rcases List.mem_cons.mp hq with rfl | hq
    · exact hdm
    · exact hq)
  dsimp only [mE] at NN
  clear N hx hdm
  revert X; k_fill; intro X
  refine wpAny_call ?_
  k_dflt (walk_at "my enter")
  k_steps
  all_goals (with_reducible rename News h₀ L _ _ => kN)
  all_goals (with_reducible rename Fr h₀ L _ _ => kF)
  all_goals (try dsimp only at kN kF)
  first | exact h _ _ _ kF (News.tail' (News.tail' kN)) | exact h _ _ _ kF (News.tail' (News.tail' (News.tail' kN))) | exact h _ _ _ kF (News.tail' (News.tail' (News.tail' (News.tail' kN))))
theorem at_out {T P : Array UInt8} {x d : Nat} {led : List (Addr × Obj)} {dep : Int} {t1 t2 t3 t4 t5 t6 t7 t8 tT tP t0 td : Tok} {vl vs ve : Value} {q : Int} {tq : Tok}
    (B : Below A₀ base outer h₀) (F : Fr h₀ L s.heap m) (X : (hd.heap_39 w.params).In h₀) (N : News h₀ L s.heap led) (TT : Top p loose mean mg mb h₀)
    (hx : (x, instObj 282 d) ∈ led) (hdm : (d, mE w T P tT tP t0 t1 t2 t3 t4 t5 t6 t7 t8 dep td vl vs ve) ∈ led) (hq1 : (P.size : Int) ≤ q) (hP : P.size ≤ 10) (hdp : dp + 5 < recursionLimit) (hun : un + 200 < cLine)
    (h : ∀ t h' tk', Fr h₀ L h' m → News h₀ L h' led → Q (.int 0 t) { s with heap := h', toks := tk' }) :
    wpAny (model PySem.Challenge.rw_tk0057_01.row.prog w) (ktrTop dp un gd cn { kind := .function, names := csn, isGenerator := csg, isCoroutine := csc, more := csm } L a ccd cl outer) (call (.ref 162) [.ref x, .int q tq]) Q E s := by
  have NN : News h₀ L s.heap ((x, instObj 282 d) :: (d, mE w T P tT tP t0 t1 t2 t3 t4 t5 t6 t7 t8 dep td vl vs ve) :: led) := News.perm N (fun q hq => by
    rcases List.mem_cons.mp hq with rfl | hq
    · exact hx
    rcases List.mem_cons.mp hq with rfl | hq
    · exact hdm
    · exact hq)
  dsimp only [mE] at NN
  clear N hx hdm
  revert X; k_fill; intro X
  refine wpAny_call ?_
  k_dflt (walk_at "my enter")
  k_steps
  all_goals (with_reducible rename News h₀ L _ _ => kN)
  all_goals (with_reducible rename Fr h₀ L _ _ => kF)
  all_goals (try dsimp only at kN kF)
  first | exact h _ _ _ kF (News.tail' (News.tail' kN)) | exact h _ _ _ kF (News.tail' (News.tail' (News.tail' kN))) | exact h _ _ _ kF (News.tail' (News.tail' (News.tail' (News.tail' kN))))
theorem cend_l {T P : Array UInt8} {x d : Nat} {led : List (Addr × Obj)} {dep : Int} {t1 t2 t3 t4 t5 t6 t7 t8 tT tP t0 td : Tok} {vl vs ve : Value} {q : Int} {tq : Tok}
    (B : Below A₀ base outer h₀) (F : Fr h₀ L s.heap m) (X : (hd.heap_39 w.params).In h₀) (N : News h₀ L s.heap led) (TT : Top p loose mean mg mb h₀)
    (hx : (x, instObj 282 d) ∈ led) (hdm : (d, mE w T P tT tP t0 t1 t2 t3 t4 t5 t6 t7 t8 dep td vl vs ve) ∈ led) (hq0 : 0 ≤ q) (hq1 : q < P.size) (hP : P.size ≤ 10) (hl : 65 ≤ zat P q ∧ zat P q ≤ 67 ∨ 97 ≤ zat P q) (hdp : dp + 5 < recursionLimit) (hun : un + 200 < cLine)
    (h : ∀ t h' tk', Fr h₀ L h' m → News h₀ L h' led → Q (.int (q + 1) t) { s with heap := h', toks := tk' }) :
    wpAny (model PySem.Challenge.rw_tk0057_01.row.prog w) (ktrTop dp un gd cn { kind := .function, names := csn, isGenerator := csg, isCoroutine := csc, more := csm } L a ccd cl outer) (call (.ref 169) [.ref x, .int q tq]) Q E s := by
  have NN : News h₀ L s.heap ((x, instObj 282 d) :: (d, mE w T P tT tP t0 t1 t2 t3 t4 t5 t6 t7 t8 dep td vl vs ve) :: led) := News.perm N (fun q hq => by
    rcases List.mem_cons.mp hq with rfl | hq
    · exact hx
    rcases List.mem_cons.mp hq with rfl | hq
    · exact hdm
    · exact hq)
  dsimp only [mE] at NN
  clear N hx hdm
  revert X; k_fill; intro X
  refine wpAny_call ?_
  k_dflt (walk_at "my enter")
  k_steps
  all_goals (with_reducible rename News h₀ L _ _ => kN)
  all_goals (with_reducible rename Fr h₀ L _ _ => kF)
  all_goals (try dsimp only at kN kF)
  first | exact h _ _ _ kF (News.tail' (News.tail' kN)) | exact h _ _ _ kF (News.tail' (News.tail' (News.tail' kN))) | exact h _ _ _ kF (News.tail' (News.tail' (News.tail' (News.tail' kN))))
theorem cend_e {T P : Array UInt8} {x d : Nat} {led : List (Addr × Obj)} {dep : Int} {t1 t2 t3 t4 t5 t6 t7 t8 tT tP t0 td : Tok} {vl vs ve : Value} {q : Int} {tq : Tok}
    (B : Below A₀ base outer h₀) (F : Fr h₀ L s.heap m) (X : (hd.heap_39 w.params).In h₀) (N : News h₀ L s.heap led) (TT : Top p loose mean mg mb h₀)
    (hx : (x, instObj 282 d) ∈ led) (hdm : (d, mE w T P tT tP t0 t1 t2 t3 t4 t5 t6 t7 t8 dep td vl vs ve) ∈ led) (hq0 : 0 ≤ q) (hq1 : q + 1 < P.size) (hP : P.size ≤ 10) (hl : zat P q = 37) (hdp : dp + 5 < recursionLimit) (hun : un + 200 < cLine)
    (h : ∀ t h' tk', Fr h₀ L h' m → News h₀ L h' led → Q (.int (q + 2) t) { s with heap := h', toks := tk' }) :
    wpAny (model PySem.Challenge.rw_tk0057_01.row.prog w) (ktrTop dp un gd cn { kind := .function, names := csn, isGenerator := csg, isCoroutine := csc, more := csm } L a ccd cl outer) (call (.ref 169) [.ref x, .int q tq]) Q E s := by
  have NN : News h₀ L s.heap ((x, instObj 282 d) :: (d, mE w T P tT tP t0 t1 t2 t3 t4 t5 t6 t7 t8 dep td vl vs ve) :: led) := News.perm N (fun q hq => by
    rcases List.mem_cons.mp hq with rfl | hq
    · exact hx
    rcases List.mem_cons.mp hq with rfl | hq
    · exact hdm
    · exact hq)
  dsimp only [mE] at NN
  clear N hx hdm
  revert X; k_fill; intro X
  refine wpAny_call ?_
  k_dflt (walk_at "my enter")
  k_steps
  all_goals (with_reducible rename News h₀ L _ _ => kN)
  all_goals (with_reducible rename Fr h₀ L _ _ => kF)
  all_goals (try dsimp only at kN kF)
  first | exact h _ _ _ kF (News.tail' (News.tail' kN)) | exact h _ _ _ kF (News.tail' (News.tail' (News.tail' kN))) | exact h _ _ _ kF (News.tail' (News.tail' (News.tail' (News.tail' kN))))
theorem single_l {T P : Array UInt8} {x d : Nat} {led : List (Addr × Obj)} {dep : Int} {t1 t2 t3 t4 t5 t6 t7 t8 tT tP t0 td : Tok} {vl vs ve : Value} {q k e : Int} {tq tk te : Tok}
    (B : Below A₀ base outer h₀) (F : Fr h₀ L s.heap m) (X : (hd.heap_39 w.params).In h₀) (N : News h₀ L s.heap led) (TT : Top p loose mean mg mb h₀)
    (hx : (x, instObj 282 d) ∈ led) (hdm : (d, mE w T P tT tP t0 t1 t2 t3 t4 t5 t6 t7 t8 dep td vl vs ve) ∈ led) (hq0 : 0 ≤ q) (hq1 : q < P.size) (hP : P.size ≤ 10) (hT : T.size ≤ 10) (hk0 : 0 ≤ k) (hl : 65 ≤ zat P q ∧ zat P q ≤ 67 ∨ 97 ≤ zat P q) (hdp : dp + 5 < recursionLimit) (hun : un + 200 < cLine)
    (hno : ¬ (k < T.size ∧ zat T k = zat P q) → ∀ h' tk', Fr h₀ L h' m → News h₀ L h' led → Q (.bool false) { s with heap := h', toks := tk' })
    (hyes : k < T.size ∧ zat T k = zat P q → ∀ h' tk', Fr h₀ L h' m → News h₀ L h' led → Q (.bool true) { s with heap := h', toks := tk' }) :
    wpAny (model PySem.Challenge.rw_tk0057_01.row.prog w) (ktrTop dp un gd cn { kind := .function, names := csn, isGenerator := csg, isCoroutine := csc, more := csm } L a ccd cl outer) (call (.ref 183) [.ref x, .int k tk, .int q tq, .int e te]) Q E s := by
  have NN : News h₀ L s.heap ((x, instObj 282 d) :: (d, mE w T P tT tP t0 t1 t2 t3 t4 t5 t6 t7 t8 dep td vl vs ve) :: led) := News.perm N (fun q hq => by
    rcases List.mem_cons.mp hq with rfl | hq
    · exact hx
    rcases List.mem_cons.mp hq with rfl | hq
    · exact hdm
    · exact hq)
  dsimp only [mE] at NN
  clear N hx hdm
  revert X; k_fill; intro X
  refine wpAny_call ?_
  k_dflt (walk_at "my enter")
  k_steps
  all_goals (with_reducible rename News h₀ L _ _ => kN)
  all_goals (with_reducible rename Fr h₀ L _ _ => kF)
  all_goals (try dsimp only at kN kF)
  all_goals (try first
    | ((with_reducible show Q (.bool (zat P q == zat T k)) _); generalize hb : (zat P q == zat T k) = b; cases b <;> simp only [beq_iff_eq, beq_eq_false_iff_ne, ne_eq] at hb)
    | ((with_reducible show Q (.bool (decide (zat T k ≤ 122))) _); generalize hb : decide (zat T k ≤ 122) = b; cases b <;> simp only [decide_eq_true_eq, decide_eq_false_iff_not] at hb)
    | ((with_reducible show Q (.bool (decide (97 ≤ zat T k))) _); generalize hb : decide (97 ≤ zat T k) = b; cases b <;> simp only [decide_eq_true_eq, decide_eq_false_iff_not] at hb))
  all_goals first
    | exact hno (by omega) _ _ kF (News.tail' (News.tail' kN))
    | exact hno (by omega) _ _ kF (News.tail' (News.tail' (News.tail' kN)))
    | exact hno (by omega) _ _ kF (News.tail' (News.tail' (News.tail' (News.tail' kN))))
    | exact hno (by omega) _ _ kF (News.tail' (News.tail' (News.tail' (News.tail' (News.tail' kN)))))
    | exact hyes (by omega) _ _ kF (News.tail' (News.tail' kN))
    | exact hyes (by omega) _ _ kF (News.tail' (News.tail' (News.tail' kN)))
    | exact hyes (by omega) _ _ kF (News.tail' (News.tail' (News.tail' (News.tail' kN))))
    | exact hyes (by omega) _ _ kF (News.tail' (News.tail' (News.tail' (News.tail' (News.tail' kN)))))
theorem single_e {T P : Array UInt8} {x d : Nat} {led : List (Addr × Obj)} {dep : Int} {t1 t2 t3 t4 t5 t6 t7 t8 tT tP t0 td : Tok} {vl vs ve : Value} {q k e : Int} {tq tk te : Tok}
    (B : Below A₀ base outer h₀) (F : Fr h₀ L s.heap m) (X : (hd.heap_39 w.params).In h₀) (N : News h₀ L s.heap led) (TT : Top p loose mean mg mb h₀)
    (hx : (x, instObj 282 d) ∈ led) (hdm : (d, mE w T P tT tP t0 t1 t2 t3 t4 t5 t6 t7 t8 dep td vl vs ve) ∈ led) (hq0 : 0 ≤ q) (hq1 : q + 1 < P.size) (hP : P.size ≤ 10) (hT : T.size ≤ 10) (hk0 : 0 ≤ k) (hl : zat P q = 37) (hl2 : zat P (q + 1) = 108) (hdp : dp + 5 < recursionLimit) (hun : un + 200 < cLine)
    (hno : ¬ (k < T.size ∧ 97 ≤ zat T k ∧ zat T k ≤ 122) → ∀ h' tk', Fr h₀ L h' m → News h₀ L h' led → Q (.bool false) { s with heap := h', toks := tk' })
    (hyes : k < T.size ∧ 97 ≤ zat T k ∧ zat T k ≤ 122 → ∀ h' tk', Fr h₀ L h' m → News h₀ L h' led → Q (.bool true) { s with heap := h', toks := tk' }) :
    wpAny (model PySem.Challenge.rw_tk0057_01.row.prog w) (ktrTop dp un gd cn { kind := .function, names := csn, isGenerator := csg, isCoroutine := csc, more := csm } L a ccd cl outer) (call (.ref 183) [.ref x, .int k tk, .int q tq, .int e te]) Q E s := by
  have NN : News h₀ L s.heap ((x, instObj 282 d) :: (d, mE w T P tT tP t0 t1 t2 t3 t4 t5 t6 t7 t8 dep td vl vs ve) :: led) := News.perm N (fun q hq => by
    rcases List.mem_cons.mp hq with rfl | hq
    · exact hx
    rcases List.mem_cons.mp hq with rfl | hq
    · exact hdm
    · exact hq)
  dsimp only [mE] at NN
  clear N hx hdm
  revert X; k_fill; intro X
  refine wpAny_call ?_
  k_dflt (walk_at "my enter")
  k_steps
  all_goals (with_reducible rename News h₀ L _ _ => kN)
  all_goals (with_reducible rename Fr h₀ L _ _ => kF)
  all_goals (try dsimp only at kN kF)
  all_goals (try first
    | ((with_reducible show Q (.bool (zat P q == zat T k)) _); generalize hb : (zat P q == zat T k) = b; cases b <;> simp only [beq_iff_eq, beq_eq_false_iff_ne, ne_eq] at hb)
    | ((with_reducible show Q (.bool (decide (zat T k ≤ 122))) _); generalize hb : decide (zat T k ≤ 122) = b; cases b <;> simp only [decide_eq_true_eq, decide_eq_false_iff_not] at hb)
    | ((with_reducible show Q (.bool (decide (97 ≤ zat T k))) _); generalize hb : decide (97 ≤ zat T k) = b; cases b <;> simp only [decide_eq_true_eq, decide_eq_false_iff_not] at hb))
  all_goals first
    | exact hno (by omega) _ _ kF (News.tail' (News.tail' kN))
    | exact hno (by omega) _ _ kF (News.tail' (News.tail' (News.tail' kN)))
    | exact hno (by omega) _ _ kF (News.tail' (News.tail' (News.tail' (News.tail' kN))))
    | exact hno (by omega) _ _ kF (News.tail' (News.tail' (News.tail' (News.tail' (News.tail' kN)))))
    | exact hyes (by omega) _ _ kF (News.tail' (News.tail' kN))
    | exact hyes (by omega) _ _ kF (News.tail' (News.tail' (News.tail' kN)))
    | exact hyes (by omega) _ _ kF (News.tail' (News.tail' (News.tail' (News.tail' kN))))
    | exact hyes (by omega) _ _ kF (News.tail' (News.tail' (News.tail' (News.tail' (News.tail' kN)))))
end
theorem flush4 {prog : PySem.Program} {w : PySem.World} {A : PySem.Around} {Q : Unit → PySem.Shared → Prop} {E : PySem.Value → PySem.Shared → Prop} {s : PySem.Shared} (h : Q () s) : PySem.wpAny (PySem.model prog w) A (pure ()) Q E s := by
  w_top off
  first | (walk1; fail) | exact PySem.wpAny_pure h
section
section
variable {M : Model} {A : Around} {s : Shared} {E : Value → Shared → Prop}
theorem anyb_own {b : Array UInt8} {t : Tok} {Q : Bool → Shared → Prop} (h : Q true s) : wpAny M A (Builtin.Bytes.slotIsOwn (.bytes b t) "__buffer__") Q E s := by
  have hT : s.TypeIs (.bytes b t) "bytes" := typeIs_bytes s b t
  have key : ∀ x : String, x = "bytes" → wpAny M A (isInstance (.bytes b t) (.type x)) Q E s := fun x hx => by
    subst hx
    exact wpAny_isInstance hT PySem.F.sub_bytes_bytes h
  unfold Builtin.Bytes.slotIsOwn
  refine wpAny_bind (wpAny_specialOf hT PySem.W.KBy.look_buffer ?_)
  dsimp only
  split
  · rename_i hx
    exact absurd hx (by decide +kernel)
  · exact key _ (by decide +kernel)
theorem anyb_take {b : Array UInt8} {t : Tok} {id : String} {Q : Option (Array UInt8 × Option Value) → Shared → Prop} (h : Q (some (b, none)) s) : wpAny M A (Builtin.Bytes.takeBufferQuiet? id (.bytes b t) 0) Q E s := by
  have hT : s.TypeIs (.bytes b t) "bytes" := typeIs_bytes s b t
  unfold Builtin.Bytes.takeBufferQuiet?
  refine wpAny_bind (wpAny_attempt ?_)
  unfold Builtin.Bytes.takeBuffer?
  refine wpAny_bind (wpAny_specialOf hT PySem.W.KBy.look_buffer ?_)
  dsimp only
  refine wpAny_bind (anyb_own ?_)
  refine any_ifn (by decide) ?_
  refine wpAny_bind (wpAny_specialOf hT PySem.W.KBy.look_buffer ?_)
  refine wpAny_bind (wpAny_of_eq KBy.buffer_eq ?_)
  exact wpAny_pure (wpAny_pure h)
end
section
variable {M : Model} {A : Around} {s : Shared} {E : Value → Shared → Prop}
theorem any_letGo {xs ks : List Value} {Q : Unit → Shared → Prop} (h : Q () s) : wpAny M A (letGo xs ks) Q E s := by
  induction xs with
  | nil => exact wpAny_pure h
  | cons x xs ih =>
    unfold letGo
    exact wpAny_bind (wpAny_holding (wpAny_point ih))
theorem any_joinLetGo {bs : List (Array UInt8 × Tok)} {ks : List Value} {Q : Unit → Shared → Prop} (h : Q () s) : wpAny M A (Builtin.Bytes.joinLetGo (bs.map fun x => (Value.bytes x.1 x.2, none)) ks) Q E s := by
  induction bs with
  | nil => exact wpAny_pure h
  | cons b bs ih =>
    unfold Builtin.Bytes.joinLetGo
    dsimp only [List.map_cons]
    exact wpAny_bind (any_letGo ih)
theorem anyb_join {sep : Array UInt8} {t : Tok} {l : Addr} {bs : List (Array UInt8 × Tok)} {cap : Nat} {Q : Value → Shared → Prop} (h2 : 2 ≤ bs.length)
    (ho : s.heap.get? l = some (W.listOf (bs.map fun x => Value.bytes x.1 x.2).toArray cap)) (hz : Builtin.Bytes.tooLong ((bs.map (·.1)).toArray.foldl (· + ·.size) (sep.size * ((bs.map (·.1)).toArray.size - 1))) = false)
    (hzz : (Builtin.Bytes.joined sep (bs.map (·.1))).size ≤ 16777216) (hq : ∀ t' k, Q (.bytes (Builtin.Bytes.joined sep (bs.map (·.1))) t') { s with toks := k }) :
    wpAny M A (Builtin.«bytes.join» ⟨[.bytes sep t, .ref l], []⟩) (fun fin s' => ∃ v, fin = .done (.ret v) ∧ Q v s') E s := by
  have hT : s.TypeIs (.ref l) "list" := ⟨_, ho, rfl⟩
  unfold Builtin.«bytes.join» Builtin.Bytes.joinM
  refine wpAny_bind (wpAny_of_eq (a := (Value.bytes sep t, Value.ref l)) rfl ?_)
  refine wpAny_bind ?_
  unfold Builtin.Bytes.joinItems
  refine wpAny_bind (wpAny_typeOf hT ?_)
  refine any_if (by decide) ?_
  refine wpAny_pure ?_
  dsimp only
  refine wpAny_bind (wpAny_seqItems ho rfl ?_)
  have hsz : (bs.map fun x => Value.bytes x.1 x.2).toArray.size = bs.length := by simp
  dsimp only
  refine any_if (by decide) ?_
  have hget : ∀ i (h : i < bs.length), ((bs.map fun x => Value.bytes x.1 x.2).toArray).getD i .none = Value.bytes bs[i].1 bs[i].2 := fun i h => by
    simp [Array.getD, h]
  generalize hxs : (bs.map fun x => Value.bytes x.1 x.2).toArray = xs at *
  rcases xs with ⟨_ | ⟨a0, _ | ⟨a1, ar⟩⟩⟩
  · simp at hsz; omega
  · simp at hsz; omega
  with_unfolding_all (refine wpAny_bind ?_)
  generalize hys : (List.toArray (a0 :: a1 :: ar)) = ys at *
  rw [hsz, Std.Legacy.Range.forIn_eq_forIn_range']
  refine wpAny_forIn_list _ (fun rest (r : Array (Array UInt8) × List (Value × Option Value)) s' => s' = s ∧ ∃ i, i ≤ bs.length ∧ rest = List.range' i (bs.length - i) ∧ r.1 = ((bs.take i).map (·.1)).toArray ∧ r.2 = (bs.take i).map fun x => (Value.bytes x.1 x.2, none)) _ ?_ ?_ _ _ ⟨rfl, 0, by omega, ?_, ?_, ?_⟩
  · rintro i rest r s' ⟨rfl, j, hj, hrest, hr1, hr2⟩
    have hjl : j < bs.length := by
      rcases Nat.lt_or_ge j bs.length with h | h
      · exact h
      · rw [Nat.sub_eq_zero_of_le h] at hrest; cases hrest
    obtain ⟨n, hn⟩ : ∃ n, bs.length - j = n + 1 := ⟨bs.length - j - 1, by omega⟩
    rw [hn, List.range'_succ] at hrest
    obtain ⟨rfl, rfl⟩ := List.cons.inj hrest
    refine wpAny_bind (wpAny_seqItems ho rfl ?_)
    dsimp only
    have hany : (r.2.any fun x => x.1.onHeap) = false := by
      rw [hr2, List.any_eq_false]
      intro y hy
      obtain ⟨z, _, rfl⟩ := List.mem_map.mp hy
      exact Bool.false_ne_true
    refine any_ifn (by rw [hany]; decide) ?_
    rw [hget i hjl]
    refine wpAny_bind (wpAny_holding (anyb_take ?_))
    dsimp only
    refine wpAny_bind (wpAny_seqItems ho rfl ?_)
    dsimp only
    refine any_ifn (by simp; simpa using hsz) ?_
    refine wpAny_pure ⟨rfl, i + 1, by omega, ?_, ?_, ?_⟩
    · rw [show bs.length - (i + 1) = n by omega]
    · rw [hr1, List.take_succ_eq_append_getElem hjl, List.map_append]; simp only [List.map_cons, List.map_nil, List.push_toArray]
    · rw [hr2, List.take_succ_eq_append_getElem hjl, List.map_append]; rfl
  · rintro r s' ⟨rfl, j, hj, hrest, hr1, hr2⟩
    have hjl : j = bs.length := by
      rcases Nat.lt_or_ge j bs.length with h | h
      · obtain ⟨n, hn⟩ : ∃ n, bs.length - j = n + 1 := ⟨bs.length - j - 1, by omega⟩
        rw [hn, List.range'_succ] at hrest; cases hrest
      · omega
    subst hjl
    rw [List.take_length] at hr1 hr2
    refine wpAny_bind (wpAny_of_eq (a := sep) rfl ?_)
    rw [hr1]
    refine any_ifn (by rw [hz]; exact Bool.false_ne_true) ?_
    refine wpAny_bind ?_
    unfold Builtin.Bytes.Kind.new
    refine wpAny_mkBytes ?_ hzz
    refine wpAny_bind (wpAny_holding (wpAny_point ?_))
    rw [hr2]
    refine wpAny_bind (any_joinLetGo ?_)
    exact wpAny_pure ⟨_, rfl, hq _ _⟩
  · simp
  · simp
  · simp
end
section
variable {prog : Program} {w : World} {A : Around} {s : Shared} {E : Value → Shared → Prop}
theorem call_join {sep : Array UInt8} {t : Tok} {l : Addr} {bs : List (Array UInt8 × Tok)} {cap : Nat} {Q : Value → Shared → Prop} (h2 : 2 ≤ bs.length)
    (ho : s.heap.get? l = some (W.listOf (bs.map fun x => Value.bytes x.1 x.2).toArray cap)) (hz : Builtin.Bytes.tooLong ((bs.map (·.1)).toArray.foldl (· + ·.size) (sep.size * ((bs.map (·.1)).toArray.size - 1))) = false)
    (hzz : (Builtin.Bytes.joined sep (bs.map (·.1))).size ≤ 16777216) (hq : ∀ t' k, Q (.bytes (Builtin.Bytes.joined sep (bs.map (·.1))) t') { s with toks := k }) :
    wpAny (model prog w) A (call (.builtin "bytes.join") [.bytes sep t, .ref l]) Q E s :=
  wpAny_call_entry BF.slot_join (typeIs_bytes s _ t) BF.entry_join (anyb_join h2 ho hz hzz hq) (BF.args_join _ _)
end
theorem foldl_sizes (l : List (Array UInt8)) (hs : ∀ x ∈ l, x.size ≤ 10) (n : Nat) : l.foldl (fun a b => a + b.size) n ≤ n + 10 * l.length := by
  induction l generalizing n with
  | nil => simp
  | cons x l ih =>
    rw [List.foldl_cons]
    have h1 := hs x (.head _)
    have h2 := ih (fun y hy => hs y (.tail _ hy)) (n + x.size)
    rw [List.length_cons]
    omega
theorem joined_size (l : List (Array UInt8 × Nat)) (hs : ∀ x ∈ l, x.1.size ≤ 10) (o : Array UInt8) : (l.foldl (fun out (x : Array UInt8 × Nat) => (if x.2 > 0 then out ++ #[] else out) ++ x.1) o).size ≤ o.size + 10 * l.length := by
  induction l generalizing o with
  | nil => simp
  | cons x l ih =>
    rw [List.foldl_cons]
    have h1 := hs x (.head _)
    have h2 := ih (fun y hy => hs y (.tail _ hy)) ((if x.2 > 0 then o ++ #[] else o) ++ x.1)
    have h3 : (if x.2 > 0 then o ++ #[] else o) = o := by split <;> simp
    rw [h3] at h2 ⊢
    rw [Array.size_append] at h2
    rw [List.length_cons]
    omega
section
variable {prog : Program} {w : World} {A : Around} {s : Shared} {E : Value → Shared → Prop}
theorem call_join2 {t : Tok} {l : Addr} {bs : List (Array UInt8 × Tok)} {cap : Nat} {Q : Value → Shared → Prop} (h2 : 2 ≤ bs.length) (h3 : bs.length ≤ 10) (hs : ∀ x ∈ bs, x.1.size ≤ 10)
    (ho : s.heap.get? l = some (W.listOf (bs.map fun x => Value.bytes x.1 x.2).toArray cap)) (hq : ∀ t' k, Q (.bytes (Builtin.Bytes.joined #[] (bs.map (·.1))) t') { s with toks := k }) :
    wpAny (model prog w) A (call (.builtin "bytes.join") [.bytes (List.toArray []) t, .ref l]) Q E s := by
  have hs' : ∀ x ∈ bs.map (·.1), x.size ≤ 10 := fun x hx => by
    obtain ⟨y, hy, rfl⟩ := List.mem_map.mp hx
    exact hs y hy
  refine call_join h2 ho ?_ ?_ hq
  · have h := foldl_sizes (bs.map (·.1)) hs' 0
    rw [List.length_map] at h
    unfold Builtin.Bytes.tooLong
    rw [sizeLine_eq, decide_eq_false_iff_not]
    rw [List.foldl_toArray]
    simp only [List.size_toArray, List.length_nil, Nat.zero_mul]
    omega
  · have h := joined_size ((bs.map (·.1)).zipIdx) (fun x hx => hs' _ (by
      have := List.fst_mem_of_mem_zipIdx hx
      exact this)) #[]
    rw [List.length_zipIdx, List.length_map] at h
    unfold Builtin.Bytes.joined
    have e : (List.toArray ([] : List UInt8)) = #[] := rfl
    rw [e]
    simp only [List.size_toArray, List.length_nil] at h
    refine Nat.le_trans h ?_
    omega
end
theorem joined_le (l : List (Array UInt8)) (hs : ∀ x ∈ l, x.size ≤ 10) (hl : l.length ≤ 4) : (Builtin.Bytes.joined #[] l).size ≤ 40 := by
  have h := joined_size (l.zipIdx) (fun x hx => hs _ (by
    have := List.fst_mem_of_mem_zipIdx hx
    exact this)) #[]
  rw [List.length_zipIdx] at h
  unfold Builtin.Bytes.joined
  simp only [List.size_toArray, List.length_nil] at h
  exact Nat.le_trans h (by omega)
section
variable {prog : Program} {w : World} {A : Around} {s : Shared} {E : Value → Shared → Prop} {t ta tb tc td : Tok} {l : Addr} {a b c d : Array UInt8} {Q : Value → Shared → Prop}
theorem join_2 (ho : s.heap.get? l = some (LCg.lst [.bytes a ta, .bytes b tb])) (ha : a.size ≤ 10) (hb : b.size ≤ 10) (hq : ∀ t' k, (Builtin.Bytes.joined #[] [a, b]).size ≤ 40 → Q (.bytes (Builtin.Bytes.joined #[] [a, b]) t') { s with toks := k }) :
    wpAny (model prog w) A (call (.builtin "bytes.join") [.bytes (List.toArray []) t, .ref l]) Q E s :=
  call_join2 (bs := [(a, ta), (b, tb)]) (Nat.le_refl 2) (Nat.le_of_ble_eq_true rfl) (fun x hx => by
    rcases List.mem_cons.mp hx with rfl | hx
    · exact ha
    rcases List.mem_cons.mp hx with rfl | hx
    · exact hb
    · cases hx) ho fun t' k => hq t' k (joined_le [a, b] (fun x hx => by
    rcases List.mem_cons.mp hx with rfl | hx
    · exact ha
    rcases List.mem_cons.mp hx with rfl | hx
    · exact hb
    · cases hx) (Nat.le_of_ble_eq_true rfl))
theorem join_3 (ho : s.heap.get? l = some (LCg.lst [.bytes a ta, .bytes b tb, .bytes c tc])) (ha : a.size ≤ 10) (hb : b.size ≤ 10) (hc : c.size ≤ 10) (hq : ∀ t' k, (Builtin.Bytes.joined #[] [a, b, c]).size ≤ 40 → Q (.bytes (Builtin.Bytes.joined #[] [a, b, c]) t') { s with toks := k }) :
    wpAny (model prog w) A (call (.builtin "bytes.join") [.bytes (List.toArray []) t, .ref l]) Q E s :=
  call_join2 (bs := [(a, ta), (b, tb), (c, tc)]) (Nat.le_of_ble_eq_true rfl) (Nat.le_of_ble_eq_true rfl) (fun x hx => by
    rcases List.mem_cons.mp hx with rfl | hx
    · exact ha
    rcases List.mem_cons.mp hx with rfl | hx
    · exact hb
    rcases List.mem_cons.mp hx with rfl | hx
    · exact hc
    · cases hx) ho fun t' k => hq t' k (joined_le [a, b, c] (fun x hx => by
    rcases List.mem_cons.mp hx with rfl | hx
    · exact ha
    rcases List.mem_cons.mp hx with rfl | hx
    · exact hb
    rcases List.mem_cons.mp hx with rfl | hx
    · exact hc
    · cases hx) (Nat.le_of_ble_eq_true rfl))
theorem join_4 (ho : s.heap.get? l = some (LCg.lst [.bytes a ta, .bytes b tb, .bytes c tc, .bytes d td])) (ha : a.size ≤ 10) (hb : b.size ≤ 10) (hc : c.size ≤ 10) (hd : d.size ≤ 10) (hq : ∀ t' k, (Builtin.Bytes.joined #[] [a, b, c, d]).size ≤ 40 → Q (.bytes (Builtin.Bytes.joined #[] [a, b, c, d]) t') { s with toks := k }) :
    wpAny (model prog w) A (call (.builtin "bytes.join") [.bytes (List.toArray []) t, .ref l]) Q E s :=
  call_join2 (bs := [(a, ta), (b, tb), (c, tc), (d, td)]) (Nat.le_of_ble_eq_true rfl) (Nat.le_of_ble_eq_true rfl) (fun x hx => by
    rcases List.mem_cons.mp hx with rfl | hx
    · exact ha
    rcases List.mem_cons.mp hx with rfl | hx
    · exact hb
    rcases List.mem_cons.mp hx with rfl | hx
    · exact hc
    rcases List.mem_cons.mp hx with rfl | hx
    · exact hd
    · cases hx) ho fun t' k => hq t' k (joined_le [a, b, c, d] (fun x hx => by
    rcases List.mem_cons.mp hx with rfl | hx
    · exact ha
    rcases List.mem_cons.mp hx with rfl | hx
    · exact hb
    rcases List.mem_cons.mp hx with rfl | hx
    · exact hc
    rcases List.mem_cons.mp hx with rfl | hx
    · exact hd
    · cases hx) (Nat.le_of_ble_eq_true rfl))
end
end
theorem flush5 {prog : PySem.Program} {w : PySem.World} {A : PySem.Around} {Q : Unit → PySem.Shared → Prop} {E : PySem.Value → PySem.Shared → Prop} {s : PySem.Shared} (h : Q () s) : PySem.wpAny (PySem.model prog w) A (pure ()) Q E s := by
  w_top off
  first | (walk1; fail) | exact PySem.wpAny_pure h
section
local macro_rules | `(tactic| walk_at "setItem ref str") => `(tactic| (k_here; k_dflt (refine' kda_set (knd := PySem.strKind _ _) ?F ?N ?U ?d (strKind_is _ _ _ _) ?z ?_; (case F | N | d => k_asm); (case U => k_updF); (case z => kob_size)); intro h' o' F' N' hd'; (try kob_lit); (try dsimp only at N')))
theorem told_c {bag l e : Nat} {oB : Obj} {g : Obj → List (Addr × Obj)} {vs : List Value} {ns : List Int} {k : Int} {tk t : Tok} {many : Int}
    (B : Below A₀ base outer h₀) (F : Fr h₀ L s.heap m) (X : (hd.heap_39 w.params).In h₀) (N : News h₀ L s.heap news) (TT : Top p loose mean mg mb h₀) (U : UpdF bag oB news g) (hl : (l, W.listOf vs.toArray e) ∈ news)
    (hB : Obj.IsDictOf (strKind PySem.Challenge.rw_tk0057_01.row.prog w) oB [(Str.ofString "all", .ref l), (Str.ofString "at", .int k tk)]) (hI : IntsAre vs ns)
    (hne : bag < l) (h0 : 0 ≤ k) (h1 : k < 100) (hlen : ns.length ≤ 26) (hm0 : 1 ≤ many) (hm1 : many ≤ 5)
    (hdp : dp + 5 < recursionLimit) (hun : un + 200 < cLine)
    (hret : ∀ x t h' tk' oB' t1, Fr h₀ L h' m → News h₀ L h' (g oB') →
      Obj.IsDictOf (strKind PySem.Challenge.rw_tk0057_01.row.prog w) oB' [(Str.ofString "all", .ref l), (Str.ofString "at", .int (k + 1) t1)] → 0 ≤ x → x < many → Q (.int x t) { s with heap := h', toks := tk' }) :
    wpAny (model PySem.Challenge.rw_tk0057_01.row.prog w) (ktrTop dp un gd cn { kind := .function, names := csn, isGenerator := csg, isCoroutine := csc, more := csm } L a ccd cl outer) (call (.ref 293) [.ref bag, .int many t]) Q E s := by
  obtain ⟨own, rest, rfl, hgr, u1, u2⟩ := U.split
  have hnn : ∀ q ∈ own ++ rest, q.1 ≠ bag := fun q hq => by
    rcases List.mem_append.mp hq with hq | hq
    · exact u1 q hq
    · exact u2 q hq
  have hl' : (l, W.listOf vs.toArray e) ∈ own ++ rest := by
    rcases List.mem_append.mp hl with hq | hq
    · exact List.mem_append_left _ hq
    rcases List.mem_cons.mp hq with hq | hq
    · exact absurd (congrArg Prod.fst hq) (Nat.ne_of_gt hne)
    · exact List.mem_append_right _ hq
  have NN : News h₀ L s.heap ((bag, oB) :: (l, W.listOf vs.toArray e) :: (own ++ rest)) := News.perm N fun q hq => by
    rcases List.mem_cons.mp hq with rfl | hq
    · exact List.mem_append_right _ (.head _)
    rcases List.mem_cons.mp hq with rfl | hq
    · exact hl
    rcases List.mem_append.mp hq with hq | hq
    · exact List.mem_append_left _ hq
    · exact List.mem_append_right _ (.tail _ hq)
  clear N U hl
  revert X; k_fill; intro X
  refine wpAny_call ?_
  k_dflt (walk_at "my enter")
  k_steps
  all_goals (with_reducible rename News h₀ L _ _ => kN)
  all_goals (with_reducible rename Fr h₀ L _ _ => kF)
  all_goals (with_reducible rename Obj.IsDictOf _ _ _ => kD)
  all_goals (try dsimp only at kN kF kD)
  all_goals exact hret _ _ _ _ _ _ kF (by
    rw [hgr]
    exact News.perm kN fun q hq => by
      rcases List.mem_append.mp hq with hq | hq
      · exact .tail _ (.tail _ (List.mem_append_left _ hq))
      rcases List.mem_cons.mp hq with rfl | hq
      · exact .head _
      · exact .tail _ (.tail _ (List.mem_append_right _ hq))) kD (Int.fmod_nonneg_of_pos _ (by omega)) (Int.fmod_lt_of_pos _ (by omega))
end
theorem flush6 {prog : PySem.Program} {w : PySem.World} {A : PySem.Around} {Q : Unit → PySem.Shared → Prop} {E : PySem.Value → PySem.Shared → Prop} {s : PySem.Shared} (h : Q () s) : PySem.wpAny (PySem.model prog w) A (pure ()) Q E s := by
  w_top off
  first | (walk1; fail) | exact PySem.wpAny_pure h
section
abbrev rngI (x left : Int) : Obj := { cls := .type "range_iterator", data := .fields #[rawInt x, rawInt left, rawInt 1] }
section
variable {prog : Program} {w : World} {A : Around} {E : Value → Shared → Prop} {s : Shared} {h₀ : Heap} {L : Addr} {m : Str → Option Value} {news : List (Addr × Obj)}
theorem iter_rangeN {r : Addr} {n : Int} {t u v : Tok} {Q : Value → Shared → Prop} (F : Fr h₀ L s.heap m) (N : News h₀ L s.heap news) (hr : IsRange s.heap r 0 n 1 t u v) (h0 : 0 ≤ n) (h1 : n ≤ 1000)
    (h : ∀ I h', Fr h₀ L h' m → News h₀ L h' ((I, rngI 0 n) :: news) → AllLt I news → Q (.ref I) { s with heap := h' }) : wpAny (model prog w) A (pyIter (.ref r)) Q E s := by
  have hsz : Builtin.Range.rangeSize 0 n 1 = n := by rw [rangeSize_one]; split <;> omega
  refine wpAny_pyIter_range hr (small_one (by decide) (by decide) (by omega) (by omega)) ?_
  rw [hsz]
  exact h _ _ (F.push _) (N.push F _) (allLt_of fun q hq => Heap.lt_size (N q hq).1)
theorem next_rangeN {I : Addr} {x left : Int} {Q : Option Value → Shared → Prop} (F : Fr h₀ L s.heap m) (N : News h₀ L s.heap ((I, rngI x left) :: news)) (hI : ∀ q ∈ news, q.1 ≠ I) (hl : 0 < left)
    (h : ∀ h' tk, Fr h₀ L h' m → News h₀ L h' ((I, rngI (x + 1) (left - 1)) :: news) → Q (some (.int x s.toks)) { s with heap := h', toks := tk }) : wpAny (model prog w) A (pyNext (.ref I)) Q E s := by
  have hm := N _ (.head _)
  exact wpAny_pyNext_range_item hm.1 hl fun h' hit hs => h h' _ (F.change hs hm.2.1 hm.2.2) (N.setHead hI hs hit)
theorem end_rangeN {I : Addr} {x left : Int} {Q : Option Value → Shared → Prop} (hh : A.handled = none) (F : Fr h₀ L s.heap m) (N : News h₀ L s.heap ((I, rngI x left) :: news)) (hI : ∀ q ∈ news, q.1 ≠ I) (hl : left ≤ 0)
    (h : ∀ h', Fr h₀ L h' m → News h₀ L h' news → Q none { s with heap := h' }) : wpAny (model prog w) A (pyNext (.ref I)) Q E s := by
  have hm := N _ (.head _)
  refine wpAny_pyNext_range_end hh hm.1 hl fun h' hx => h h' ⟨F.ns.extBut hx hm.2.1.symm, fun b o e => hx b o (fun q => ?_) (F.keep b o e), F.above⟩ (fun q hq => ⟨hx _ _ (hI q hq) (N q (.tail _ hq)).1, (N q (.tail _ hq)).2⟩)
  have e2 := hm.2.2
  rw [q] at e
  rw [e2] at e
  cases e
theorem next_rangeU {I : Addr} {x left : Int} {g : Obj → List (Addr × Obj)} {Q : Option Value → Shared → Prop} (F : Fr h₀ L s.heap m) (N : News h₀ L s.heap news) (U : UpdF I (rngI x left) news g) (hl : 0 < left)
    (h : ∀ h' tk t, Fr h₀ L h' m → News h₀ L h' (g (rngI (x + 1) (left - 1))) → Q (some (.int x t)) { s with heap := h', toks := tk }) : wpAny (model prog w) A (pyNext (.ref I)) Q E s := by
  obtain ⟨own, rest, rfl, hgr, u1, u2⟩ := U.split
  refine next_rangeN F (news := own ++ rest) (News.perm N fun q hq => ?_) (fun q hq => ?_) hl fun h' tk F' N' => h h' tk _ F' ?_
  · rcases List.mem_cons.mp hq with rfl | hq
    · exact List.mem_append_right _ (.head _)
    rcases List.mem_append.mp hq with hq | hq
    · exact List.mem_append_left _ hq
    · exact List.mem_append_right _ (.tail _ hq)
  · rcases List.mem_append.mp hq with hq | hq
    · exact u1 q hq
    · exact u2 q hq
  · rw [hgr]
    exact News.perm N' fun q hq => by
      rcases List.mem_append.mp hq with hq | hq
      · exact .tail _ (List.mem_append_left _ hq)
      rcases List.mem_cons.mp hq with rfl | hq
      · exact .head _
      · exact .tail _ (List.mem_append_right _ hq)
theorem end_rangeU {I : Addr} {x left : Int} {news' : List (Addr × Obj)} {Q : Option Value → Shared → Prop} (hh : A.handled = none) (F : Fr h₀ L s.heap m) (N : News h₀ L s.heap news) (hm : (I, rngI x left) ∈ news) (hl : left ≤ 0) (hs : ∀ q ∈ news', q ∈ news ∧ q.1 ≠ I)
    (h : ∀ h', Fr h₀ L h' m → News h₀ L h' news' → Q none { s with heap := h' }) : wpAny (model prog w) A (pyNext (.ref I)) Q E s :=
  end_rangeN hh F (news := news') (News.perm N fun q hq => by
    rcases List.mem_cons.mp hq with rfl | hq
    · exact hm
    · exact (hs q hq).1) (fun q hq => (hs q hq).2) hl h
theorem end_range0 {I : Addr} {x left : Int} {Q : Option Value → Shared → Prop} (hh : A.handled = none) (F : Fr h₀ L s.heap m) (N : News h₀ L s.heap ((I, rngI x left) :: news)) (hl : left ≤ 0) (hr : ∀ q ∈ news, q.1 ≠ I)
    (h : ∀ h', Fr h₀ L h' m → News h₀ L h' news → Q none { s with heap := h' }) : wpAny (model prog w) A (pyNext (.ref I)) Q E s := end_rangeN hh F N hr hl h
theorem end_range1 {I : Addr} {a : Addr × Obj} {x left : Int} {Q : Option Value → Shared → Prop} (hh : A.handled = none) (F : Fr h₀ L s.heap m) (N : News h₀ L s.heap (a :: (I, rngI x left) :: news)) (hl : left ≤ 0) (ha : a.1 ≠ I) (hr : ∀ q ∈ news, q.1 ≠ I)
    (h : ∀ h', Fr h₀ L h' m → News h₀ L h' (a :: news) → Q none { s with heap := h' }) : wpAny (model prog w) A (pyNext (.ref I)) Q E s :=
  end_rangeU hh F N (.tail _ (.head _)) hl (fun q hq => by
    rcases List.mem_cons.mp hq with rfl | hq
    · exact ⟨.head _, ha⟩
    · exact ⟨.tail _ (.tail _ hq), hr q hq⟩) h
theorem end_range2 {I : Addr} {a b : Addr × Obj} {x left : Int} {Q : Option Value → Shared → Prop} (hh : A.handled = none) (F : Fr h₀ L s.heap m) (N : News h₀ L s.heap (a :: b :: (I, rngI x left) :: news)) (hl : left ≤ 0) (ha : a.1 ≠ I) (hb : b.1 ≠ I) (hr : ∀ q ∈ news, q.1 ≠ I)
    (h : ∀ h', Fr h₀ L h' m → News h₀ L h' (a :: b :: news) → Q none { s with heap := h' }) : wpAny (model prog w) A (pyNext (.ref I)) Q E s :=
  end_rangeU hh F N (.tail _ (.tail _ (.head _))) hl (fun q hq => by
    rcases List.mem_cons.mp hq with rfl | hq
    · exact ⟨.head _, ha⟩
    rcases List.mem_cons.mp hq with rfl | hq
    · exact ⟨.tail _ (.head _), hb⟩
    · exact ⟨.tail _ (.tail _ (.tail _ hq)), hr q hq⟩) h
end
end
theorem flush7 {prog : PySem.Program} {w : PySem.World} {A : PySem.Around} {Q : Unit → PySem.Shared → Prop} {E : PySem.Value → PySem.Shared → Prop} {s : PySem.Shared} (h : Q () s) : PySem.wpAny (PySem.model prog w) A (pure ()) Q E s := by
  w_top off
  first | (walk1; fail) | exact PySem.wpAny_pure h
section
open PySem.SeqAt
theorem eqAt_bytes {A : Around} {s : Shared} {b c : Array UInt8} {t u : Tok} : EqAt A s (.bytes b t) (.bytes c u) (b.toList == c.toList) := fun prog w E Q h => by
  unfold eqBool
  refine wpAny_holding ?_
  refine wpAny_ite_split (fun hab => ?_) (fun _ => ?_)
  · have e : b = c := by have := eq_of_beq hab; injection this
    subst e
    exact wpAny_bind (wpAny_rule (wpAny_pure (by simpa using h)))
  · exact wpAny_bind (eq_bytes (wpAny_truthy_bool h))
/-- a tuple of two -/
abbrev tup2 (a b : Value) (e : Nat) : Obj := { cls := .type "tuple", data := .seq #[a, b] e }
section
variable {prog : Program} {A : Around} {E : Value → Shared → Prop} {l l2 : Nat}
theorem ne_done {x : Array UInt8} {n : Int} {t1 t2 t3 t4 : Tok} {e1 e2 : Nat} (N : News h₀ L s.heap news) (ha : (l, tup2 (.bytes x t1) (.int n t2) e1) ∈ news) (hb : (l2, tup2 (.bytes x t3) (.int n t4) e2) ∈ news) (hu : A.units < cLine)
    (h : Q (.bool false) s) : wpAny (model prog w) A (compareOp .NotEq (.ref l) (.ref l2)) Q E s := by
  refine cmp_ofNotEq (RcNeAt.tuples (e := fun _ => true) (News.isTup N ha) (News.isTup N hb) hu (fun j h1 h2 => ?_) prog w E Q ?_)
  · match j, h1 with
    | 0, _ => have := eqAt_bytes (A := A.in1) (s := s) (b := x) (c := x) (t := t1) (u := t3); rwa [show (x.toList == x.toList) = true by simp] at this
    | 1, _ => have := EqAt.int_int (A := A.in1) (s := s) n t2 n t4; rwa [show (n == n) = true by simp] at this
  · exact h
theorem eq_due_none {v1 v2 : Value} {e1 : Nat} (N : News h₀ L s.heap news) (ha : (l, tup2 v1 v2 e1) ∈ news) (hu : A.units < cLine) (h : Q (.bool false) s) : wpAny (model prog w) A (compareOp .Eq (.ref l) .none) Q E s :=
  cmp_ofEq (RcAt.tuple_none (News.isTup N ha) hu prog w E Q h)
theorem eq_due {a b c d : Int} {t1 t2 t3 t4 : Tok} {e1 e2 : Nat} {z : Bool} (hz : decide (a = c ∧ b = d) = z) (N : News h₀ L s.heap news) (ha : (l, tup2 (.int a t1) (.int b t2) e1) ∈ news) (hb : (l2, tup2 (.int c t3) (.int d t4) e2) ∈ news) (hu : A.units < cLine)
    (h : Q (.bool z) s) : wpAny (model prog w) A (compareOp .Eq (.ref l) (.ref l2)) Q E s := by
  refine cmp_ofEq (RcAt.tuples (e := fun j => if j = 0 then (a == c) else (b == d)) (News.isTup N ha) (News.isTup N hb) hu (fun j h1 h2 => ?_) prog w E Q ?_)
  · match j, h1 with
    | 0, _ => exact EqAt.int_int (A := A.in1) (s := s) a t1 c t3
    | 1, _ => exact EqAt.int_int (A := A.in1) (s := s) b t2 d t4
  · have e : ((List.range 2).all (fun j => if j = 0 then (a == c) else (b == d)) && (2 == 2)) = z := by
      rw [← hz]
      by_cases h1 : a = c <;> by_cases h2 : b = d <;> simp [List.range, List.range.loop, h1, h2]
    show Q (.bool ((List.range 2).all (fun j => if j = 0 then (a == c) else (b == d)) && (2 == 2))) s
    rw [e]; exact h
end
end
local macro_rules | `(tactic| walk_at "call ref") => `(tactic| (k_here; (with_reducible show wpAny _ _ (call (.ref 162) [.ref _, .int _ _]) _ _ _); k_dflt (refine' at_out ?B ?F ?X ?N ?TT ?hx ?hdm ?z0 ?z1 ?hr ?hu ?_; (case N => k_asm); (case hx => k_mem); (case hdm => k_mem); (case z0 => omega); (case z1 => omega); (case B => k_asm); (case F => k_asm); (case X => k_asm); (case TT => k_asm); (case hr => ktr_room); (case hu => ktr_units)); intro t0' h' tk' F' N'))
local macro_rules | `(tactic| walk_at "call ref") => `(tactic| (k_here; (with_reducible show wpAny _ _ (call (.ref 162) [.ref _, .int _ _]) _ _ _); k_dflt (refine' at_in ?B ?F ?X ?N ?TT ?hx ?hdm ?z0 ?z1 ?z2 ?hr ?hu ?_; (case N => k_asm); (case hx => k_mem); (case hdm => k_mem); (case z0 => omega); (case z1 => omega); (case z2 => omega); (case B => k_asm); (case F => k_asm); (case X => k_asm); (case TT => k_asm); (case hr => ktr_room); (case hu => ktr_units)); intro t0' h' tk' F' N'))
local macro_rules | `(tactic| walk_at "call ref") => `(tactic| (k_here; (with_reducible show wpAny _ _ (call (.ref 169) [.ref _, .int _ _]) _ _ _); k_dflt (refine' cend_e ?B ?F ?X ?N ?TT ?hx ?hdm ?z0 ?z1 ?z2 ?z3 ?hr ?hu ?_; (case N => k_asm); (case hx => k_mem); (case hdm => k_mem); (case z0 => omega); (case z1 => omega); (case z2 => omega); (case z3 => omega); (case B => k_asm); (case F => k_asm); (case X => k_asm); (case TT => k_asm); (case hr => ktr_room); (case hu => ktr_units)); intro t0' h' tk' F' N'))
local macro_rules | `(tactic| walk_at "call ref") => `(tactic| (k_here; (with_reducible show wpAny _ _ (call (.ref 169) [.ref _, .int _ _]) _ _ _); k_dflt (refine' cend_l ?B ?F ?X ?N ?TT ?hx ?hdm ?z0 ?z1 ?z2 ?z3 ?hr ?hu ?_; (case N => k_asm); (case hx => k_mem); (case hdm => k_mem); (case z0 => omega); (case z1 => omega); (case z2 => omega); (case z3 => omega); (case B => k_asm); (case F => k_asm); (case X => k_asm); (case TT => k_asm); (case hr => ktr_room); (case hu => ktr_units)); intro t0' h' tk' F' N'))
local macro_rules | `(tactic| walk_at "call ref") => `(tactic| (k_here; (with_reducible show wpAny _ _ (call (.ref 183) [.ref _, .int _ _, .int _ _, .int _ _]) _ _ _); k_dflt (refine' single_e ?B ?F ?X ?N ?TT ?hx ?hdm ?z0 ?z1 ?z2 ?z3 ?z4 ?z5 ?z6 ?hr ?hu ?_ ?_; (case N => k_asm); (case hx => k_mem); (case hdm => k_mem); (case z0 => omega); (case z1 => omega); (case z2 => omega); (case z3 => omega); (case z4 => omega); (case z5 => omega); (case z6 => omega); (case B => k_asm); (case F => k_asm); (case X => k_asm); (case TT => k_asm); (case hr => ktr_room); (case hu => ktr_units)) <;> intro hs' h' tk' F' N'))
local macro_rules | `(tactic| walk_at "call ref") => `(tactic| (k_here; (with_reducible show wpAny _ _ (call (.ref 183) [.ref _, .int _ _, .int _ _, .int _ _]) _ _ _); k_dflt (refine' single_l ?B ?F ?X ?N ?TT ?hx ?hdm ?z0 ?z1 ?z2 ?z3 ?z4 ?z5 ?hr ?hu ?_ ?_; (case N => k_asm); (case hx => k_mem); (case hdm => k_mem); (case z0 => omega); (case z1 => omega); (case z2 => omega); (case z3 => omega); (case z4 => omega); (case z5 => omega); (case B => k_asm); (case F => k_asm); (case X => k_asm); (case TT => k_asm); (case hr => ktr_room); (case hu => ktr_units)) <;> intro hs' h' tk' F' N'))
local macro_rules | `(tactic| walk_at "setAttr ref") => `(tactic| (k_here; k_dflt (refine' set_dict ?k1 ?k2 ?k3 ?k4 ?k5 ?k6 ?k7 ?k8 ?k9 ?k10 ?k11 ?k12 ?k13 ?_; (case k1 => k_asm); (case k2 => k_asm); (case k3 => k_asm); (case k4 => k_inst); (case k5 => exact rfl); (case k6 => k_is); (case k7 => k_is); (case k8 => k_is); (case k9 => k_is); (case k10 => k_get); (case k11 => k_put); (case k12 => k_upd); (case k13 => exact Nat.le_of_ble_eq_true rfl); k_whole; intro h' F' N'; (try dsimp only at N'); (try k_sweep))))
theorem flush8 {prog : PySem.Program} {w : PySem.World} {A : PySem.Around} {Q : Unit → PySem.Shared → Prop} {E : PySem.Value → PySem.Shared → Prop} {s : PySem.Shared} (h : Q () s) : PySem.wpAny (PySem.model prog w) A (pure ()) Q E s := by
  w_top off
  first | (walk1; fail) | exact PySem.wpAny_pure h
section
theorem matchT_c {T P : Array UInt8} {S c : Int} {x d : Nat} {k p0 dep : Int} {t1 t2 t3 t4 t5 t6 t7 t8 tT tP tk t0 td tp : Tok} {vl vs ve : Value}
    (B : Below A₀ base outer h₀) (F : Fr h₀ L s.heap m) (X : (hd.heap_39 w.params).In h₀)
    (N : News h₀ L s.heap ((x, instObj 282 d) :: (d, mE w T P tT tP t0 t1 t2 t3 t4 t5 t6 t7 t8 dep td vl vs ve) :: news))
    (TT : Top p loose mean mg mb h₀) (hdx : d < x) (hn : ∀ p ∈ news, p.1 ≠ d) (hp0 : 0 ≤ p0) (hp1 : (P.size : Int) = p0 + 2) (hP : P.size ≤ 10) (hS : zat P p0 = S) (hc : zat P (p0 + 1) = c) (hS0 : 65 ≤ S) (hS1 : S ≤ 67) (hc0 : 97 ≤ c) (hc1 : c ≤ 122)
    (hk0 : 0 ≤ k) (hk1 : k ≤ T.size) (hT : T.size ≤ 10) (hd0 : 0 ≤ dep) (hd1 : dep < 50)
    (hdp : dp + 50 < recursionLimit) (hun : un + 500 < cLine)
    (hno : ¬ (k + 1 < T.size ∧ zat T k = S ∧ zat T (k + 1) = c) → ∀ h' tk' td' dep', dep' = dep → Fr h₀ L h' m → News h₀ L h' ((x, instObj 282 d) :: (d, mE w T P tT tP t0 t1 t2 t3 t4 t5 t6 t7 t8 dep' td' vl vs ve) :: news) → Q .none { s with heap := h', toks := tk' })
    (hyes : (k + 1 < T.size ∧ zat T k = S ∧ zat T (k + 1) = c) → ∀ h' tk' td' t dep', dep' = dep → Fr h₀ L h' m → News h₀ L h' ((x, instObj 282 d) :: (d, mE w T P tT tP t0 t1 t2 t3 t4 t5 t6 t7 t8 dep' td' vl vs ve) :: news) → Q (.int (k + 1 + 1) t) { s with heap := h', toks := tk' }) :
    wpAny (model PySem.Challenge.rw_tk0057_01.row.prog w) (ktrTop dp un gd cn { kind := .function, names := csn, isGenerator := csg, isCoroutine := csc, more := csm } L a ccd cl outer) (call (.ref 190) [.ref x, .int k tk, .int p0 tp]) Q E s := by
  subst hS hc
  dsimp only [mE] at N hno hyes
  revert X; k_fill; intro X
  refine wpAny_call ?_
  k_dflt (walk_at "my enter")
  k_steps
  all_goals (with_reducible rename News h₀ L _ _ => kN)
  all_goals (with_reducible rename Fr h₀ L _ _ => kF)
  all_goals (try dsimp only at kN kF)
  all_goals (first
    | (have hh : ¬ (k + 1 < (T.size : Int) ∧ zat T k = zat P p0 ∧ zat T (k + 1) = zat P (p0 + 1)) := by omega
       replace hno := hno hh
       first | refine hno _ _ _ _ ?_ kF kN | refine hno _ _ _ _ ?_ kF (News.tail' kN) | refine hno _ _ _ _ ?_ kF (News.tail' (News.tail' kN)) | refine hno _ _ _ _ ?_ kF (News.tail' (News.tail' (News.tail' kN))) | refine hno _ _ _ _ ?_ kF (News.tail' (News.tail' (News.tail' (News.tail' kN)))) | refine hno _ _ _ _ ?_ kF (News.tail' (News.tail' (News.tail' (News.tail' (News.tail' kN))))) | refine hno _ _ _ _ ?_ kF (News.tail' (News.tail' (News.tail' (News.tail' (News.tail' (News.tail' kN)))))) | refine hno _ _ _ _ ?_ kF (News.tail' (News.tail' (News.tail' (News.tail' (News.tail' (News.tail' (News.tail' kN))))))) | refine hno _ _ _ _ ?_ kF (News.tail' (News.tail' (News.tail' (News.tail' (News.tail' (News.tail' (News.tail' (News.tail' kN)))))))))
    | (have hh : k + 1 < (T.size : Int) ∧ zat T k = zat P p0 ∧ zat T (k + 1) = zat P (p0 + 1) := by omega
       replace hyes := hyes hh
       first | refine hyes _ _ _ _ _ ?_ kF kN | refine hyes _ _ _ _ _ ?_ kF (News.tail' kN) | refine hyes _ _ _ _ _ ?_ kF (News.tail' (News.tail' kN)) | refine hyes _ _ _ _ _ ?_ kF (News.tail' (News.tail' (News.tail' kN))) | refine hyes _ _ _ _ _ ?_ kF (News.tail' (News.tail' (News.tail' (News.tail' kN)))) | refine hyes _ _ _ _ _ ?_ kF (News.tail' (News.tail' (News.tail' (News.tail' (News.tail' kN))))) | refine hyes _ _ _ _ _ ?_ kF (News.tail' (News.tail' (News.tail' (News.tail' (News.tail' (News.tail' kN)))))) | refine hyes _ _ _ _ _ ?_ kF (News.tail' (News.tail' (News.tail' (News.tail' (News.tail' (News.tail' (News.tail' kN))))))) | refine hyes _ _ _ _ _ ?_ kF (News.tail' (News.tail' (News.tail' (News.tail' (News.tail' (News.tail' (News.tail' (News.tail' kN))))))))))
  all_goals omega
end
theorem flush9 {prog : PySem.Program} {w : PySem.World} {A : PySem.Around} {Q : Unit → PySem.Shared → Prop} {E : PySem.Value → PySem.Shared → Prop} {s : PySem.Shared} (h : Q () s) : PySem.wpAny (PySem.model prog w) A (pure ()) Q E s := by
  w_top off
  first | (walk1; fail) | exact PySem.wpAny_pure h
section
/-- the tokens of a matcher's entries -/
structure Tk where
  (t0 t1 t2 t3 t4 t5 t6 t7 t8 tT tP : Tok)
abbrev mK (w : World) (T P : Array UInt8) (k : Tk) (dep : Int) (td : Tok) (vl vs ve : Value) : Obj := mE w T P k.tT k.tP k.t0 k.t1 k.t2 k.t3 k.t4 k.t5 k.t6 k.t7 k.t8 dep td vl vs ve
/-- what a hit at i leaves of captures -/
def Caps (lft : Bool) (i : Int) (vl vs ve : Value) (cs : List (Addr × Obj)) : Prop :=
  (lft = false ∧ cs = []) ∨ (lft = true ∧ ∃ (tv : Tok) (a b : Addr) (ta tb : Tok), vl = .int 1 tv ∧ vs = .ref a ∧ ve = .ref b ∧ cs = [(a, W.listOf #[.int i ta] 0), (b, W.listOf #[.int 1 tb] 0)])
/-- a matcher that was reset, at place 0 of its pattern -/
def MSpec (w : World) (p : Program) (loose : List Str) (mean : ExcName → Option Value) (mg mb : Str → Option Value) (T P : Array UInt8) (lft : Bool) (res : Nat → Option Nat) : Prop :=
  ∀ {dp un : Nat} {gd : Option (List Code)} {cn : Str} {csn : List (Str × NameKind)} {csg csc : Bool} {csm : List (Str × Const)} {a : Addr} {ccd : Value} {cl : List (Str × Addr)} {outer : List Env} {A₀ : Around} {base h₀ : Heap} {L : Nat}
    {m : Str → Option Value} {s : Shared} {Q E : Value → Shared → Prop} {news : List (Addr × Obj)} {x d ls le : Nat} {k : Tk} {tk tp td tl : Tok} {i : Nat},
    Below A₀ base outer h₀ → Fr h₀ L s.heap m → (hd.heap_39 w.params).In h₀ → News h₀ L s.heap ((x, instObj 282 d) :: (d, mK w T P k 0 td (.int 0 tl) (.ref ls) (.ref le)) :: (ls, W.listOf #[] 0) :: (le, W.listOf #[] 0) :: news) →
    Top p loose mean mg mb h₀ → d < x → x < ls → ls < le → (∀ q ∈ news, q.1 ≠ d) → i ≤ T.size → dp + 80 < recursionLimit → un + 800 < cLine →
    (res i = none → ∀ h' tk' td' dep vl vs ve, Fr h₀ L h' m → News h₀ L h' ((x, instObj 282 d) :: (d, mK w T P k dep td' vl vs ve) :: news) → Q .none { s with heap := h', toks := tk' }) →
    (∀ e, res i = some e → ∀ h' tk' td' t dep vl vs ve cs, Caps lft i vl vs ve cs → (∀ c ∈ cs, ∀ q ∈ news, q.1 ≠ c.1) → Fr h₀ L h' m → News h₀ L h' ((x, instObj 282 d) :: (d, mK w T P k dep td' vl vs ve) :: (cs ++ news)) →
      Q (.int (e : Nat) t) { s with heap := h', toks := tk' }) →
    wpAny (model PySem.Challenge.rw_tk0057_01.row.prog w) (ktrTop dp un gd cn { kind := .function, names := csn, isGenerator := csg, isCoroutine := csc, more := csm } L a ccd cl outer) (call (.ref 190) [.ref x, .int i tk, .int 0 tp]) Q E s
def Held (p : Prop) : Prop := p
theorem Held.mk {p : Prop} (h : Held p) : p := h
theorem Held.of {p : Prop} (h : p) : Held p := h
def EndsI (w : World) (T P : Array UInt8) (k : Tk) (x d : Nat) (fixed led : List (Addr × Obj)) : Prop :=
  ∃ dep td vl vs ve, led = (x, instObj 282 d) :: (d, mK w T P k dep td vl vs ve) :: fixed
def EndsJ (w : World) (T P : Array UInt8) (k : Tk) (x d : Nat) (lft : Bool) (i : Nat) (fixed led : List (Addr × Obj)) : Prop :=
  ∃ dep td vl vs ve cs, led = (x, instObj 282 d) :: (d, mK w T P k dep td vl vs ve) :: (cs ++ fixed) ∧ Caps lft i vl vs ve cs ∧ ∀ c ∈ cs, ∀ q ∈ fixed, q.1 ≠ c.1
theorem News.p4 {h₀ h : Heap} {L : Addr} {a b x d : Addr × Obj} {r : List (Addr × Obj)} (N : News h₀ L h (a :: b :: x :: d :: r)) : News h₀ L h (x :: d :: b :: a :: r) :=
  News.perm N fun q hq => by simp only [List.mem_cons] at hq ⊢; rcases hq with h | h | h | h | h <;> simp [h]
theorem News.dropC {h₀ h : Heap} {L : Addr} {x y a b c : Addr × Obj} {cs f pre : List (Addr × Obj)} (N : News h₀ L h (x :: y :: (cs ++ (a :: b :: c :: (f ++ pre))))) : News h₀ L h ((x :: y :: (cs ++ f)) ++ pre) :=
  News.perm N fun q hq => by simp only [List.cons_append, List.mem_cons, List.mem_append] at hq ⊢; rcases hq with h | h | (h | h) | h <;> simp [h]
theorem AllLt.nes {d n : Nat} {l : List (Addr × Obj)} (h : AllLt d l) (hn : d ≤ n) : ∀ p ∈ l, p.1 ≠ n := fun p hp => Nat.ne_of_lt (Nat.lt_of_lt_of_le (AllLt.get h p hp) hn)
theorem News.add {h₀ h : Heap} {L : Addr} {x : Addr × Obj} {l : List (Addr × Obj)} (N : News h₀ L h l) (hx : x ∈ l) : News h₀ L h (x :: l) := News.perm N fun q hq => by
  rcases List.mem_cons.mp hq with rfl | hq
  · exact hx
  · exact hq
theorem News.drop2 {h₀ h : Heap} {L : Addr} {x y a b : Addr × Obj} {r : List (Addr × Obj)} (N : News h₀ L h (x :: y :: a :: b :: r)) : News h₀ L h (x :: y :: r) :=
  News.perm N fun q hq => by simp only [List.mem_cons] at hq ⊢; rcases hq with h | h | h <;> simp [h]
/-- the spec of match at `Sc` -/
theorem mspec_T {T P : Array UInt8} (hP : P.size = 2) (hS0 : 65 ≤ zat P 0) (hS1 : zat P 0 ≤ 67) (hc0 : 97 ≤ zat P 1) (hc1 : zat P 1 ≤ 122) (hT : T.size ≤ 10) (res : Nat → Option Nat)
    (hr : ∀ i : Nat, res i = if (i : Int) + 1 < T.size ∧ zat T i = zat P 0 ∧ zat T (i + 1) = zat P 1 then some (i + 2) else none) : MSpec w p loose mean mg mb T P false res := by
  intro dp un gd cn csn csg csc csm a ccd cl outer A₀ base h₀ L m s Q E news x d ls le k tk tp td tl i B F X N TT hdx hxl hll hn hi hdp hun hno hyes
  refine matchT_c (S := zat P 0) (c := zat P 1) B F X N TT hdx (fun q hq => ?_) (by omega) (by omega) (by omega) rfl rfl hS0 hS1 hc0 hc1 (by omega) (by omega) hT (by omega) (by omega) (by omega) (by omega) ?_ ?_
  · rcases List.mem_cons.mp hq with rfl | hq
    · exact Nat.ne_of_gt (Nat.lt_trans hdx hxl)
    rcases List.mem_cons.mp hq with rfl | hq
    · exact Nat.ne_of_gt (Nat.lt_trans hdx (Nat.lt_trans hxl hll))
    · exact hn q hq
  · intro hh h' tk' td' dep' _ F' N'
    exact hno (by rw [hr, if_neg hh]) h' tk' td' dep' _ _ _ F' (News.drop2 N')
  · intro hh h' tk' td' t dep' _ F' N'
    have := hyes (i + 2) (by rw [hr, if_pos hh]) h' tk' td' t dep' _ _ _ [] (.inl ⟨rfl, rfl⟩) (by intro c hc; cases hc) F' (News.drop2 N')
    rwa [show ((i + 2 : Nat) : Int) = (i : Int) + 1 + 1 by omega] at this
end
theorem flush10 {prog : PySem.Program} {w : PySem.World} {A : PySem.Around} {Q : Unit → PySem.Shared → Prop} {E : PySem.Value → PySem.Shared → Prop} {s : PySem.Shared} (h : Q () s) : PySem.wpAny (PySem.model prog w) A (pure ()) Q E s := by
  w_top off
  first | (walk1; fail) | exact PySem.wpAny_pure h
section
local macro_rules | `(tactic| walk_at "call ref") => `(tactic| (k_here; (with_reducible show wpAny _ _ (call (.ref 190) [_, .int _ _, .int _ _]) _ _ _); refine Held.mk ?_))
theorem endc_c {T P : Array UInt8} {x d a1 b1 : Nat} {k k1 p0 dep : Int} {t1 t2 t3 t4 t5 t6 t7 t8 tT tP tk t0 td tp tv ta tb : Tok}
    (B : Below A₀ base outer h₀) (F : Fr h₀ L s.heap m) (X : (hd.heap_39 w.params).In h₀)
    (N : News h₀ L s.heap ((x, instObj 282 d) :: (d, mE w T P tT tP t0 t1 t2 t3 t4 t5 t6 t7 t8 dep td (.int 1 tv) (.ref a1) (.ref b1)) :: (a1, W.listOf #[.int k ta] 0) :: (b1, W.listOf #[.int (-1) tb] 0) :: news))
    (TT : Top p loose mean mg mb h₀) (hdx : d < x) (hxl : x < a1) (hll : a1 < b1) (hn : ∀ q ∈ news, q.1 ≠ d) (hnb : ∀ q ∈ news, q.1 ≠ b1) (hp : p0 = 4) (hP : P.size = 6)
    (hS0 : 65 ≤ zat P 4) (hS1 : zat P 4 ≤ 67) (hc0 : 97 ≤ zat P 5) (hc1 : zat P 5 ≤ 122)
    (hk0 : 0 ≤ k1) (hk1 : k1 ≤ T.size) (hT : T.size ≤ 10) (hd0 : 0 ≤ dep) (hd1 : dep < 40)
    (hdp : dp + 60 < recursionLimit) (hun : un + 600 < cLine)
    (hno : ¬ (k1 + 1 < T.size ∧ zat T k1 = zat P 4 ∧ zat T (k1 + 1) = zat P 5) → ∀ h' tk' td' ve' dep', dep' = dep → Fr h₀ L h' m → News h₀ L h' ((x, instObj 282 d) :: (d, mE w T P tT tP t0 t1 t2 t3 t4 t5 t6 t7 t8 dep' td' (.int 1 tv) (.ref a1) (.ref b1)) :: (a1, W.listOf #[.int k ta] 0) :: (b1, W.listOf #[ve'] 0) :: news) → Q .none { s with heap := h', toks := tk' })
    (hyes : (k1 + 1 < T.size ∧ zat T k1 = zat P 4 ∧ zat T (k1 + 1) = zat P 5) → ∀ h' tk' td' t tb' dep', dep' = dep → Fr h₀ L h' m → News h₀ L h' ((x, instObj 282 d) :: (d, mE w T P tT tP t0 t1 t2 t3 t4 t5 t6 t7 t8 dep' td' (.int 1 tv) (.ref a1) (.ref b1)) :: (a1, W.listOf #[.int k ta] 0) :: (b1, W.listOf #[.int (k1 - k) tb'] 0) :: news) → Q (.int (k1 + 1 + 1) t) { s with heap := h', toks := tk' }) :
    wpAny (model PySem.Challenge.rw_tk0057_01.row.prog w) (ktrTop dp un gd cn { kind := .function, names := csn, isGenerator := csg, isCoroutine := csc, more := csm } L a ccd cl outer) (call (.ref 246) [.ref x, .int k1 tk, .int p0 tp]) Q E s := by
  dsimp only [mE] at N hno hyes
  have hS : zat P p0 = zat P 4 := by rw [hp]
  have hc : zat P (p0 + 1) = zat P 5 := by rw [hp]; rfl
  revert X; k_fill; intro X
  refine wpAny_call ?_
  k_dflt (walk_at "my enter")
  k_steps
  (with_reducible rename News _ _ _ _ => kN)
  (with_reducible rename Fr _ _ _ _ => kF)
  (try dsimp only at kN kF)
  refine Held.of ?_
  k_dflt (refine matchT_c (S := zat P 4) (c := zat P 5) (by k_asm) (by k_asm) (by k_asm) kN (by k_asm) hdx ?hn (by omega) (by omega) (by omega) hS hc hS0 hS1 hc0 hc1 hk0 hk1 hT hd0 (by omega) (by ktr_room) (by ktr_units) ?no ?yes)
  case hn =>
    intro q hq
    rcases List.mem_cons.mp hq with rfl | hq
    · exact Nat.ne_of_gt (Nat.lt_trans hdx hxl)
    rcases List.mem_cons.mp hq with rfl | hq
    · exact Nat.ne_of_gt (Nat.lt_trans hdx (Nat.lt_trans hxl hll))
    · exact hn q hq
  case no =>
    intro hh h2 tk2 td2 dep2 hdep F2 N2
    clear kN kF
    dsimp only [mE] at N2
    k_steps
    (with_reducible rename News h₀ L _ _ => kN)
    (with_reducible rename Fr h₀ L _ _ => kF)
    (try dsimp only at kN kF)
    exact hno hh _ _ _ _ _ hdep kF kN
  case yes =>
    intro hh h2 tk2 td2 t2 dep2 hdep F2 N2
    clear kN kF
    dsimp only [mE] at N2
    k_steps
    (with_reducible rename News h₀ L _ _ => kN)
    (with_reducible rename Fr h₀ L _ _ => kF)
    (try dsimp only at kN kF)
    exact hyes hh _ _ _ _ _ _ hdep kF kN
end
theorem flush11 {prog : PySem.Program} {w : PySem.World} {A : PySem.Around} {Q : Unit → PySem.Shared → Prop} {E : PySem.Value → PySem.Shared → Prop} {s : PySem.Shared} (h : Q () s) : PySem.wpAny (PySem.model prog w) A (pure ()) Q E s := by
  w_top off
  first | (walk1; fail) | exact PySem.wpAny_pure h
section
theorem in_bf {prog : Program} {w : World} {A : Around} {s : Shared} {t u : Tok} {Q : Value → Shared → Prop} {E : Value → Shared → Prop} (h : Q (.bool false) s) : wpAny (model prog w) A (compareOp .In (.int 108 u) (.bytes (List.toArray [98, 102]) t)) Q E s := by
  refine In_slot (typeIs_bytes s _ t) PySem.W.FB.slot_bytes_contains (wpAny_call_entry PySem.W.FB.slot_bytes_contains (typeIs_bytes s _ t) PySem.W.FB.entry_bytes_contains ?_ (PySem.W.FB.args_bytes_contains_2 _ _))
  with_unfolding_all (show wpAny _ _ (ret (.bool false)) _ _ s)
  exact wpAny_pure ⟨_, rfl, wpAny_truthy_bool h⟩
theorem in_bf' {prog : Program} {w : World} {A : Around} {s : Shared} {t u : Tok} {v : Int} {Q : Value → Shared → Prop} {E : Value → Shared → Prop} (hv : v = 108) (h : Q (.bool false) s) : wpAny (model prog w) A (compareOp .In (.int v u) (.bytes (List.toArray [98, 102]) t)) Q E s := by
  subst hv; exact in_bf h
local macro_rules | `(tactic| walk_at "compareOp In") => `(tactic| (k_here; k_dflt (refine in_bf' (by omega) ?_)))
local macro_rules | `(tactic| walk_at "call ref") => `(tactic| (k_here; (with_reducible show wpAny _ _ (call (.ref 246) [_, .int _ _, .int _ _]) _ _ _); refine Held.mk ?_))
theorem matchM_c {T P : Array UInt8} {x d a1 b1 : Nat} {k p0 dep : Int} {t1 t2 t3 t4 t5 t6 t7 t8 tT tP tk t0 td tp tv ta tb : Tok}
    (B : Below A₀ base outer h₀) (F : Fr h₀ L s.heap m) (X : (hd.heap_39 w.params).In h₀)
    (N : News h₀ L s.heap ((x, instObj 282 d) :: (d, mE w T P tT tP t0 t1 t2 t3 t4 t5 t6 t7 t8 dep td (.int 1 tv) (.ref a1) (.ref b1)) :: (a1, W.listOf #[.int k ta] 0) :: (b1, W.listOf #[.int (-1) tb] 0) :: news))
    (TT : Top p loose mean mg mb h₀) (hdx : d < x) (hxl : x < a1) (hll : a1 < b1) (hn : ∀ q ∈ news, q.1 ≠ d) (hnb : ∀ q ∈ news, q.1 ≠ b1) (hp : p0 = 1) (hP : P.size = 6)
    (z1 : zat P 1 = 37) (z2 : zat P 2 = 108) (z3 : zat P 3 = 41) (hS0 : 65 ≤ zat P 4) (hS1 : zat P 4 ≤ 67) (hc0 : 97 ≤ zat P 5) (hc1 : zat P 5 ≤ 122)
    (hk0 : 0 ≤ k) (hk1 : k ≤ T.size) (hT : T.size ≤ 10) (hd0 : 0 ≤ dep) (hd1 : dep < 30)
    (hdp : dp + 70 < recursionLimit) (hun : un + 700 < cLine)
    (hno : ¬ (k + 2 < T.size ∧ 97 ≤ zat T k ∧ zat T k ≤ 122 ∧ zat T (k + 1) = zat P 4 ∧ zat T (k + 1 + 1) = zat P 5) → ∀ h' tk' td' ve' dep', dep' = dep → Fr h₀ L h' m → News h₀ L h' ((x, instObj 282 d) :: (d, mE w T P tT tP t0 t1 t2 t3 t4 t5 t6 t7 t8 dep' td' (.int 1 tv) (.ref a1) (.ref b1)) :: (a1, W.listOf #[.int k ta] 0) :: (b1, W.listOf #[ve'] 0) :: news) → Q .none { s with heap := h', toks := tk' })
    (hyes : (k + 2 < T.size ∧ 97 ≤ zat T k ∧ zat T k ≤ 122 ∧ zat T (k + 1) = zat P 4 ∧ zat T (k + 1 + 1) = zat P 5) → ∀ h' tk' td' t tb' dep', dep' = dep → Fr h₀ L h' m → News h₀ L h' ((x, instObj 282 d) :: (d, mE w T P tT tP t0 t1 t2 t3 t4 t5 t6 t7 t8 dep' td' (.int 1 tv) (.ref a1) (.ref b1)) :: (a1, W.listOf #[.int k ta] 0) :: (b1, W.listOf #[.int 1 tb'] 0) :: news) → Q (.int (k + 1 + 1 + 1) t) { s with heap := h', toks := tk' }) :
    wpAny (model PySem.Challenge.rw_tk0057_01.row.prog w) (ktrTop dp un gd cn { kind := .function, names := csn, isGenerator := csg, isCoroutine := csc, more := csm } L a ccd cl outer) (call (.ref 190) [.ref x, .int k tk, .int p0 tp]) Q E s := by
  dsimp only [mE] at N hno hyes
  have y1 : zat P p0 = 37 := by rw [hp]; exact z1
  have y2 : zat P (p0 + 1) = 108 := by rw [hp]; exact z2
  have y3 : zat P (p0 + 2) = 41 := by rw [hp]; exact z3
  revert X; k_fill; intro X
  refine wpAny_call ?_
  k_dflt (walk_at "my enter")
  k_steps
  all_goals (with_reducible rename News _ _ _ _ => kN)
  all_goals (with_reducible rename Fr _ _ _ _ => kF)
  all_goals (try dsimp only at kN kF)
  · exact hno (by omega) _ _ _ _ _ (by omega) kF (News.tail' kN)
  refine Held.of ?_
  k_dflt (refine endc_c (by k_asm) (by k_asm) (by k_asm) (News.tail' (News.tail' (News.tail' kN))) (by k_asm) hdx hxl hll hn hnb (by omega) hP hS0 hS1 hc0 hc1 (by omega) (by omega) hT (by omega) (by omega) (by ktr_room) (by ktr_units) ?no ?yes)
  case no =>
    intro hh h2 tk2 td2 ve2 dep2 hdep F2 N2
    clear kN kF
    dsimp only [mE] at N2
    k_steps
    (with_reducible rename News h₀ L _ _ => kN)
    (with_reducible rename Fr h₀ L _ _ => kF)
    (try dsimp only at kN kF)
    exact hno (by omega) _ _ _ _ _ (by omega) kF kN
  case yes =>
    intro hh h2 tk2 td2 t2 tb2 dep2 hdep F2 N2
    clear kN kF
    rw [show k + 1 - k = 1 by omega] at N2
    dsimp only [mE] at N2
    k_steps
    (with_reducible rename News h₀ L _ _ => kN)
    (with_reducible rename Fr h₀ L _ _ => kF)
    (try dsimp only at kN kF)
    exact hyes (by omega) _ _ _ _ _ _ (by omega) kF kN
end
theorem flush12 {prog : PySem.Program} {w : PySem.World} {A : PySem.Around} {Q : Unit → PySem.Shared → Prop} {E : PySem.Value → PySem.Shared → Prop} {s : PySem.Shared} (h : Q () s) : PySem.wpAny (PySem.model prog w) A (pure ()) Q E s := by
  w_top off
  first | (walk1; fail) | exact PySem.wpAny_pure h
section
local macro_rules | `(tactic| walk_at "call ref") => `(tactic| (k_here; (with_reducible show wpAny _ _ (call (.ref 190) [_, .int _ _, .int _ _]) _ _ _); refine Held.mk ?_))
theorem News.m1 {h₀ h : Heap} {L : Addr} {a1 a2 a3 a4 a5 a6 a7 x d ls le : Addr × Obj} {r : List (Addr × Obj)} (N : News h₀ L h (a1 :: a2 :: a3 :: a4 :: a5 :: a6 :: a7 :: x :: d :: ls :: le :: r)) : News h₀ L h (x :: d :: a4 :: a1 :: r) :=
  News.perm N fun q hq => by simp only [List.mem_cons] at hq ⊢; rcases hq with h | h | h | h | h <;> simp [h]
theorem matchL_c {T P : Array UInt8} {x d ls le : Nat} {k dep : Int} {t1 t2 t3 t4 t5 t6 t7 t8 tT tP tk t0 td tp tl : Tok}
    (B : Below A₀ base outer h₀) (F : Fr h₀ L s.heap m) (X : (hd.heap_39 w.params).In h₀)
    (N : News h₀ L s.heap ((x, instObj 282 d) :: (d, mE w T P tT tP t0 t1 t2 t3 t4 t5 t6 t7 t8 dep td (.int 0 tl) (.ref ls) (.ref le)) :: (ls, listOf #[] 0) :: (le, listOf #[] 0) :: news))
    (TT : Top p loose mean mg mb h₀) (hdx : d < x) (hxl : x < ls) (hll : ls < le) (hn : ∀ p ∈ news, p.1 ≠ d) (hP : P.size = 6) (z0 : zat P 0 = 40) (z1 : zat P 1 = 37) (z2 : zat P 2 = 108) (z3 : zat P 3 = 41)
    (hS0 : 65 ≤ zat P 4) (hS1 : zat P 4 ≤ 67) (hc0 : 97 ≤ zat P 5) (hc1 : zat P 5 ≤ 122)
    (hk0 : 0 ≤ k) (hk1 : k ≤ T.size) (hT : T.size ≤ 10) (hd0 : 0 ≤ dep) (hd1 : dep < 20)
    (hdp : dp + 80 < recursionLimit) (hun : un + 800 < cLine)
    (hno : ¬ (k + 2 < T.size ∧ 97 ≤ zat T k ∧ zat T k ≤ 122 ∧ zat T (k + 1) = zat P 4 ∧ zat T (k + 1 + 1) = zat P 5) → ∀ h' tk' td' dep' vl vs ve, dep' = dep → Fr h₀ L h' m → News h₀ L h' ((x, instObj 282 d) :: (d, mE w T P tT tP t0 t1 t2 t3 t4 t5 t6 t7 t8 dep' td' vl vs ve) :: news) → Q .none { s with heap := h', toks := tk' })
    (hyes : (k + 2 < T.size ∧ 97 ≤ zat T k ∧ zat T k ≤ 122 ∧ zat T (k + 1) = zat P 4 ∧ zat T (k + 1 + 1) = zat P 5) → ∀ h' tk' td' t dep' tv ta tb a b, dep' = dep → (∀ q ∈ news, q.1 ≠ a) → (∀ q ∈ news, q.1 ≠ b) → Fr h₀ L h' m → News h₀ L h' ((x, instObj 282 d) :: (d, mE w T P tT tP t0 t1 t2 t3 t4 t5 t6 t7 t8 dep' td' (.int 1 tv) (.ref a) (.ref b)) :: (a, listOf #[.int k ta] 0) :: (b, listOf #[.int 1 tb] 0) :: news) → Q (.int (k + 1 + 1 + 1) t) { s with heap := h', toks := tk' }) :
    wpAny (model PySem.Challenge.rw_tk0057_01.row.prog w) (ktrTop dp un gd cn { kind := .function, names := csn, isGenerator := csg, isCoroutine := csc, more := csm } L a ccd cl outer) (call (.ref 190) [.ref x, .int k tk, .int 0 tp]) Q E s := by
  dsimp only [mE] at N hno hyes
  revert X; k_fill; intro X
  have y1 : zat P (0 + 1) = 37 := z1
  refine wpAny_call ?_
  k_dflt (walk_at "my enter")
  k_steps
  (with_reducible rename News _ _ _ _ => kN)
  (with_reducible rename Fr _ _ _ _ => kF)
  (try dsimp only at kN kF)
  simp only [Int.zero_add] at kN
  have kP := News.m1 kN
  refine Held.of ?_
  k_dflt (refine matchM_c (by k_asm) (by k_asm) (by k_asm) kP (by k_asm) hdx (by omega) (by omega) hn (by k_all) (by omega) hP z1 z2 z3 hS0 hS1 hc0 hc1 hk0 hk1 hT (by omega) (by omega) (by ktr_room) (by ktr_units) ?no ?yes)
  case no =>
    intro hh h2 tk2 td2 ve2 dep2 hdep F2 N2
    clear kN kF kP
    dsimp only [mE] at N2
    k_steps
    (with_reducible rename News h₀ L _ _ => kN)
    (with_reducible rename Fr h₀ L _ _ => kF)
    (try dsimp only at kN kF)
    exact hno hh _ _ _ _ _ _ _ (by omega) kF (News.drop2 kN)
  case yes =>
    intro hh h2 tk2 td2 t2 tb2 dep2 hdep F2 N2
    clear kN kF kP
    dsimp only [mE] at N2
    k_steps
    (with_reducible rename News h₀ L _ _ => kN)
    (with_reducible rename Fr h₀ L _ _ => kF)
    (try dsimp only at kN kF)
    exact hyes hh _ _ _ _ _ _ _ _ _ _ (by omega) (by k_all) (by k_all) kF kN
end
theorem flush13 {prog : PySem.Program} {w : PySem.World} {A : PySem.Around} {Q : Unit → PySem.Shared → Prop} {E : PySem.Value → PySem.Shared → Prop} {s : PySem.Shared} (h : Q () s) : PySem.wpAny (PySem.model prog w) A (pure ()) Q E s := by
  w_top off
  first | (walk1; fail) | exact PySem.wpAny_pure h
section
local macro_rules | `(tactic| walk_at "call ref") => `(tactic| (k_here; (with_reducible show wpAny _ _ (call (.ref 190) [_, .int _ _, .int _ _]) _ _ _); refine Held.mk ?_))
theorem ends_c {T P : Array UInt8} {lft : Bool} {res : Nat → Option Nat} {oc0 : Value} {od0 an0 : Option Addr} {name0 qual0 n1 n2 q1 : Str} {params0 pa1 : Arguments} {s1 s3 s4 : Stmt} {b1 : List Stmt} {dl1 : List Expr} {r1 : Option Expr} {tp1 : List TypeParam}
    {sc1 scope0 : Scope} {z1 : Option Scope} {ps1 : Pos} {dV0 kV0 doc0 pm0 cdv0 ct0 dc nm ct : Value} {osl0 : Array (Option Value)}
    (hlook : (hd.heap_39 w.params).lookup 300 = some ⟨oc0, od0, .func (fnOf name0 qual0 params0 [s1, .FunctionDef n1 pa1 b1 dl1 r1 tp1 sc1 z1 n2 ps1, s3, s4] scope0 dV0 kV0 doc0 pm0 an0 cdv0 ct0), osl0⟩)
    (HM : MSpec w p loose mean mg mb T P lft res) {x d e c1 P1 cm : Nat} {oc1 om : Obj} {k : Tk} {fixed : List (Addr × Obj)} {i : Nat} {tk : Tok}
    (hi : i ≤ T.size) (hdx : d < x) (he : (e, fnMade n1 q1 pa1 b1 sc1 [(Str.ofString "matcher", cm)] dc nm c1 ct) ∈ fixed) (hc1 : (c1, oc1) ∈ fixed) (O1 : OcHd oc1 c1 P1 q1) (hcm : (cm, om) ∈ fixed) (hom : om.data = .cell (some (.ref x))) (hf : ∀ q ∈ fixed, q.1 ≠ d) :
    CallAny w p loose mean mg mb e [.int i tk] (EndsI w T P k x d fixed) (fun v led => (res i = none ∧ v = .none ∧ EndsI w T P k x d fixed led) ∨ ∃ e' t, res i = some e' ∧ v = .int (e' : Nat) t ∧ EndsJ w T P k x d lft i fixed led) := by
  intro dp un gd cn csn csg csc csm a ccd cl outer A₀ base h₀ L m s Q pre led B F X N TT hI hD hdp hun hret
  obtain ⟨dep, td, vl, vs, ve, rfl⟩ := hI
  have hn : ∀ q ∈ fixed ++ pre, q.1 ≠ d := fun q hq => by
    rcases List.mem_append.mp hq with hq | hq
    · exact hf q hq
    · exact (hD q hq _ (.tail _ (.head _)))
  have NN : News h₀ L s.heap ((x, instObj 282 d) :: (d, mK w T P k dep td vl vs ve) :: (e, fnMade _ q1 _ _ _ [(Str.ofString "matcher", cm)] dc nm c1 ct) :: (c1, oc1) :: (cm, om) :: (fixed ++ pre)) := News.perm N (fun q hq => by
    rcases List.mem_cons.mp hq with rfl | hq
    · exact .head _
    rcases List.mem_cons.mp hq with rfl | hq
    · exact .tail _ (.head _)
    rcases List.mem_cons.mp hq with rfl | hq
    · exact .tail _ (.tail _ (List.mem_append_left _ he))
    rcases List.mem_cons.mp hq with rfl | hq
    · exact .tail _ (.tail _ (List.mem_append_left _ hc1))
    rcases List.mem_cons.mp hq with rfl | hq
    · exact .tail _ (.tail _ (List.mem_append_left _ hcm))
    · exact .tail _ (.tail _ hq))
  have ne1 : e ≠ d := hf _ he
  have ne2 : c1 ≠ d := hf _ hc1
  have ne3 : cm ≠ d := hf _ hcm
  have CH := OcHd.code O1 (NN _ (.tail _ (.tail _ (.tail _ (.head _))))).1
  refine OcHd.elim O1 fun vs1 file1 tf1 fl1 tg1 inF1 tx1 tt1 tq1 b1' b2' b3' b4' b5' b6' b7' b8' b9' b10' => ?_
  dsimp only [mK, mE] at NN
  clear N
  revert X; k_fill; intro X
  have hl := hlook.symm.trans (show (hd.heap_39 w.params).lookup 300 = some _ by k_is)
  have e0 := ob_eqs hl
  have f1 := fd_eqs (List.head_eq_of_cons_eq (List.tail_eq_of_cons_eq e0.2.2.1))
  have x1 := f1.1
  have x2 := f1.2.1
  have x3 := f1.2.2.1
  have x4 := f1.2.2.2.1
  clear e0 f1 hl hlook
  subst x1 x2 x3 x4
  refine wpAny_call ?_
  k_dflt (walk_at "my nenter")
  k_steps
  refine Held.of ?_
  (with_reducible rename News _ _ _ _ => kN9)
  k_dflt (refine HM (k := k) (by k_asm) (by k_asm) (by k_asm) (News.p4 kN9) (by k_asm) hdx (by omega) (by omega) ?_ hi (by ktr_room) (by ktr_units) ?_ ?_)
  · intro q hq
    rcases List.mem_cons.mp hq with rfl | hq
    · exact ne1
    rcases List.mem_cons.mp hq with rfl | hq
    · exact ne2
    rcases List.mem_cons.mp hq with rfl | hq
    · exact ne3
    · exact hn q hq
  · intro hr h2 tk2 td2 dep2 vl2 vs2 ve2 F2 N2
    k_steps
    (with_reducible rename News h₀ L _ _ => kN)
    (with_reducible rename Fr h₀ L _ _ => kF)
    (try dsimp only at kN kF)
    exact hret _ _ _ _ kF (News.dropC (cs := []) kN) (.inl ⟨hr, rfl, _, _, _, _, _, rfl⟩) (fun p hp q hq => by
      rcases List.mem_cons.mp hq with rfl | hq
      · exact hD p hp _ (.head _)
      rcases List.mem_cons.mp hq with rfl | hq
      · show p.1 ≠ d; exact hD p hp _ (.tail _ (.head _))
      · exact hD p hp _ (.tail _ (.tail _ hq)))
  · intro e' hr h2 tk2 td2 t2 dep2 vl2 vs2 ve2 cs hcaps hcs F2 N2
    k_steps
    (with_reducible rename News h₀ L _ _ => kN)
    (with_reducible rename Fr h₀ L _ _ => kF)
    (try dsimp only at kN kF)
    exact hret _ _ _ _ kF (News.dropC kN) (.inr ⟨e', _, hr, rfl, _, _, _, _, _, _, rfl, hcaps, fun q hq p hp => hcs q hq p (.tail _ (.tail _ (.tail _ (List.mem_append_left _ hp))))⟩) (fun p hp q hq => by
      rcases List.mem_cons.mp hq with rfl | hq
      · exact hD p hp _ (.head _)
      rcases List.mem_cons.mp hq with rfl | hq
      · show p.1 ≠ d; exact hD p hp _ (.tail _ (.head _))
      rcases List.mem_append.mp hq with hq | hq
      · exact hcs q hq p (.tail _ (.tail _ (.tail _ (List.mem_append_right _ hp))))
      · exact hD p hp _ (.tail _ (.tail _ hq)))
end
theorem flush14 {prog : PySem.Program} {w : PySem.World} {A : PySem.Around} {Q : Unit → PySem.Shared → Prop} {E : PySem.Value → PySem.Shared → Prop} {s : PySem.Shared} (h : Q () s) : PySem.wpAny (PySem.model prog w) A (pure ()) Q E s := by
  w_top off
  first | (walk1; fail) | exact PySem.wpAny_pure h
section
theorem held_c {T P : Array UInt8} {oc0 : Value} {od0 an0 : Option Addr} {name0 qual0 n1 n2 n3 n4 q3 : Str} {params0 pa1 pa3 : Arguments} {s1 s2 s4 s5 : Stmt} {b3 : List Stmt} {dl1 dl3 : List Expr} {r1 r3 : Option Expr} {tp1 tp3 : List TypeParam}
    {sc1 sc3 scope0 : Scope} {z1 z3 : Option Scope} {ps1 ps3 : Pos} {dV0 kV0 doc0 pm0 cdv0 ct0 dc nm ct : Value} {osl0 : Array (Option Value)}
    (hlook : (hd.heap_39 w.params).lookup 300 = some ⟨oc0, od0, .func (fnOf name0 qual0 params0 [s1, s2, .FunctionDef n1 pa1 [.FunctionDef n3 pa3 b3 dl3 r3 tp3 sc3 z3 n4 ps3, s5] dl1 r1 tp1 sc1 z1 n2 ps1, s4] scope0 dV0 kV0 doc0 pm0 an0 cdv0 ct0), osl0⟩)
    {x d f c3 P3 cb ce cm cx a b : Nat} {oc3 ob oe om : Obj} {k : Tk} {led0 : List (Addr × Obj)} {i e : Nat} {tk td tv ta tb ti te : Tok} {dep : Int}
    (hi : i < T.size) (hT : T.size ≤ 10) (hx : (x, instObj 282 d) ∈ led0) (hdm : (d, mK w T P k dep td (.int 1 tv) (.ref a) (.ref b)) ∈ led0) (ha : (a, W.listOf #[.int i ta] 0) ∈ led0) (hb : (b, W.listOf #[.int 1 tb] 0) ∈ led0)
    (hf : (f, fnMade n3 q3 pa3 b3 sc3 [(Str.ofString "text", cx), (Str.ofString "matcher", cm), (Str.ofString "end", ce), (Str.ofString "begin", cb)] dc nm c3 ct) ∈ led0) (hc3 : (c3, oc3) ∈ led0) (O3 : OcHd oc3 c3 P3 q3)
    (hcb : (cb, ob) ∈ led0) (hce : (ce, oe) ∈ led0) (hcm : (cm, om) ∈ led0) (hob : ob.data = .cell (some (.int i ti))) (hoe : oe.data = .cell (some (.int e te))) (hom : om.data = .cell (some (.ref x))) :
    CallAny w p loose mean mg mb f [.int 1 tk] (fun led => led = led0) (fun v led => (∃ t, v = .bytes (PySem.W.KBy.picked T (some (i : Int)) (some ((i : Int) + 1))) t) ∧ led = led0) := by
  intro dp un gd cn csn csg csc csm a' ccd cl outer A₀ base h₀ L m s Q pre led B F X N TT hI hD hdp hun hret
  subst hI
  have NN := News.add (News.add (News.add (News.add (News.add (News.add (News.add (News.add (News.add N (List.mem_append_left _ hcb)) (.tail _ (List.mem_append_left _ hce))) (.tail _ (.tail _ (List.mem_append_left _ hcm)))) (.tail _ (.tail _ (.tail _ (List.mem_append_left _ hc3)))))
    (.tail _ (.tail _ (.tail _ (.tail _ (List.mem_append_left _ hf)))))) (.tail _ (.tail _ (.tail _ (.tail _ (.tail _ (List.mem_append_left _ hb))))))) (.tail _ (.tail _ (.tail _ (.tail _ (.tail _ (.tail _ (List.mem_append_left _ ha))))))))
    (.tail _ (.tail _ (.tail _ (.tail _ (.tail _ (.tail _ (.tail _ (List.mem_append_left _ hdm))))))))) (.tail _ (.tail _ (.tail _ (.tail _ (.tail _ (.tail _ (.tail _ (.tail _ (List.mem_append_left _ hx)))))))))
  have CH := OcHd.code O3 (N _ (List.mem_append_left _ hc3)).1
  refine OcHd.elim O3 fun vs1 file1 tf1 fl1 tg1 inF1 tx1 tt1 tq1 b1' b2' b3' b4' b5' b6' b7' b8' b9' b10' => ?_
  dsimp only [mK, mE] at NN
  clear N hf hcb hce hcm hx hdm ha hb hc3
  revert X; k_fill; intro X
  have hl := hlook.symm.trans (show (hd.heap_39 w.params).lookup 300 = some _ by k_is)
  have e0 := ob_eqs hl
  have f1 := fd_eqs (List.head_eq_of_cons_eq (List.tail_eq_of_cons_eq (List.tail_eq_of_cons_eq e0.2.2.1)))
  have f3 := fd_eqs (List.head_eq_of_cons_eq f1.2.2.1)
  have x1 := f3.1
  have x2 := f3.2.1
  have x3 := f3.2.2.1
  have x4 := f3.2.2.2.1
  clear e0 f1 f3 hl hlook
  subst x1 x2 x3 x4
  refine wpAny_call ?_
  k_dflt (walk_at "my nenter")
  k_steps
  ((with_reducible rename Fr _ _ _ _ => F'); (with_reducible rename News _ _ _ _ => N'); k_dflt (refine PySem.W.KBc.slice_K (s := ⟨_, _, _, _, _⟩) F' N' rfl (by constructor) (by constructor) (by rw [PySem.W.KBw.ints_length]; omega) ?_); intro _ _ _ _ _ _)
  k_steps
  (with_reducible rename News h₀ L _ _ => kN)
  (with_reducible rename Fr h₀ L _ _ => kF)
  (try dsimp only at kN kF)
  refine hret _ _ _ led kF (News.perm kN fun q hq => ?_) ⟨⟨_, rfl⟩, rfl⟩ hD
  iterate 10 refine List.mem_cons_of_mem _ ?_
  exact hq
end
theorem flush15 {prog : PySem.Program} {w : PySem.World} {A : PySem.Around} {Q : Unit → PySem.Shared → Prop} {E : PySem.Value → PySem.Shared → Prop} {s : PySem.Shared} (h : Q () s) : PySem.wpAny (PySem.model prog w) A (pure ()) Q E s := by
  w_top off
  first | (walk1; fail) | exact PySem.wpAny_pure h
section
/-- the table of give's code, empty or with held's code -/
def GT (P2 : Nat) (ps : Pos) (q3 : Str) (gt : List (Addr × Obj)) : Prop :=
  gt = [(P2, tabObj #[])] ∨ ∃ (c3 P3 : Nat) (oc3 : Obj), gt = [(P2, tabObj #[rawInt ps.line, rawInt ps.col, .ref c3]), (c3, oc3), (P3, tabObj #[])] ∧ OcHd oc3 c3 P3 q3
def GT1 (P2 : Nat) (ps : Pos) (q3 : Str) (c3 : Nat) (oc3 : Obj) (P3 : Nat) (gt : List (Addr × Obj)) : Prop :=
  gt = [(P2, tabObj #[rawInt ps.line, rawInt ps.col, .ref c3]), (c3, oc3), (P3, tabObj #[])] ∧ OcHd oc3 c3 P3 q3
section
variable {M : Model} {A : Around} {E : Value → Shared → Prop} {s : Shared} {h₀ : Heap} {L a c P : Addr} {m mg mb : Str → Option Value} {cn : Str} {cs : Scope} {ccd : Value} {cl : List (Str × Addr)} {rest : List (Addr × Obj)}
  {p : Program} {loose : List Str} {mean : ExcName → Option Value} {name qual : Str} {params : Arguments} {body : List Stmt} {scope : Scope} {pos : Pos} {firstLine : Nat} {clos : List (Str × Addr)}
/-- a def within a def, its code known or not -/
theorem nestG {Q : Value → Shared → Prop} {P2 : Nat} {gt : List (Addr × Obj)} (hG : GT P2 pos qual gt) (F : Fr h₀ L s.heap m) (N : News h₀ L s.heap (gt ++ rest)) (T : Top p loose mean mg mb h₀) (C : CodeHd s.heap c P2) (hcd : ccd = .ref c) (hr : ∀ q ∈ rest, q.1 ≠ P2)
    (hcl : closureFor scope (envX cn cs L a ccd cl) = pure clos) (hne : clos.isEmpty = false)
    (h : ∀ (f c3 P3 : Nat) oc3 gt' ctv doc h' tk, Fr h₀ L h' m → News h₀ L h' ((f, fnMade name qual params body scope clos doc ((mg "__name__").getD .none) c3 ctv) :: (gt' ++ rest)) →
      GT1 P2 pos qual c3 oc3 P3 gt' → (∀ q ∈ gt', q ∈ gt ∨ (q.1 = P2) ∨ ∀ r ∈ rest, r.1 ≠ q.1) → (∀ q ∈ rest, @LT.lt Nat _ q.1 f) → Q (.ref f) { s with heap := h', toks := tk }) :
    wpAny M A (makeFunction name qual params (.stmts body) scope (envX cn cs L a ccd cl) [] [] [] pos firstLine) Q E s := by
  rcases hG with rfl | ⟨c3, P3, oc3, rfl, O⟩
  · refine nestP F N T C hcd (.head hr) trivial rfl hcl hne fun f c' P' oc ctv doc h' tk F' N' O' l1 l2 l3 l4 l5 => ?_
    have l3' : @LT.lt Nat _ c' f := l3
    refine h f c' P' oc [(P2, tabObj #[rawInt pos.line, rawInt pos.col, .ref c']), (c', oc), (P', tabObj #[])] ctv doc h' tk F' (News.perm (show News h₀ L h' ((f, _) :: (c', oc) :: (P', tabObj #[]) :: (P2, tabObj #[rawInt pos.line, rawInt pos.col, .ref c']) :: rest) from N') fun q hq => ?_) ⟨rfl, O'⟩ (fun q hq => ?_) (fun q hq => ?_)
    · simp only [List.cons_append, List.nil_append, List.mem_cons] at hq ⊢
      rcases hq with h | h | h | h | h
      · exact .inl h
      · exact .inr (.inr (.inr (.inl h)))
      · exact .inr (.inl h)
      · exact .inr (.inr (.inl h))
      · exact .inr (.inr (.inr (.inr h)))
    · rcases List.mem_cons.mp hq with rfl | hq
      · exact .inr (.inl rfl)
      rcases List.mem_cons.mp hq with rfl | hq
      · exact .inr (.inr fun r hr => Nat.ne_of_lt (l1 r (.tail _ hr)))
      rcases List.mem_cons.mp hq with rfl | hq
      · exact .inr (.inr fun r hr => Nat.ne_of_lt (l2 r (.tail _ hr)))
      · cases hq
    · exact Nat.lt_trans (l1 q (.tail _ hq)) l3
  · refine nestPhit (c' := c3) (ps := #[rawInt pos.line, rawInt pos.col, .ref c3]) F N T C hcd (.head _) ?_ ?_ hcl fun f ctv doc h' tk F' N' l => ?_
    · simp [TriplesOk, rawInt]
    · simp [codeAmong, rawInt]
    · exact h f c3 P3 oc3 _ ctv doc h' tk F' N' ⟨rfl, O⟩ (fun q hq => .inl hq) (fun q hq => l q (List.mem_append_right _ hq))
end
end
theorem flush16 {prog : PySem.Program} {w : PySem.World} {A : PySem.Around} {Q : Unit → PySem.Shared → Prop} {E : PySem.Value → PySem.Shared → Prop} {s : PySem.Shared} (h : Q () s) : PySem.wpAny (PySem.model prog w) A (pure ()) Q E s := by
  w_top off
  first | (walk1; fail) | exact PySem.wpAny_pure h
section
theorem wpC_to_any {M : Model} {A : Around} {s : Shared} {α : Type} {t : Sem α} {Q : α → Shared → Prop} (h : wpAny M A t Q (fun _ _ => False) s) : wpC M A t Q s := wpC_of_any h
theorem News.g1 {h₀ h : Heap} {L : Addr} {x y : Addr × Obj} {cs gt f pre : List (Addr × Obj)} (N : News h₀ L h ((x :: y :: (cs ++ (gt ++ f))) ++ pre)) : News h₀ L h (gt ++ (x :: y :: (cs ++ (f ++ pre)))) :=
  News.perm N fun q hq => by simp only [List.cons_append, List.mem_cons, List.mem_append] at hq ⊢; rcases hq with h | h | h | h | h | h <;> simp [h]
theorem mem_give {q y a b x d : Addr × Obj} {gt cs fixed pre : List (Addr × Obj)} (hq : q ∈ fixed) : q ∈ y :: (gt ++ (a :: b :: x :: d :: (cs ++ (fixed ++ pre)))) :=
  .tail _ (List.mem_append_right _ (.tail _ (.tail _ (.tail _ (.tail _ (List.mem_append_right _ (List.mem_append_left _ hq)))))))
theorem News.name {h₀ h : Heap} {L : Addr} {l pre : List (Addr × Obj)} (N : News h₀ L h (l ++ pre)) : ∃ led0, led0 = l ∧ News h₀ L h (led0 ++ pre) := ⟨l, rfl, N⟩
theorem News.g2 {h₀ h : Heap} {L : Addr} {f p c t b a x d : Addr × Obj} {cs fixed pre : List (Addr × Obj)} (N : News h₀ L h (f :: p :: c :: t :: b :: a :: x :: d :: (cs ++ (fixed ++ pre)))) : News h₀ L h ((f :: p :: c :: t :: b :: a :: x :: d :: (cs ++ fixed)) ++ pre) :=
  News.perm N fun q hq => by simp only [List.cons_append, List.mem_cons, List.mem_append] at hq ⊢; rcases hq with h | h | h | h | h | h | h | h | (h | h) | h <;> simp [h]
theorem News.g3 {h₀ h : Heap} {L : Addr} {f p c t b a x d : Addr × Obj} {cs fixed pre : List (Addr × Obj)} (N : News h₀ L h ((f :: p :: c :: t :: b :: a :: x :: d :: (cs ++ fixed)) ++ pre)) : News h₀ L h ((x :: d :: ([p, c, t] ++ fixed)) ++ pre) :=
  News.perm N fun q hq => by simp only [List.cons_append, List.nil_append, List.mem_cons, List.mem_append] at hq ⊢; rcases hq with h | h | h | h | h | h | h <;> simp [h]
theorem picked_small {T : Array UInt8} (hT : T.size ≤ 10) {a b : Option Int} : (PySem.W.KBy.picked T a b).size ≤ 1000 := by
  rw [PySem.W.KBc.picked_eq]
  have : T.toList.length = T.size := Array.length_toList
  simp
  omega
theorem give_c {V : Nat → Prop} {T P nw : Array UInt8} {lft : Bool} {oc0 : Value} {od0 an0 : Option Addr} {name0 qual0 n1 n2 n3 n4 q2 q3 : Str} {params0 pa1 pa3 : Arguments} {s1 s2 s4 s5 : Stmt} {b3 : List Stmt} {dl1 dl3 : List Expr} {r1 r3 : Option Expr} {tp1 tp3 : List TypeParam}
    {sc1 sc3 scope0 : Scope} {z1 z3 : Option Scope} {ps1 ps3 : Pos} {dV0 kV0 doc0 pm0 cdv0 ct0 dc nm ct : Value} {osl0 : Array (Option Value)}
    (hlook : (hd.heap_39 w.params).lookup 300 = some ⟨oc0, od0, .func (fnOf name0 qual0 params0 [s1, s2, .FunctionDef n1 pa1 [.FunctionDef n3 pa3 b3 dl3 r3 tp3 sc3 z3 n4 ps3, s5] dl1 r1 tp1 sc1 z1 n2 ps1, s4] scope0 dV0 kV0 doc0 pm0 an0 cdv0 ct0), osl0⟩)
    {x d g c2 P2 cm cn' cx : Nat} {oc2 om on ox : Obj} {k : Tk} {fixed : List (Addr × Obj)} {i e : Nat} {tk te tn tx : Tok} {ex : Nat → Array UInt8}
    (hT : T.size ≤ 10) (hi : i < T.size) (hq3 : q3 = (q2 ++ ".<locals>.") ++ n3)
    (hg : (g, fnMade n1 q2 pa1 [.FunctionDef n3 pa3 b3 dl3 r3 tp3 sc3 z3 n4 ps3, s5] sc1 [(Str.ofString "text", cx), (Str.ofString "news", cn'), (Str.ofString "matcher", cm)] dc nm c2 ct) ∈ fixed) (hc2 : (c2, oc2) ∈ fixed) (O2 : OcHd oc2 c2 P2 q2)
    (hcm : (cm, om) ∈ fixed) (hcn : (cn', on) ∈ fixed) (hcx : (cx, ox) ∈ fixed) (hom : om.data = .cell (some (.ref x))) (hon : on.data = .cell (some (.bytes nw tn))) (hox : ox.data = .cell (some (.bytes T tx)))
    (hfP : ∀ q ∈ fixed, q.1 ≠ P2) (hxP : x ≠ P2) (hdP : d ≠ P2)
    (hl : (∃ j, j < nw.size ∧ zat nw j = 37) → lft = true) (hex0 : V 0 ∧ ex 0 = #[]) (hexz : ∀ i, (ex i).size ≤ 1000) (hsz : nw.size ≤ 1000)
    (hex : ∀ j (hi : j < nw.size), V j → (zat nw j ≠ 37 ∧ V (j + 1) ∧ ex (j + 1) = (ex j).push (zat nw j).toNat.toUInt8) ∨ (zat nw j = 37 ∧ j + 1 < nw.size ∧ zat nw (j + 1) = 49 ∧ V (j + 2) ∧ ex (j + 2) = ex j ++ PySem.W.KBy.picked T (some (i : Int)) (some ((i : Int) + 1)))) :
    CallC 400 w p loose mean mg mb g [.int i tk, .int e te] (fun led => ∃ gt, GT P2 ps3 q3 gt ∧ (∀ q ∈ gt, q.1 ≠ d) ∧ EndsJ w T P k x d lft i (gt ++ fixed) led)
      (fun v led => (∃ t, v = .bytes (ex nw.size) t) ∧ ∃ gt, GT P2 ps3 q3 gt ∧ (∀ q ∈ gt, q.1 ≠ d) ∧ EndsI w T P k x d (gt ++ fixed) led) := by
  subst hq3
  intro dp un gd cn csn csg csc csm a' ccd cl outer A₀ base h₀ L m s Q pre led B F X N TT hI hD hdp hun hret
  refine Classical.byContradiction fun hG0 => ?_
  obtain ⟨gt, hG, hgd, dep, td, vl, vs, ve, cs, rfl, hcaps, hcf⟩ := hI
  refine hG0 ?_
  clear hG0
  have NN := News.g1 N
  have hg' := NN _ (List.mem_append_right gt (.tail _ (.tail _ (List.mem_append_right cs (List.mem_append_left pre hg)))))
  have hc' := NN _ (List.mem_append_right gt (.tail _ (.tail _ (List.mem_append_right cs (List.mem_append_left pre hc2)))))
  clear N
  revert X; k_fill; intro X
  have hl' := hlook.symm.trans (show (hd.heap_39 w.params).lookup 300 = some _ by k_is)
  have e0 := ob_eqs hl'
  have f1 := fd_eqs (List.head_eq_of_cons_eq (List.tail_eq_of_cons_eq (List.tail_eq_of_cons_eq e0.2.2.1)))
  have f3 := fd_eqs (List.head_eq_of_cons_eq f1.2.2.1)
  have f4 := fd_rest (List.head_eq_of_cons_eq f1.2.2.1)
  have y1 := f1.1
  have y2 := f1.2.1
  have y3 := f1.2.2.2.1
  have y4 := List.head_eq_of_cons_eq (List.tail_eq_of_cons_eq f1.2.2.1)
  have x1 := f3.1
  have x2 := f3.2.1
  have x3 := f3.2.2.1
  have x4 := f3.2.2.2.1
  have x5 := f3.2.2.2.2
  have z1 := f4.1
  have z2 := f4.2.1
  have z3 := f4.2.2.1
  have z4 := f4.2.2.2.1
  have z5 := f4.2.2.2.2
  clear e0 f1 f3 f4 hl' hlook
  subst y1 y2 y3 y4 x1 x2 x3 x4 x5 z1 z2 z3 z4 z5
  refine wpC_call ?_
  k_dflt (refine' defC_two ?k1 ?k2 ?k4 ?k5 ?kA ?kF ?kK ?k6 ?k6b ?k7 ?k8 ?k9 ?h1 ?h2 ?h3 ?h4 ?h5 ?_ ?c2 ?c3 ?c4)
  (case kA => exact rfl)
  (case kF => exact rfl)
  (case kK => exact rfl)
  (case k1 => k_asm)
  (case k2 => k_asm)
  (case k4 => exact NN)
  (case k5 => exact TT.nolimit)
  (case k6 => exact hg'.1)
  (case k6b => exact rfl)
  (case k7 => exact OcHd.rec O2 hc'.1)
  (case k8 => ktr_room)
  (case k9 => exact BindsTo.of_eq rfl)
  (case h1 => exact fun _ => rfl)
  (case h2 => exact fun _ => rfl)
  (case h3 => exact rfl)
  (case h4 => exact rfl)
  (case h5 => exact rfl)
  (case c2 => exact rfl)
  (case c3 => exact rfl)
  (case c4 => exact rfl)
  intro g' L' h1 o1 o2 FG' F1 N1 d1 d2 B1 st lt
  have X1 := X.keeps st
  have T1 := TT.keeps st
  try dsimp only
  try k_lift B1
  refine wpC_cons (wpC_of_any ?_)
  k_dflt (refine' nestDef_K ?d0 ?k0 ?a0 ?_; (case d0 => exact rfl); (case k0 => exact rfl); (case a0 => exact rfl))
  have hP2 : ∃ o, (P2, o) ∈ gt := by
    rcases hG with rfl | ⟨c3, P3, oc3, rfl, _⟩
    · exact ⟨_, .head _⟩
    · exact ⟨_, .head _⟩
  obtain ⟨oP, hP2⟩ := hP2
  have ltP : P2 < L' := lt _ (List.mem_append_left _ hP2)
  have hrest : ∀ q ∈ (L' + 1 + 1, o2) :: (L' + 1, o1) :: (x, instObj 282 d) :: (d, mK w T P k dep td vl vs ve) :: (cs ++ (fixed ++ pre)), q.1 ≠ P2 := fun q hq => by
    rcases List.mem_cons.mp hq with rfl | hq
    · show L' + 1 + 1 ≠ P2; exact Nat.ne_of_gt (by omega)
    rcases List.mem_cons.mp hq with rfl | hq
    · show L' + 1 ≠ P2; exact Nat.ne_of_gt (by omega)
    rcases List.mem_cons.mp hq with rfl | hq
    · exact hxP
    rcases List.mem_cons.mp hq with rfl | hq
    · exact hdP
    rcases List.mem_append.mp hq with hq | hq
    · exact (hcf q hq _ (List.mem_append_left _ hP2)).symm
    rcases List.mem_append.mp hq with hq | hq
    · exact hfP q hq
    · exact hD q hq _ (.tail _ (.tail _ (List.mem_append_right _ (List.mem_append_left _ hP2))))
  have mc2 : (c2, oc2) ∈ (L' + 1 + 1, o2) :: (L' + 1, o1) :: (gt ++ (x, instObj 282 d) :: (d, mK w T P k dep td vl vs ve) :: (cs ++ (fixed ++ pre))) :=
    .tail _ (.tail _ (List.mem_append_right gt (.tail _ (.tail _ (List.mem_append_right cs (List.mem_append_left pre hc2))))))
  k_dflt (refine' nestG ?G ?F ?N ?T ?C ?cd ?r ?cl ?e ?_)
  (case G => exact hG)
  (case F => exact F1)
  (case T => exact T1)
  (case r => exact hrest)
  (case N => exact News.perm N1 fun q hq => by simp only [List.mem_cons, List.mem_append] at hq ⊢; rcases hq with h | h | h | h | h | h | h | h <;> simp [h])
  (case C => exact OcHd.code O2 (N1 _ mc2).1)
  (case cd => exact rfl)
  (case cl => exact rfl)
  (case e => exact rfl)
  intro f c3 P3 oc3 gt' ctv doc h2 tk2 F2 N2 G1 hgt' lf
  obtain ⟨rfl, O3⟩ := G1
  have N3 := News.add N2 (mem_give hcn)
  simp only [List.cons_append, List.nil_append] at N3
  have CH := OcHd.code O2 (N2 _ (mem_give hc2)).1
  clear N1
  k_steps
  dsimp only [nextC]
  refine wpC_cons (wpC_Return (wpC_CallName ?_))
  k_steps
  refine wpC_callWith (P := FnAt 36) rfl keeps_F (wpC_of_any ?_)
  k_steps
  all_goals (with_reducible rename News g' L' _ _ => kN)
  all_goals (with_reducible rename Fr g' L' _ _ => kF)
  · exact ⟨_, _, _, _, (X1.keeps (Fr.keep kF)) _ _ (show (hd.heap_39 w.params).lookup 36 = some _ by k_is)⟩
  obtain ⟨led0, hled, N5⟩ := News.name (News.g2 (News.tail' kN))
  have hD0 : Disj pre led0 := by
    subst hled
    intro p hp q hq
    have hpr : p ∈ (L' + 1 + 1, o2) :: (L' + 1, o1) :: (x, instObj 282 d) :: (d, mK w T P k dep td vl vs ve) :: (cs ++ (fixed ++ pre)) := .tail _ (.tail _ (.tail _ (.tail _ (List.mem_append_right _ (List.mem_append_right _ hp)))))
    have hpl : p.1 < L' := lt p (List.mem_append_right _ (.tail _ (.tail _ (List.mem_append_right _ (List.mem_append_right _ hp)))))
    rcases List.mem_cons.mp hq with rfl | hq
    · exact Nat.ne_of_lt (lf p hpr)
    have three : ∀ q ∈ [(P2, tabObj #[rawInt _, rawInt _, .ref c3]), (c3, oc3), (P3, tabObj #[])], p.1 ≠ q.1 := fun q hq => by
      rcases hgt' q hq with h | h | h
      · exact hD p hp q (.tail _ (.tail _ (List.mem_append_right _ (List.mem_append_left _ h))))
      · rw [h]; exact hrest p hpr
      · exact h p hpr
    rcases List.mem_cons.mp hq with rfl | hq
    · exact three _ (.head _)
    rcases List.mem_cons.mp hq with rfl | hq
    · exact three _ (.tail _ (.head _))
    rcases List.mem_cons.mp hq with rfl | hq
    · exact three _ (.tail _ (.tail _ (.head _)))
    rcases List.mem_cons.mp hq with rfl | hq
    · exact Nat.ne_of_lt (Nat.lt_trans hpl (Nat.lt_succ_of_lt (Nat.lt_succ_self _)))
    rcases List.mem_cons.mp hq with rfl | hq
    · exact Nat.ne_of_lt (Nat.lt_trans hpl (Nat.lt_succ_self _))
    rcases List.mem_cons.mp hq with rfl | hq
    · exact hD p hp _ (.head _)
    rcases List.mem_cons.mp hq with rfl | hq
    · exact hD p hp _ (.tail _ (.head _))
    rcases List.mem_append.mp hq with hq | hq
    · exact hD p hp _ (.tail _ (.tail _ (List.mem_append_left _ hq)))
    · exact hD p hp _ (.tail _ (.tail _ (List.mem_append_right _ (List.mem_append_right _ hq))))
  k_dflt (refine expanded_c (I := fun led => led = led0) (hv := PySem.W.KBy.picked T (some (i : Int)) (some ((i : Int) + 1))) ex ?H ?hfn hex0 hexz ?hvz hsz hex (pre := pre) (led := led0) (by k_asm) (by k_asm) (by k_asm) N5 (by k_asm) rfl hD0 (by ktr_room) (by ktr_units) ?_)
  case H =>
    intro hj tk
    have hlt := hl hj
    rcases hcaps with ⟨h, _⟩ | ⟨_, tv, aa, bb, ta, tb, rfl, rfl, rfl, rfl⟩
    · rw [h] at hlt; cases hlt
    subst hled
    intro dp0 un0 gd0 cn0 csn0 csg0 csc0 csm0 a0 ccd0 cl0 outer0 A0 base0 h0 L0 m0 s0 Q0 pre0 led1
    refine' held_c (show (hd.heap_39 w.params).lookup 300 = some _ by k_is) hi hT ?m1 ?m2 ?m3 ?m4 ?m5 ?m6 ?m7 ?m8 ?m9 ?m10 d1 d2 hom
    case m1 => exact .tail _ (.tail _ (.tail _ (.tail _ (.tail _ (.tail _ (.head _))))))
    case m2 => exact .tail _ (.tail _ (.tail _ (.tail _ (.tail _ (.tail _ (.tail _ (.head _)))))))
    case m3 => exact .tail _ (.tail _ (.tail _ (.tail _ (.tail _ (.tail _ (.tail _ (.tail _ (.head _))))))))
    case m4 => exact .tail _ (.tail _ (.tail _ (.tail _ (.tail _ (.tail _ (.tail _ (.tail _ (.tail _ (.head _)))))))))
    case m5 => exact .head _
    case m6 => exact .tail _ (.tail _ (.head _))
    case m7 => exact O3
    case m8 => exact .tail _ (.tail _ (.tail _ (.tail _ (.tail _ (.head _)))))
    case m9 => exact .tail _ (.tail _ (.tail _ (.tail _ (.head _))))
    case m10 => exact .tail _ (.tail _ (.tail _ (.tail _ (.tail _ (.tail _ (.tail _ (.tail _ (List.mem_append_right _ hcm))))))))
  case hfn =>
    intro led h₀ L h he N
    subst he hled
    exact FnAt.of N (.head _)
  case hvz => exact picked_small hT
  rintro v h5 tk5 led5 F5 N5 ⟨⟨t5, rfl⟩, rfl⟩ hD5
  dsimp only [nextC]
  k_steps
  show Q _ _
  clear kN kF
  (with_reducible rename News h₀ L _ _ => kN)
  (with_reducible rename Fr h₀ L _ _ => kF)
  subst hled
  have hgd' : ∀ q ∈ [(P2, tabObj #[rawInt _, rawInt _, .ref c3]), (c3, oc3), (P3, tabObj #[])], q.1 ≠ d := fun q hq => by
    rcases hgt' q hq with h | h | h
    · exact hgd q h
    · rw [h]; exact hdP.symm
    · exact (h (d, _) (.tail _ (.tail _ (.tail _ (.head _))))).symm
  exact hret _ _ _ _ kF (News.g3 kN) ⟨⟨_, rfl⟩, _, .inr ⟨c3, P3, oc3, rfl, O3⟩, hgd', ⟨_, _, _, _, _, rfl⟩⟩ (fun p hp q hq => by
    rcases List.mem_cons.mp hq with rfl | hq
    · exact hD p hp _ (.head _)
    rcases List.mem_cons.mp hq with rfl | hq
    · show p.1 ≠ d; exact hD p hp _ (.tail _ (.head _))
    rcases List.mem_append.mp hq with hq | hq
    · exact hD0 p hp q (.tail _ (by
        rcases List.mem_cons.mp hq with rfl | hq
        · exact .head _
        rcases List.mem_cons.mp hq with rfl | hq
        · exact .tail _ (.head _)
        rcases List.mem_cons.mp hq with rfl | hq
        · exact .tail _ (.tail _ (.head _))
        · cases hq))
    · exact hD p hp _ (.tail _ (.tail _ (List.mem_append_right _ (List.mem_append_right _ hq)))))
end
theorem flush17 {prog : PySem.Program} {w : PySem.World} {A : PySem.Around} {Q : Unit → PySem.Shared → Prop} {E : PySem.Value → PySem.Shared → Prop} {s : PySem.Shared} (h : Q () s) : PySem.wpAny (PySem.model prog w) A (pure ()) Q E s := by
  w_top off
  first | (walk1; fail) | exact PySem.wpAny_pure h
section
/-- the code table of _law_done: nothing, or ends_at's and give's codes -/
def CT2 (P0 : Nat) (ps1 ps2 ps3 : Pos) (q1 q2 q3 : Str) (c1 : Nat) (oc1 : Obj) (P1 c2 : Nat) (oc2 : Obj) (P2 : Nat) (gt led : List (Addr × Obj)) : Prop :=
  led = (P0, tabObj #[rawInt ps1.line, rawInt ps1.col, .ref c1, rawInt ps2.line, rawInt ps2.col, .ref c2]) :: (c1, oc1) :: (P1, tabObj #[]) :: (c2, oc2) :: gt ∧ OcHd oc1 c1 P1 q1 ∧ OcHd oc2 c2 P2 q2 ∧ GT P2 ps3 q3 gt ∧ P0 ≠ P2 ∧ c1 ≠ P2 ∧ P1 ≠ P2 ∧ c2 ≠ P2
def CT (P0 : Nat) (ps1 ps2 ps3 : Pos) (q1 q2 q3 : Str) (led : List (Addr × Obj)) : Prop :=
  led = [(P0, tabObj #[])] ∨ ∃ c1 oc1 P1 c2 oc2 P2 gt, CT2 P0 ps1 ps2 ps3 q1 q2 q3 c1 oc1 P1 c2 oc2 P2 gt led
def CT1 (P0 : Nat) (ps1 ps2 ps3 : Pos) (q1 q2 q3 : Str) (c1 : Nat) (oc1 : Obj) (P1 : Nat) (led : List (Addr × Obj)) : Prop :=
  (led = [(P0, tabObj #[rawInt ps1.line, rawInt ps1.col, .ref c1]), (c1, oc1), (P1, tabObj #[])] ∧ OcHd oc1 c1 P1 q1 ∧ P0 ≠ P1 ∧ P0 ≠ c1) ∨ ∃ c2 oc2 P2 gt, CT2 P0 ps1 ps2 ps3 q1 q2 q3 c1 oc1 P1 c2 oc2 P2 gt led
section
variable {M : Model} {A : Around} {E : Value → Shared → Prop} {s : Shared} {h₀ : Heap} {L a c P : Addr} {m mg mb : Str → Option Value} {cn : Str} {cs : Scope} {ccd : Value} {cl : List (Str × Addr)} {rest : List (Addr × Obj)}
  {p : Program} {loose : List Str} {mean : ExcName → Option Value} {name q1 q2 q3 : Str} {params : Arguments} {body : List Stmt} {scope : Scope} {ps1 ps2 ps3 : Pos} {firstLine : Nat} {clos : List (Str × Addr)}
theorem disj_new {a b c : Addr × Obj} {f : Nat} {o : Obj} {rest : List (Addr × Obj)} (ha : ∀ r ∈ rest, r.1 ≠ a.1) (hb : ∀ r ∈ rest, r.1 ≠ b.1) (hc : ∀ r ∈ rest, r.1 ≠ c.1) (fa : f ≠ a.1) (fb : f ≠ b.1) (fc : f ≠ c.1) : Disj ((f, o) :: rest) [a, b, c] := fun p hp q hq => by
  rcases List.mem_cons.mp hp with rfl | hp
  · rcases List.mem_cons.mp hq with rfl | hq
    · exact fa
    rcases List.mem_cons.mp hq with rfl | hq
    · exact fb
    rcases List.mem_cons.mp hq with rfl | hq
    · exact fc
    · cases hq
  · rcases List.mem_cons.mp hq with rfl | hq
    · exact ha p hp
    rcases List.mem_cons.mp hq with rfl | hq
    · exact hb p hp
    rcases List.mem_cons.mp hq with rfl | hq
    · exact hc p hp
    · cases hq
/-- the def of ends_at -/
theorem nestE {Q : Value → Shared → Prop} {P0 : Nat} {led : List (Addr × Obj)} (hG : CT P0 ps1 ps2 ps3 q1 q2 q3 led) (F : Fr h₀ L s.heap m) (N : News h₀ L s.heap (led ++ rest)) (T : Top p loose mean mg mb h₀) (C : CodeHd s.heap c P0) (hcd : ccd = .ref c) (hD : Disj rest led)
    (hcl : closureFor scope (envX cn cs L a ccd cl) = pure clos) (hne : clos.isEmpty = false)
    (h : ∀ (f c1 P1 : Nat) oc1 led' ctv doc h' tk, Fr h₀ L h' m → News h₀ L h' ((f, fnMade name q1 params body scope clos doc ((mg "__name__").getD .none) c1 ctv) :: (led' ++ rest)) →
      CT1 P0 ps1 ps2 ps3 q1 q2 q3 c1 oc1 P1 led' → Disj ((f, fnMade name q1 params body scope clos doc ((mg "__name__").getD .none) c1 ctv) :: rest) led' → (∀ q ∈ rest, @LT.lt Nat _ q.1 f) → Q (.ref f) { s with heap := h', toks := tk }) :
    wpAny M A (makeFunction name q1 params (.stmts body) scope (envX cn cs L a ccd cl) [] [] [] ps1 firstLine) Q E s := by
  rcases hG with rfl | ⟨c1, oc1, P1, c2, oc2, P2, gt, rfl, O1, O2, hGt, n1, n2, n3, n4⟩
  · have hr : ∀ r ∈ rest, r.1 ≠ P0 := fun r hr => hD r hr _ (.head _)
    refine nestP F N T C hcd (.head hr) trivial rfl hcl hne fun f c' P' oc ctv doc h' tk F' N' O' l1 l2 l3 l4 l5 => ?_
    have k1 : @LT.lt Nat _ P0 c' := l1 _ (.head _)
    have k2 : @LT.lt Nat _ P0 P' := l2 _ (.head _)
    have k3 : @LT.lt Nat _ c' f := l3
    have k4 : @LT.lt Nat _ P' f := l4
    refine h f c' P' oc [(P0, tabObj #[rawInt ps1.line, rawInt ps1.col, .ref c']), (c', oc), (P', tabObj #[])] ctv doc h' tk F' (News.perm (show News h₀ L h' ((f, _) :: (c', oc) :: (P', tabObj #[]) :: (P0, tabObj #[rawInt ps1.line, rawInt ps1.col, .ref c']) :: rest) from N') fun q hq => ?_)
      (.inl ⟨rfl, O', Nat.ne_of_lt k2, Nat.ne_of_lt k1⟩) (disj_new hr (fun r hr => Nat.ne_of_lt (l1 r (.tail _ hr))) (fun r hr => Nat.ne_of_lt (l2 r (.tail _ hr))) (Nat.ne_of_gt (Nat.lt_trans k1 k3)) (Nat.ne_of_gt k3) (Nat.ne_of_gt k4)) (fun q hq => ?_)
    · simp only [List.cons_append, List.nil_append, List.mem_cons] at hq ⊢
      rcases hq with h | h | h | h | h
      · exact .inl h
      · exact .inr (.inr (.inr (.inl h)))
      · exact .inr (.inl h)
      · exact .inr (.inr (.inl h))
      · exact .inr (.inr (.inr (.inr h)))
    · exact Nat.lt_trans (l1 q (.tail _ hq)) l3
  · refine nestPhit (c' := c1) (ps := #[rawInt ps1.line, rawInt ps1.col, .ref c1, rawInt ps2.line, rawInt ps2.col, .ref c2]) F N T C hcd (.head _) ?_ ?_ hcl fun f ctv doc h' tk F' N' l => ?_
    · simp [TriplesOk, rawInt]
    · simp [codeAmong, rawInt]
    · exact h f c1 P1 oc1 _ ctv doc h' tk F' N' (.inr ⟨c2, oc2, P2, gt, rfl, O1, O2, hGt, n1, n2, n3, n4⟩)
        (fun p hp q hq => by
          rcases List.mem_cons.mp hp with rfl | hp
          · exact Nat.ne_of_gt (l q (List.mem_append_left _ hq))
          · exact hD p hp q hq) (fun q hq => l q (List.mem_append_right _ hq))
/-- the def of give -/
theorem nestF {Q : Value → Shared → Prop} {P0 c1 P1 : Nat} {oc1 : Obj} {led : List (Addr × Obj)} (hG : CT1 P0 ps1 ps2 ps3 q1 q2 q3 c1 oc1 P1 led) (hps : ((ps2.line : Int) == ps1.line && (ps2.col : Int) == ps1.col) = false) (F : Fr h₀ L s.heap m) (N : News h₀ L s.heap (led ++ rest)) (T : Top p loose mean mg mb h₀) (C : CodeHd s.heap c P0) (hcd : ccd = .ref c) (hD : Disj rest led)
    (hcl : closureFor scope (envX cn cs L a ccd cl) = pure clos) (hne : clos.isEmpty = false)
    (h : ∀ (f c2 P2 : Nat) oc2 gt led' ctv doc h' tk, Fr h₀ L h' m → News h₀ L h' ((f, fnMade name q2 params body scope clos doc ((mg "__name__").getD .none) c2 ctv) :: (led' ++ rest)) →
      CT2 P0 ps1 ps2 ps3 q1 q2 q3 c1 oc1 P1 c2 oc2 P2 gt led' → Disj ((f, fnMade name q2 params body scope clos doc ((mg "__name__").getD .none) c2 ctv) :: rest) led' → (∀ q ∈ rest, @LT.lt Nat _ q.1 f) → Q (.ref f) { s with heap := h', toks := tk }) :
    wpAny M A (makeFunction name q2 params (.stmts body) scope (envX cn cs L a ccd cl) [] [] [] ps2 firstLine) Q E s := by
  rcases hG with ⟨rfl, O1, m1, m2⟩ | ⟨c2, oc2, P2, gt, rfl, O1, O2, hGt, n1, n2, n3, n4⟩
  · have hr : ∀ r ∈ [(c1, oc1), (P1, tabObj #[])] ++ rest, r.1 ≠ P0 := fun r hr => by
      rcases List.mem_append.mp hr with hr | hr
      · rcases List.mem_cons.mp hr with rfl | hr
        · exact m2.symm
        rcases List.mem_cons.mp hr with rfl | hr
        · exact m1.symm
        · cases hr
      · exact hD r hr _ (.head _)
    refine nestP (ps := #[rawInt ps1.line, rawInt ps1.col, .ref c1]) F N T C hcd (.head hr) ?_ ?_ hcl hne fun f c' P' oc ctv doc h' tk F' N' O' l1 l2 l3 l4 l5 => ?_
    · simp [TriplesOk, rawInt]
    · simp only [codeAmong, rawInt]
      simp at hps ⊢
      exact fun h1 h2 => hps h1.symm h2.symm
    have k3 : @LT.lt Nat _ c' f := l3
    have k4 : @LT.lt Nat _ P' f := l4
    have u0 : @LT.lt Nat _ P0 c' := l1 _ (.head _)
    have u1 : @LT.lt Nat _ c1 c' := l1 _ (.tail _ (.head _))
    have u2 : @LT.lt Nat _ P1 c' := l1 _ (.tail _ (.tail _ (.head _)))
    have v0 : @LT.lt Nat _ P0 P' := l2 _ (.head _)
    have v1 : @LT.lt Nat _ c1 P' := l2 _ (.tail _ (.head _))
    have v2 : @LT.lt Nat _ P1 P' := l2 _ (.tail _ (.tail _ (.head _)))
    refine h f c' P' oc [(P', tabObj #[])] [(P0, tabObj #[rawInt ps1.line, rawInt ps1.col, .ref c1, rawInt ps2.line, rawInt ps2.col, .ref c']), (c1, oc1), (P1, tabObj #[]), (c', oc), (P', tabObj #[])] ctv doc h' tk F'
      (News.perm (show News h₀ L h' ((f, _) :: (c', oc) :: (P', tabObj #[]) :: (P0, tabObj #[rawInt ps1.line, rawInt ps1.col, .ref c1, rawInt ps2.line, rawInt ps2.col, .ref c']) :: (c1, oc1) :: (P1, tabObj #[]) :: rest) from N') fun q hq => ?_)
      ⟨rfl, O1, O', .inl rfl, Nat.ne_of_lt v0, Nat.ne_of_lt v1, Nat.ne_of_lt v2, l5⟩ (fun p hp q hq => ?_) (fun q hq => ?_)
    · simp only [List.cons_append, List.nil_append, List.mem_cons] at hq ⊢
      rcases hq with h | h | h | h | h | h | h <;> simp [h]
    · rcases List.mem_cons.mp hp with rfl | hp
      · show f ≠ q.1
        refine Nat.ne_of_gt ?_
        rcases List.mem_cons.mp hq with rfl | hq
        · exact Nat.lt_trans u0 k3
        rcases List.mem_cons.mp hq with rfl | hq
        · exact Nat.lt_trans u1 k3
        rcases List.mem_cons.mp hq with rfl | hq
        · exact Nat.lt_trans u2 k3
        rcases List.mem_cons.mp hq with rfl | hq
        · exact k3
        rcases List.mem_cons.mp hq with rfl | hq
        · exact k4
        · cases hq
      · rcases List.mem_cons.mp hq with rfl | hq
        · show p.1 ≠ P0; exact hD p hp _ (.head _)
        rcases List.mem_cons.mp hq with rfl | hq
        · exact hD p hp _ (.tail _ (.head _))
        rcases List.mem_cons.mp hq with rfl | hq
        · exact hD p hp _ (.tail _ (.tail _ (.head _)))
        rcases List.mem_cons.mp hq with rfl | hq
        · exact Nat.ne_of_lt (l1 p (.tail _ (.tail _ (.tail _ hp))))
        rcases List.mem_cons.mp hq with rfl | hq
        · exact Nat.ne_of_lt (l2 p (.tail _ (.tail _ (.tail _ hp))))
        · cases hq
    · exact Nat.lt_trans (l1 q (.tail _ (.tail _ (.tail _ hq)))) l3
  · refine nestPhit (c' := c2) (ps := #[rawInt ps1.line, rawInt ps1.col, .ref c1, rawInt ps2.line, rawInt ps2.col, .ref c2]) F N T C hcd (.head _) ?_ ?_ hcl fun f ctv doc h' tk F' N' l => ?_
    · simp [TriplesOk, rawInt]
    · have hps' : ¬ ((ps1.line : Int) = ps2.line ∧ (ps1.col : Int) = ps2.col) := fun e => by
        rw [e.1, e.2] at hps; simp at hps
      simp [codeAmong, rawInt]
      first | done | (intro h1 h2; exact absurd ⟨by omega, by omega⟩ hps') | skip
    · exact h f c2 P2 oc2 gt _ ctv doc h' tk F' N' ⟨rfl, O1, O2, hGt, n1, n2, n3, n4⟩
        (fun p hp q hq => by
          rcases List.mem_cons.mp hp with rfl | hp
          · exact Nat.ne_of_gt (l q (List.mem_append_left _ hq))
          · exact hD p hp q hq) (fun q hq => l q (List.mem_append_right _ hq))
end
end
theorem flush18 {prog : PySem.Program} {w : PySem.World} {A : PySem.Around} {Q : Unit → PySem.Shared → Prop} {E : PySem.Value → PySem.Shared → Prop} {s : PySem.Shared} (h : Q () s) : PySem.wpAny (PySem.model prog w) A (pure ()) Q E s := by
  w_top off
  first | (walk1; fail) | exact PySem.wpAny_pure h
section
theorem done_tail {T P Nw : Array UInt8} {lft : Bool} {ps3 : Pos} {q3 : Str} {tT t99 : Tok} {x d e g P2 : Nat} {k : Tk} {fixed gt pre : List (Addr × Obj)} {dep : Int} {td : Tok} {vl vs ve : Value}
    (Pp : Nat → Prop) (res : Nat → Option Nat) (ex : Nat → Nat → Array UInt8) (fo : Nat → Array UInt8) (co : Nat → Nat)
    (HE : ∀ gt (i : Nat) tk, i ≤ T.size → (∀ q ∈ gt ++ fixed, q.1 ≠ d) → CallAny w p loose mean mg mb e [.int i tk] (EndsI w T P k x d (gt ++ fixed)) (fun v led => (res i = none ∧ v = .none ∧ EndsI w T P k x d (gt ++ fixed) led) ∨ ∃ e' t, res i = some e' ∧ v = .int (e' : Nat) t ∧ EndsJ w T P k x d lft i (gt ++ fixed) led))
    (HG : ∀ (i e' : Nat) tk te, i < T.size → CallC 400 w p loose mean mg mb g [.int i tk, .int e' te] (fun led => ∃ gt, GT P2 ps3 q3 gt ∧ (∀ q ∈ gt, q.1 ≠ d) ∧ EndsJ w T P k x d lft i (gt ++ fixed) led)
      (fun v led => (∃ t, v = .bytes (ex i Nw.size) t) ∧ ∃ gt, GT P2 ps3 q3 gt ∧ (∀ q ∈ gt, q.1 ≠ d) ∧ EndsI w T P k x d (gt ++ fixed) led))
    (hfe : ∃ n q pa b sc cl dc nm c ct, (e, fnMade n q pa b sc cl dc nm c ct) ∈ fixed) (hfg : ∃ n q pa b sc cl dc nm c ct, (g, fnMade n q pa b sc cl dc nm c ct) ∈ fixed)
    (hfd : ∀ q ∈ fixed, q.1 ≠ d) (hGT : GT P2 ps3 q3 gt) (hgd : ∀ q ∈ gt, q.1 ≠ d)
    (hT : T.size ≤ 10) (hexz : ∀ i j, (ex i j).size ≤ 1000)
    (h0 : Pp 0 ∧ fo 0 = #[] ∧ co 0 = 0) (hfz : ∀ i, (fo i).size ≤ 1000) (hco : ∀ i, co i ≤ 50)
    (hs : ∀ i e, Pp i → res i = some e → i < e ∧ e ≤ T.size ∧ Pp e ∧ fo e = fo i ++ ex i Nw.size ∧ co e = co i + 1)
    (hn : ∀ i, Pp i → res i = none → i < T.size → Pp (i + 1) ∧ fo (i + 1) = (fo i).push (zat T i).toNat.toUInt8 ∧ co (i + 1) = co i)
    (B : Below A₀ base outer h₀) (F : Fr h₀ L s.heap m) (X : (hd.heap_39 w.params).In h₀) (N : News h₀ L s.heap ((x, instObj 282 d) :: (d, mK w T P k dep td vl vs ve) :: (gt ++ fixed) ++ pre)) (TT : Top p loose mean mg mb h₀)
    (hD : Disj pre ((x, instObj 282 d) :: (d, mK w T P k dep td vl vs ve) :: (gt ++ fixed))) (hdp : dp + 605 < recursionLimit) (hun : un + 1700 < cLine) {Q : Value → Shared → Prop}
    (hret : ∀ (t : Nat) tb tc h' tk' gt' dep' td' vl' vs' ve', Fr h₀ L h' m → News h₀ L h' ((t, { cls := .type "tuple", data := .seq #[.bytes (fo T.size) tb, .int (co T.size : Nat) tc] }) :: ((x, instObj 282 d) :: (d, mK w T P k dep' td' vl' vs' ve') :: (gt' ++ fixed)) ++ pre) →
      GT P2 ps3 q3 gt' → Disj pre (gt' ++ fixed) → Q (.ref t) { s with heap := h', toks := tk' }) :
    wpC (model PySem.Challenge.rw_tk0057_01.row.prog w) (ktrTop dp un gd cn { kind := .function, names := csn, isGenerator := csg, isCoroutine := csc, more := csm } L a ccd cl outer) (call (.ref 43) [.bytes T tT, .int 99 t99, .bool false, .ref e, .ref g]) Q s := by
  refine replaced_c (I := fun led => ∃ gt, GT P2 ps3 q3 gt ∧ (∀ q ∈ gt, q.1 ≠ d) ∧ EndsI w T P k x d (gt ++ fixed) led) (J := fun i led => ∃ gt, GT P2 ps3 q3 gt ∧ (∀ q ∈ gt, q.1 ≠ d) ∧ EndsJ w T P k x d lft i (gt ++ fixed) led)
    Pp res (fun i => ex i Nw.size) fo co ?HE ?HG ?hfn ?hgn h0 hfz (fun i => hexz i _) (by omega) hco hs hn B F X N TT ⟨gt, hGT, hgd, _, _, _, _, _, rfl⟩ hD (by omega) (by omega) ?_
  case HE =>
    intro i tk hi _ dp un gd cn csn csg csc csm a ccd cl outer A₀ base h₀ L m s Q pre led B F X N TT hI hD hdp hun hret
    obtain ⟨gt, hG, hgd, hI⟩ := hI
    refine HE gt i tk hi (fun q hq => ?_) B F X N TT hI hD hdp hun (fun v h' tk' led' F' N' J' D' => hret v h' tk' led' F' N' ?_ D')
    · rcases List.mem_append.mp hq with hq | hq
      · exact hgd q hq
      · exact hfd q hq
    · rcases J' with ⟨a, b, c⟩ | ⟨e', t, a, b, c⟩
      · exact .inl ⟨a, b, gt, hG, hgd, c⟩
      · exact .inr ⟨e', t, a, b, gt, hG, hgd, c⟩
  case HG =>
    intro i e' tk te hr hP
    obtain ⟨h1, h2, _⟩ := hs i e' hP hr
    exact HG i e' tk te (by omega)
  case hfn =>
    rintro led h₀ L h ⟨gt, _, _, _, _, _, _, _, rfl⟩ N
    obtain ⟨_, _, _, _, _, _, _, _, _, _, hm⟩ := hfe
    exact FnAt.of N (.tail _ (.tail _ (List.mem_append_right _ hm)))
  case hgn =>
    rintro i led h₀ L h ⟨gt, _, _, _, _, _, _, _, cs, rfl, _⟩ N
    obtain ⟨_, _, _, _, _, _, _, _, _, _, hm⟩ := hfg
    exact FnAt.of N (.tail _ (.tail _ (List.mem_append_right _ (List.mem_append_right _ hm))))
  · rintro v h' tk' led' F' N' ⟨t, tb, tc, led2, rfl, rfl, gt', hG', hgd', dep', td', vl', vs', ve', rfl⟩ D'
    exact hret t tb tc h' tk' gt' dep' td' vl' vs' ve' F' N' hG' (fun p hp q hq => D' p hp q (.tail _ (.tail _ (.tail _ hq))))
end
theorem flush19 {prog : PySem.Program} {w : PySem.World} {A : PySem.Around} {Q : Unit → PySem.Shared → Prop} {E : PySem.Value → PySem.Shared → Prop} {s : PySem.Shared} (h : Q () s) : PySem.wpAny (PySem.model prog w) A (pure ()) Q E s := by
  w_top off
  first | (walk1; fail) | exact PySem.wpAny_pure h
section
theorem News.e1 {h₀ h : Heap} {L : Addr} {a b c d e f g : Addr × Obj} {led pre : List (Addr × Obj)} (N : News h₀ L h (a :: b :: c :: d :: e :: f :: g :: (led ++ pre))) : News h₀ L h (led ++ (a :: b :: c :: d :: e :: f :: g :: pre)) :=
  News.perm N fun q hq => by simp only [List.mem_cons, List.mem_append] at hq ⊢; rcases hq with h | h | h | h | h | h | h | h | h <;> simp [h]
theorem News.e2 {h₀ h : Heap} {L : Addr} {z y a b c d e f g : Addr × Obj} {led pre : List (Addr × Obj)} (N : News h₀ L h (z :: (led ++ (y :: a :: b :: c :: d :: e :: f :: g :: pre)))) : News h₀ L h (z :: y :: a :: b :: c :: d :: e :: f :: g :: (led ++ pre)) :=
  News.perm N fun q hq => by simp only [List.mem_cons, List.mem_append] at hq ⊢; rcases hq with h | h | h | h | h | h | h | h | h | h | h <;> simp [h]
theorem News.e3 {h₀ h : Heap} {L : Addr} {g e l2 l1 x d c3 c2 c1 t0 k1 p1 k2 : Addr × Obj} {gt pre : List (Addr × Obj)} (N : News h₀ L h (g :: e :: l2 :: l1 :: x :: d :: c3 :: c2 :: c1 :: ((t0 :: k1 :: p1 :: k2 :: gt) ++ pre))) :
    News h₀ L h ((x :: d :: (gt ++ [g, e, c3, c2, c1, t0, k1, p1, k2])) ++ pre) :=
  News.perm N fun q hq => by simp only [List.cons_append, List.mem_cons, List.mem_append, List.not_mem_nil, or_false] at hq ⊢; rcases hq with h | h | (h | h | h | h | h | h | h | h | h | h) | h <;> simp [h]
theorem News.e4 {h₀ h : Heap} {L : Addr} {t g e x d c3 c2 c1 t0 k1 p1 k2 : Addr × Obj} {gt pre : List (Addr × Obj)} (N : News h₀ L h ((t :: (x :: d :: (gt ++ [g, e, c3, c2, c1, t0, k1, p1, k2]))) ++ pre)) : News h₀ L h (t :: ((t0 :: k1 :: p1 :: k2 :: gt) ++ pre)) :=
  News.perm N fun q hq => by simp only [List.cons_append, List.mem_cons, List.mem_append] at hq ⊢; rcases hq with h | h | h | h | h | h | h <;> simp [h]
theorem GT.mem {P2 : Nat} {ps : Pos} {q3 : Str} {gt : List (Addr × Obj)} (h : GT P2 ps q3 gt) : ∃ o, (P2, o) ∈ gt := by
  rcases h with rfl | ⟨c3, P3, oc3, rfl, _⟩
  · exact ⟨_, .head _⟩
  · exact ⟨_, .head _⟩
theorem News.fix {h₀ h : Heap} {L : Addr} {x d : Addr × Obj} {gt l pre : List (Addr × Obj)} (N : News h₀ L h ((x :: d :: (gt ++ l)) ++ pre)) : ∃ f, f = l ∧ News h₀ L h ((x :: d :: (gt ++ f)) ++ pre) := ⟨l, rfl, N⟩
theorem disj7 {a1 a2 a3 a4 a5 a6 a7 : Addr × Obj} {led pre : List (Addr × Obj)} {K : Nat} (l : ∀ q ∈ led ++ pre, @LT.lt Nat _ q.1 K) (hD : Disj pre led) (h1 : @LT.lt Nat _ K a1.1) (h2 : @LT.lt Nat _ K a2.1) (h3 : @LT.lt Nat _ K a3.1) (h4 : @LT.lt Nat _ K a4.1)
    (h5 : @LT.lt Nat _ K a5.1) (h6 : @LT.lt Nat _ K a6.1) (h7 : @LT.lt Nat _ K a7.1) : Disj (a1 :: a2 :: a3 :: a4 :: a5 :: a6 :: a7 :: pre) led := fun p hp q hq => by
  have lq := l q (List.mem_append_left _ hq)
  simp only [List.mem_cons] at hp
  rcases hp with rfl | rfl | rfl | rfl | rfl | rfl | rfl | hp
  · exact Nat.ne_of_gt (Nat.lt_trans lq h1)
  · exact Nat.ne_of_gt (Nat.lt_trans lq h2)
  · exact Nat.ne_of_gt (Nat.lt_trans lq h3)
  · exact Nat.ne_of_gt (Nat.lt_trans lq h4)
  · exact Nat.ne_of_gt (Nat.lt_trans lq h5)
  · exact Nat.ne_of_gt (Nat.lt_trans lq h6)
  · exact Nat.ne_of_gt (Nat.lt_trans lq h7)
  · exact hD p hp q hq
theorem done_c {V : Nat → Prop} {T P Nw : Array UInt8} {lft : Bool} {oc0 : Value} {od0 an0 : Option Addr} {name0 qual0 n1 n1' n2 n2' n3 n3' q1 q2 q3 : Str} {params0 pa1 pa2 pa3 : Arguments} {s1 s4 s5 : Stmt} {b1 b3 : List Stmt} {dl1 dl2 dl3 : List Expr} {r1 r2 r3 : Option Expr} {tp1 tp2 tp3 : List TypeParam}
    {sc1 sc2 sc3 scope0 : Scope} {z1 z2 z3 : Option Scope} {ps1 ps2 ps3 : Pos} {dV0 kV0 doc0 pm0 cdv0 ct0 : Value} {osl0 : Array (Option Value)} {tT tP tN : Tok}
    (hlook : (hd.heap_39 w.params).lookup 300 = some ⟨oc0, od0, .func (fnOf name0 qual0 params0 [s1, .FunctionDef n1 pa1 b1 dl1 r1 tp1 sc1 z1 n1' ps1, .FunctionDef n2 pa2 [.FunctionDef n3 pa3 b3 dl3 r3 tp3 sc3 z3 n3' ps3, s5] dl2 r2 tp2 sc2 z2 n2' ps2, s4] scope0 dV0 kV0 doc0 pm0 an0 cdv0 ct0), osl0⟩)
    (hq1 : q1 = (qual0 ++ ".<locals>.") ++ n1) (hq2 : q2 = (qual0 ++ ".<locals>.") ++ n2) (hq3 : q3 = (q2 ++ ".<locals>.") ++ n3)
    (Pp : Nat → Prop) (res : Nat → Option Nat) (ex : Nat → Nat → Array UInt8) (fo : Nat → Array UInt8) (co : Nat → Nat)
    (HM : MSpec w p loose mean mg mb T P lft res) (hT : T.size ≤ 10) (hP : P.size ≤ 10) (hz : Builtin.Bytes.find? P (List.toArray [0]) 0 P.size = none) (hNw : Nw.size ≤ 1000)
    (hl : (∃ j, j < Nw.size ∧ zat Nw j = 37) → lft = true) (hex0 : ∀ i, V 0 ∧ ex i 0 = #[]) (hexz : ∀ i j, (ex i j).size ≤ 1000)
    (hex : ∀ i j (_ : j < Nw.size), V j → (zat Nw j ≠ 37 ∧ V (j + 1) ∧ ex i (j + 1) = (ex i j).push (zat Nw j).toNat.toUInt8) ∨ (zat Nw j = 37 ∧ j + 1 < Nw.size ∧ zat Nw (j + 1) = 49 ∧ V (j + 2) ∧ ex i (j + 2) = ex i j ++ PySem.W.KBy.picked T (some (i : Int)) (some ((i : Int) + 1))))
    (h0 : Pp 0 ∧ fo 0 = #[] ∧ co 0 = 0) (hfz : ∀ i, (fo i).size ≤ 1000) (hco : ∀ i, co i ≤ 50)
    (hs : ∀ i e, Pp i → res i = some e → i < e ∧ e ≤ T.size ∧ Pp e ∧ fo e = fo i ++ ex i Nw.size ∧ co e = co i + 1)
    (hn : ∀ i, Pp i → res i = none → i < T.size → Pp (i + 1) ∧ fo (i + 1) = (fo i).push (zat T i).toNat.toUInt8 ∧ co (i + 1) = co i)
    {led pre : List (Addr × Obj)} (C : CodeHd base 299 295) (B : Below A₀ base outer h₀) (F : Fr h₀ L s.heap m) (X : (hd.heap_39 w.params).In h₀) (N : News h₀ L s.heap (led ++ pre)) (TT : Top p loose mean mg mb h₀)
    (hI : CT 295 ps1 ps2 ps3 q1 q2 q3 led) (hD : Disj pre led) (hdp : dp + 620 < recursionLimit) (hun : un + 1800 < cLine) {Q : Value → Shared → Prop}
    (hret : ∀ (t : Nat) tb tc h' tk' led', Fr h₀ L h' m → News h₀ L h' ((t, { cls := .type "tuple", data := .seq #[.bytes (fo T.size) tb, .int (co T.size : Nat) tc] }) :: (led' ++ pre)) → CT 295 ps1 ps2 ps3 q1 q2 q3 led' → Disj pre led' → Q (.ref t) { s with heap := h', toks := tk' }) :
    wpC (model PySem.Challenge.rw_tk0057_01.row.prog w) (ktrTop dp un gd cn { kind := .function, names := csn, isGenerator := csg, isCoroutine := csc, more := csm } L a ccd cl outer) (call (.ref 300) [.bytes T tT, .bytes P tP, .bytes Nw tN]) Q s := by
  revert X; k_fill; intro X
  have hl' := hlook.symm.trans (show (hd.heap_39 w.params).lookup 300 = some _ by k_is)
  have e0 := ob_eqs hl'
  have t1 := List.tail_eq_of_cons_eq e0.2.2.1
  have f1 := fd_eqs (List.head_eq_of_cons_eq t1)
  have f2 := fd_eqs (List.head_eq_of_cons_eq (List.tail_eq_of_cons_eq t1))
  have f3 := fd_eqs (List.head_eq_of_cons_eq f2.2.2.1)
  have x0 := e0.2.1
  have x1 := f1.1
  have x2 := f2.1
  have x3 := f3.1
  have y1 := f1.2.2.2.2
  have y2 := f2.2.2.2.2
  have y3 := f3.2.2.2.2
  clear e0 t1 f1 f2 f3 hl' hlook
  subst x0 x1 x2 x3 y1 y2 y3
  subst hq1 hq2 hq3
  refine wpC_call ?_
  k_dflt (refine' defC_cellsK ?k1 ?k2 ?k3 ?k4 ?k5 ?kA ?kF ?kK ?k6 ?k7 ?k8 ?k9 ?kB ?kD ?_ ?c2 ?c3 ?c4; (case kA => exact rfl); (case kF => exact rfl); (case kK => exact rfl); (case k1 => k_asm); (case k2 => k_asm); (case k3 => k_asm); (case k4 => k_asm); (case k5 => k_asm); (case k6 => k_is); (case k7 => k_is); (case k8 => k_room); (case k9 => first | exact BindsTo.of_eq rfl | exact binds_K (by k_in) rfl (by k_is) rfl rfl rfl | fail "k_enter: no rule for these arguments"); (case kB => exact rfl); (case kD => decide +kernel); (case c2 => exact rfl); (case c3 => exact rfl); (case c4 => exact rfl); k_whole; intro g' L' h' tk' cells' FG' F' N' Y' B' X' T' l1; (try k_lt l1); k_cells Y'; (try simp only [List.cons_append, List.nil_append] at N'); (try dsimp only); (try k_lift B'))
  have lL : ∀ q ∈ led ++ pre, @LT.lt Nat _ q.1 L' := l1
  have l0 : AllLt L' (led ++ pre) := allLt_of l1
  have a1 := AllLt.nes l0 (Nat.le_add_right L' 1)
  have a2 := AllLt.nes l0 (Nat.le_add_right L' 2)
  have a3 := AllLt.nes l0 (Nat.le_add_right L' 3)
  refine wpC_cons (wpC_of_any ?_)
  k_steps
  dsimp only [nextC]
  (with_reducible rename News g' L' _ _ => kN)
  (with_reducible rename Fr g' L' _ _ => kF)
  refine wpC_cons (wpC_of_any ?_)
  k_dflt (refine' nestDef_K ?d0 ?k0 ?a0 ?_; (case d0 => exact rfl); (case k0 => exact rfl); (case a0 => exact rfl))
  k_dflt (refine' nestE ?G ?F ?N ?T ?C ?cd ?D ?cl ?e ?_)
  (case G => exact hI)
  (case F => exact kF)
  (case N => exact News.e1 kN)
  (case T => exact T')
  (case C => exact CodeHd.keeps (CodeHd.keeps C (Below.stays B')) (Fr.keep kF))
  (case cd => exact rfl)
  (case cl => exact rfl)
  (case e => exact rfl)
  (case D => exact disj7 lL hD (by dsimp only; omega) (by dsimp only; omega) (by dsimp only; omega) (by dsimp only; omega) (by dsimp only; omega) (by dsimp only; omega) (by dsimp only; omega))
  intro e c1 P1 oc1 led1 ctv1 doc1 h2 tk2 F2 N2 G1 D1 lf1
  clear kN kF
  k_steps
  dsimp only [nextC]
  (with_reducible rename News g' L' _ _ => kN)
  (with_reducible rename Fr g' L' _ _ => kF)
  refine wpC_cons (wpC_of_any ?_)
  k_dflt (refine' nestDef_K ?d0 ?k0 ?a0 ?_; (case d0 => exact rfl); (case k0 => exact rfl); (case a0 => exact rfl))
  k_dflt (refine' nestF ?G ?hp9 ?F ?N ?T ?C ?cd ?D ?cl ?e ?_)
  (case G => exact G1)
  (case hp9 => exact rfl)
  (case F => exact kF)
  (case N => exact PySem.W.ktn_tl2 kN)
  (case T => exact T')
  (case C => exact CodeHd.keeps (CodeHd.keeps C (Below.stays B')) (Fr.keep kF))
  (case cd => exact rfl)
  (case cl => exact rfl)
  (case e => exact rfl)
  (case D => exact D1)
  intro g c2 P2 oc2 gt led2 ctv2 doc2 h4 tk4 F4 N4 G2 D2 lf2
  clear kN kF
  replace N4 := News.e2 N4
  k_steps
  dsimp only [nextC]
  refine wpC_cons (wpC_Return (wpC_CallName ?_))
  k_steps
  refine wpC_callWith (P := FnAt 43) rfl keeps_F (wpC_of_any ?_)
  k_steps
  all_goals (with_reducible rename News g' L' _ _ => kN)
  all_goals (with_reducible rename Fr g' L' _ _ => kF)
  · exact ⟨_, _, _, _, (X'.keeps (Fr.keep kF)) _ _ (show (hd.heap_39 w.params).lookup 43 = some _ by k_is)⟩
  obtain ⟨rfl, O1, O2, hG, m1, m2, m3, m4⟩ := G2
  obtain ⟨fixed, hfx, N5⟩ := News.fix (News.e3 kN)
  have hpL : ∀ q ∈ pre, @LT.lt Nat _ q.1 L' := fun q hq => lL q (List.mem_append_right _ hq)
  obtain ⟨oP, hP2⟩ := hG.mem
  have hl3 := (show (hd.heap_39 w.params).lookup 300 = some _ by k_is)
  k_dflt (refine' done_tail (k := ⟨_, _, _, _, _, _, _, _, _, _, _⟩) Pp res ex fo co ?HE ?HG ?hfe ?hfg ?hfd hG ?hgd hT hexz h0 hfz hco hs hn ?jB ?jF ?jX N5 ?jT ?jD ?jr ?ju ?jret)
  (case jB => k_asm)
  (case jF => exact kF)
  (case jX => k_asm)
  (case jT => k_asm)
  (case jr => ktr_room)
  (case ju => ktr_units)
  case hgd => exact fun q hq => (D2 _ (.tail _ (.tail _ (.tail _ (.tail _ (.tail _ (.head _)))))) q (.tail _ (.tail _ (.tail _ (.tail _ hq))))).symm
  case hfe => subst hfx; exact ⟨_, _, _, _, _, _, _, _, _, _, .tail _ (.head _)⟩
  case hfg => subst hfx; exact ⟨_, _, _, _, _, _, _, _, _, _, .head _⟩
  case hfd =>
    subst hfx
    intro q hq
    simp only [List.mem_cons, List.not_mem_nil, or_false] at hq
    rcases hq with rfl | rfl | rfl | rfl | rfl | rfl | rfl | rfl | rfl
    · exact Nat.ne_of_gt (lf2 _ (.tail _ (.tail _ (.tail _ (.tail _ (.head _))))))
    · exact Nat.ne_of_gt (lf1 _ (.tail _ (.tail _ (.tail _ (.head _)))))
    · exact Nat.ne_of_lt (by dsimp only; omega)
    · exact Nat.ne_of_lt (by dsimp only; omega)
    · exact Nat.ne_of_lt (by dsimp only; omega)
    · exact (D2 _ (.tail _ (.tail _ (.tail _ (.tail _ (.tail _ (.head _)))))) _ (.head _)).symm
    · exact (D2 _ (.tail _ (.tail _ (.tail _ (.tail _ (.tail _ (.head _)))))) _ (.tail _ (.head _))).symm
    · exact (D2 _ (.tail _ (.tail _ (.tail _ (.tail _ (.tail _ (.head _)))))) _ (.tail _ (.tail _ (.head _)))).symm
    · exact (D2 _ (.tail _ (.tail _ (.tail _ (.tail _ (.tail _ (.head _)))))) _ (.tail _ (.tail _ (.tail _ (.head _))))).symm
  case jD =>
    subst hfx
    intro p hp q hq
    have hpl := hpL p hp
    rcases List.mem_cons.mp hq with rfl | hq
    · exact Nat.ne_of_lt (by dsimp only; omega)
    rcases List.mem_cons.mp hq with rfl | hq
    · exact Nat.ne_of_lt (by dsimp only; omega)
    rcases List.mem_append.mp hq with hq | hq
    · exact D2 p (.tail _ (.tail _ (.tail _ (.tail _ (.tail _ (.tail _ (.tail _ (.tail _ (.tail _ hp))))))))) q (.tail _ (.tail _ (.tail _ (.tail _ hq))))
    simp only [List.mem_cons, List.not_mem_nil, or_false] at hq
    rcases hq with rfl | rfl | rfl | rfl | rfl | rfl | rfl | rfl | rfl
    · exact Nat.ne_of_lt (lf2 p (.tail _ (.tail _ (.tail _ (.tail _ (.tail _ (.tail _ (.tail _ (.tail _ hp)))))))))
    · exact Nat.ne_of_lt (lf1 p (.tail _ (.tail _ (.tail _ (.tail _ (.tail _ (.tail _ (.tail _ hp))))))))
    · exact Nat.ne_of_lt (by dsimp only; omega)
    · exact Nat.ne_of_lt (by dsimp only; omega)
    · exact Nat.ne_of_lt (by dsimp only; omega)
    · exact D2 p (.tail _ (.tail _ (.tail _ (.tail _ (.tail _ (.tail _ (.tail _ (.tail _ (.tail _ hp))))))))) _ (.head _)
    · exact D2 p (.tail _ (.tail _ (.tail _ (.tail _ (.tail _ (.tail _ (.tail _ (.tail _ (.tail _ hp))))))))) _ (.tail _ (.head _))
    · exact D2 p (.tail _ (.tail _ (.tail _ (.tail _ (.tail _ (.tail _ (.tail _ (.tail _ (.tail _ hp))))))))) _ (.tail _ (.tail _ (.head _)))
    · exact D2 p (.tail _ (.tail _ (.tail _ (.tail _ (.tail _ (.tail _ (.tail _ (.tail _ (.tail _ hp))))))))) _ (.tail _ (.tail _ (.tail _ (.head _))))
  case HE =>
    intro gt i tk hi hgf
    subst hfx
    intro dp0 un0 gd0 cn0 csn0 csg0 csc0 csm0 a0 ccd0 cl0 outer0 A0 base0 h0 L0 m0 s0 Q0 pre0 led0
    refine' ends_c hl3 HM hi ?_ (List.mem_append_right _ (.tail _ (.head _))) (List.mem_append_right _ (.tail _ (.tail _ (.tail _ (.tail _ (.tail _ (.tail _ (.head _)))))))) O1 (List.mem_append_right _ (.tail _ (.tail _ (.head _)))) ?_ hgf
    · omega
    · assumption
  case HG =>
    intro i e' tk te hi
    subst hfx
    intro dp0 un0 gd0 cn0 csn0 csg0 csc0 csm0 a0 ccd0 cl0 outer0 A0 base0 h0' L0 m0 s0 Q0 pre0 led0
    refine' give_c hl3 hT hi ?q3 (.head _) (.tail _ (.tail _ (.tail _ (.tail _ (.tail _ (.tail _ (.tail _ (.tail _ (.head _))))))))) O2 (.tail _ (.tail _ (.head _))) (.tail _ (.tail _ (.tail _ (.head _)))) (.tail _ (.tail _ (.tail _ (.tail _ (.head _)))))
      ?om ?on ?ox ?fP ?xP ?dP hl (hex0 i) (hexz i) hNw (hex i)
    case q3 => rfl
    case om => assumption
    case on => assumption
    case ox => assumption
    case xP => exact D2 _ (.tail _ (.tail _ (.tail _ (.tail _ (.head _))))) (P2, oP) (.tail _ (.tail _ (.tail _ (.tail _ hP2))))
    case dP => exact D2 _ (.tail _ (.tail _ (.tail _ (.tail _ (.tail _ (.head _)))))) (P2, oP) (.tail _ (.tail _ (.tail _ (.tail _ hP2))))
    case fP =>
      intro q hq
      simp only [List.mem_cons, List.not_mem_nil, or_false] at hq
      rcases hq with rfl | rfl | rfl | rfl | rfl | rfl | rfl | rfl | rfl
      · exact D2 _ (.head _) (P2, oP) (.tail _ (.tail _ (.tail _ (.tail _ hP2))))
      · exact D2 _ (.tail _ (.head _)) (P2, oP) (.tail _ (.tail _ (.tail _ (.tail _ hP2))))
      · exact D2 _ (.tail _ (.tail _ (.tail _ (.tail _ (.tail _ (.tail _ (.head _))))))) (P2, oP) (.tail _ (.tail _ (.tail _ (.tail _ hP2))))
      · exact D2 _ (.tail _ (.tail _ (.tail _ (.tail _ (.tail _ (.tail _ (.tail _ (.head _)))))))) (P2, oP) (.tail _ (.tail _ (.tail _ (.tail _ hP2))))
      · exact D2 _ (.tail _ (.tail _ (.tail _ (.tail _ (.tail _ (.tail _ (.tail _ (.tail _ (.head _))))))))) (P2, oP) (.tail _ (.tail _ (.tail _ (.tail _ hP2))))
      · exact m1
      · exact m2
      · exact m3
      · exact m4
  case jret =>
    intro t tb tc h6 tk6 gt6 dep6 td6 vl6 vs6 ve6 F6 N6 G6 D6
    subst hfx
    clear kN kF
    dsimp only [nextC]
    k_steps
    show Q _ _
    (with_reducible rename News h₀ L _ _ => kN)
    (with_reducible rename Fr h₀ L _ _ => kF)
    refine hret t tb tc _ _ _ kF (News.e4 kN) (.inr ⟨c1, oc1, P1, c2, oc2, P2, gt6, rfl, O1, O2, G6, m1, m2, m3, m4⟩) (fun p hp q hq => ?_)
    rcases List.mem_cons.mp hq with rfl | hq
    · exact D6 p hp _ (List.mem_append_right _ (.tail _ (.tail _ (.tail _ (.tail _ (.tail _ (.head _)))))))
    rcases List.mem_cons.mp hq with rfl | hq
    · exact D6 p hp _ (List.mem_append_right _ (.tail _ (.tail _ (.tail _ (.tail _ (.tail _ (.tail _ (.head _))))))))
    rcases List.mem_cons.mp hq with rfl | hq
    · exact D6 p hp _ (List.mem_append_right _ (.tail _ (.tail _ (.tail _ (.tail _ (.tail _ (.tail _ (.tail _ (.head _)))))))))
    rcases List.mem_cons.mp hq with rfl | hq
    · exact D6 p hp _ (List.mem_append_right _ (.tail _ (.tail _ (.tail _ (.tail _ (.tail _ (.tail _ (.tail _ (.tail _ (.head _))))))))))
    · exact D6 p hp _ (List.mem_append_left _ hq)
end
theorem flush20 {prog : PySem.Program} {w : PySem.World} {A : PySem.Around} {Q : Unit → PySem.Shared → Prop} {E : PySem.Value → PySem.Shared → Prop} {s : PySem.Shared} (h : Q () s) : PySem.wpAny (PySem.model prog w) A (pure ()) Q E s := by
  w_top off
  first | (walk1; fail) | exact PySem.wpAny_pure h
section
abbrev abc (i : Int) : Array UInt8 := PySem.W.KBy.picked (List.toArray [65, 66, 67]) (some i) (some (i + 1))
abbrev oi (i : Int) : Array UInt8 := PySem.W.KBy.picked (List.toArray [111, 105]) (some i) (some (i + 1))
local macro_rules | `(tactic| walk_at "subscriptTail") => `(tactic| (k_here; (with_reducible show wpAny _ _ (subscriptTail _ _ (Value.bytes _ _) (Value.ref _)) _ _ _); (with_reducible rename Fr _ _ _ _ => F9); (with_reducible rename News _ _ _ _ => N9); k_dflt (refine PySem.W.KBc.slice_K (s := ⟨_, _, _, _, _⟩) F9 N9 rfl (by constructor) (by constructor) (by first | decide | (rw [PySem.W.KBw.ints_length]; omega)) ?_); intro _ _ _ _ _ _))
theorem News.drop1x {h₀ h : Heap} {L : Addr} {x y a : Addr × Obj} {r : List (Addr × Obj)} (N : News h₀ L h (x :: y :: a :: r)) : News h₀ L h (x :: r) :=
  News.perm N fun q hq => by simp only [List.mem_cons] at hq ⊢; rcases hq with h | h <;> simp [h]
theorem pk3 {a b : Option Int} : (PySem.W.KBy.picked (List.toArray [65, 66, 67]) a b).size ≤ 3 := PySem.W.KBc.size_picked_le _ _ _
theorem pk2 {a b : Option Int} : (PySem.W.KBy.picked (List.toArray [111, 105]) a b).size ≤ 2 := PySem.W.KBc.size_picked_le _ _ _
theorem app_le {a b : Array UInt8} {n k : Nat} (ha : a.size ≤ n) (hb : b.size ≤ k) : (a ++ b).size ≤ n + k := by rw [Array.size_append]; omega
local macro_rules | `(tactic| walk_at "my size") => `(tactic| first | (with_reducible exact pk3) | (with_reducible exact pk2) | ((with_reducible refine' app_le ?za ?zb); (case za | zb => walk_at "my size")) | (with_reducible exact Nat.le_trans (PySem.W.KBc.size_picked_le _ _ _) (by assumption)) | (with_reducible exact Nat.le_refl _))
local macro_rules | `(tactic| walk_at "binaryOp Add bytes bytes") => `(tactic| (k_here; (with_reducible show wpAny _ _ (binaryOp Operator.Add (Value.bytes _ _) (Value.bytes _ _)) _ _ _); k_dflt (refine PySem.W.KBy.add_bytes (Nat.le_trans (Nat.add_le_add (by walk_at "my size") (by walk_at "my size")) (by decide)) ?_); intro _ _))
theorem texts_c {r e : Nat} {st sg a1 b1 c1 : Int} {tst tsg ta tb tc : Tok}
    (B : Below A₀ base outer h₀) (F : Fr h₀ L s.heap m) (X : (hd.heap_39 w.params).In h₀) (N : News h₀ L s.heap news) (TT : Top p loose mean mg mb h₀) (hr : (r, { cls := .type "tuple", data := .seq #[.int a1 ta, .int b1 tb, .int c1 tc] e }) ∈ news)
    (hst : 0 ≤ st ∧ st < 3) (hsg : 0 ≤ sg ∧ sg < 2) (ha : 0 ≤ a1 ∧ a1 < 2) (hb : 0 ≤ b1 ∧ b1 < 2) (hc : 0 ≤ c1 ∧ c1 < 3) (hdp : dp + 5 < recursionLimit) (hun : un + 200 < cLine)
    (hret : ∀ D t1 t2 e' h' tk', Fr h₀ L h' m → News h₀ L h' ((D, { cls := .type "tuple", data := .seq #[.bytes (if b1 = 1 then abc st ++ oi sg else List.toArray [40, 37, 108, 41] ++ (abc st ++ oi sg)) t1, .bytes (if b1 = 1 then oi a1 ++ abc c1 else abc c1 ++ List.toArray [37, 49] ++ oi a1) t2] e' }) :: news) → Q (.ref D) { s with heap := h', toks := tk' }) :
    wpAny (model PySem.Challenge.rw_tk0057_01.row.prog w) (ktrTop dp un gd cn { kind := .function, names := csn, isGenerator := csg, isCoroutine := csc, more := csm } L a ccd cl outer) (call (.ref 314) [.int st tst, .int sg tsg, .ref r]) Q E s := by
  have NN := News.add N hr
  revert X; k_fill; intro X
  refine wpAny_call ?_
  k_dflt (walk_at "my enter")
  k_steps
  all_goals (with_reducible rename News h₀ L _ _ => kN)
  all_goals (with_reducible rename Fr h₀ L _ _ => kF)
  all_goals (try dsimp only at kN kF)
  · rw [if_pos (by omega), if_pos (by omega)] at hret
    exact hret _ _ _ _ _ _ kF (News.drop1x kN)
  · rw [if_neg (by omega), if_neg (by omega)] at hret
    exact hret _ _ _ _ _ _ kF (News.drop1x kN)
end
theorem flush21 {prog : PySem.Program} {w : PySem.World} {A : PySem.Around} {Q : Unit → PySem.Shared → Prop} {E : PySem.Value → PySem.Shared → Prop} {s : PySem.Shared} (h : Q () s) : PySem.wpAny (PySem.model prog w) A (pure ()) Q E s := by
  w_top off
  first | (walk1; fail) | exact PySem.wpAny_pure h
section
theorem mspec_L {T P : Array UInt8} (hP : P.size = 6) (z0 : zat P 0 = 40) (z1 : zat P 1 = 37) (z2 : zat P 2 = 108) (z3 : zat P 3 = 41) (hS0 : 65 ≤ zat P 4) (hS1 : zat P 4 ≤ 67) (hc0 : 97 ≤ zat P 5) (hc1 : zat P 5 ≤ 122) (hT : T.size ≤ 10) (res : Nat → Option Nat)
    (hr : ∀ i : Nat, res i = if (i : Int) + 2 < T.size ∧ 97 ≤ zat T i ∧ zat T i ≤ 122 ∧ zat T (i + 1) = zat P 4 ∧ zat T (i + 1 + 1) = zat P 5 then some (i + 3) else none) : MSpec w p loose mean mg mb T P true res := by
  intro dp un gd cn csn csg csc csm a ccd cl outer A₀ base h₀ L m s Q E news x d ls le k tk tp td tl i B F X N TT hdx hxl hll hn hi hdp hun hno hyes
  refine matchL_c B F X N TT hdx hxl hll hn hP z0 z1 z2 z3 hS0 hS1 hc0 hc1 (by omega) (by omega) hT (by omega) (by omega) (by omega) (by omega) ?_ ?_
  · intro hh h' tk' td' dep' vl vs ve _ F' N'
    exact hno (by rw [hr, if_neg hh]) h' tk' td' dep' _ _ _ F' N'
  · intro hh h' tk' td' t dep' tv ta tb a1 b1 _ na nb F' N'
    have := hyes (i + 3) (by rw [hr, if_pos hh]) h' tk' td' t dep' _ _ _ [(a1, W.listOf #[.int i ta] 0), (b1, W.listOf #[.int 1 tb] 0)] (.inr ⟨rfl, tv, a1, b1, ta, tb, rfl, rfl, rfl, rfl⟩) (fun c hc q hq => by
      rcases List.mem_cons.mp hc with rfl | hc
      · exact na q hq
      rcases List.mem_cons.mp hc with rfl | hc
      · exact nb q hq
      · cases hc) F' N'
    rwa [show ((i + 3 : Nat) : Int) = (i : Int) + 1 + 1 + 1 by omega] at this
end
theorem flush22 {prog : PySem.Program} {w : PySem.World} {A : PySem.Around} {Q : Unit → PySem.Shared → Prop} {E : PySem.Value → PySem.Shared → Prop} {s : PySem.Shared} (h : Q () s) : PySem.wpAny (PySem.model prog w) A (pure ()) Q E s := by
  w_top off
  first | (walk1; fail) | exact PySem.wpAny_pure h
section
local macro_rules | `(tactic| walk_at "subscriptTail") => `(tactic| (k_here; (fail_if_success (with_reducible show wpAny _ _ (subscriptTail (PySem.Expr.Name _ _) _ _ _) _ _ _)); k_dflt (refine kba_turn (value' := PySem.Expr.Name (PySem.Str.ofString "_") ⟨0, 0, 0, 0⟩) (fun _ => rfl) ?_)))
local macro_rules | `(tactic| walk_at "subscriptTail") => `(tactic| (k_here; (with_reducible show wpAny _ _ (subscriptTail _ _ (Value.ref _) (Value.int _ _)) _ _ _); k_dflt (refine' item_list ?hl ?h0 ?hf ?hx ?_; (case hx => assumption); (case hl => exact News.isList (by k_asm) (by k_mem)); (case h0 | hf => omega))))
theorem News.drop4 {h₀ h : Heap} {L : Addr} {x a b c d : Addr × Obj} {r : List (Addr × Obj)} (N : News h₀ L h (x :: a :: b :: c :: d :: r)) : News h₀ L h (x :: r) :=
  News.perm N fun q hq => by simp only [List.mem_cons] at hq ⊢; rcases hq with h | h <;> simp [h]
theorem due_end {tp R ra e er e2 r e3 : Nat} {xs : List Int} {tvs rv : List Value} {va vb v : Value} {pl st a1 b1 c1 : Int} {tpl tst ta tb tc : Tok}
    (B : Below A₀ base outer h₀) (F : Fr h₀ L s.heap m) (X : (hd.heap_39 w.params).In h₀) (N : News h₀ L s.heap news) (TT : Top p loose mean mg mb h₀)
    (htp : (tp, W.listOf tvs.toArray e) ∈ news) 
    (hI : IntsAre tvs xs) (hn : 2 ≤ xs.length) (hm : xs.length ≤ 4) (h0 : 0 ≤ pl) (h1 : pl = xs.length) (hs0 : 0 ≤ st) (hs1 : st < 3) (hdp : dp + 5 < recursionLimit) (hun : un + 200 < cLine)
    (hret : ∀ h' tk', Fr h₀ L h' m → News h₀ L h' news → Q .none { s with heap := h', toks := tk' }) :
    wpAny (model PySem.Challenge.rw_tk0057_01.row.prog w) (ktrTop dp un gd cn { kind := .function, names := csn, isGenerator := csg, isCoroutine := csc, more := csm } L a ccd cl outer) (call (.ref 326) [.ref tp, .int pl tpl, .int st tst, .ref R]) Q E s := by
  have NN := News.add N htp
  clear N
  revert X; k_fill; intro X
  refine wpAny_call ?_
  k_dflt (walk_at "my enter")
  k_steps
  all_goals (with_reducible rename News h₀ L _ _ => kN)
  all_goals (with_reducible rename Fr h₀ L _ _ => kF)
  all_goals (try dsimp only at kN kF)
  all_goals first | exact hret _ _ kF (News.tail' kN)
theorem due_none {tp R ra e er e2 r e3 : Nat} {xs : List Int} {tvs rv : List Value} {va vb v : Value} {pl st a1 b1 c1 : Int} {tpl tst ta tb tc : Tok}
    (B : Below A₀ base outer h₀) (F : Fr h₀ L s.heap m) (X : (hd.heap_39 w.params).In h₀) (N : News h₀ L s.heap news) (TT : Top p loose mean mg mb h₀)
    (htp : (tp, W.listOf tvs.toArray e) ∈ news) (hR : (R, W.listOf rv.toArray er) ∈ news) (hra : (ra, W.listOf #[va, vb] e2) ∈ news) (hx : rv.toArray[st.toNat]? = some (.ref ra)) (hv : (#[va, vb] : Array Value)[(xs.getD pl.toNat 0).toNat]? = some v) (hsg : 0 ≤ xs.getD pl.toNat 0 ∧ xs.getD pl.toNat 0 < 2) (hvn : v = .none)
    (hI : IntsAre tvs xs) (hn : 2 ≤ xs.length) (hm : xs.length ≤ 4) (h0 : 0 ≤ pl) (h1 : pl < xs.length) (hs0 : 0 ≤ st) (hs1 : st < 3) (hdp : dp + 5 < recursionLimit) (hun : un + 200 < cLine)
    (hret : ∀ h' tk', Fr h₀ L h' m → News h₀ L h' news → Q .none { s with heap := h', toks := tk' }) :
    wpAny (model PySem.Challenge.rw_tk0057_01.row.prog w) (ktrTop dp un gd cn { kind := .function, names := csn, isGenerator := csg, isCoroutine := csc, more := csm } L a ccd cl outer) (call (.ref 326) [.ref tp, .int pl tpl, .int st tst, .ref R]) Q E s := by
  subst hvn
  have NN := News.add (News.add (News.add N htp) (.tail _ hR)) (.tail _ (.tail _ hra))
  clear N
  revert X; k_fill; intro X
  refine wpAny_call ?_
  k_dflt (walk_at "my enter")
  k_steps
  all_goals (with_reducible rename News h₀ L _ _ => kN)
  all_goals (with_reducible rename Fr h₀ L _ _ => kF)
  all_goals (try dsimp only at kN kF)
  all_goals first | exact hret _ _ kF (News.tail' (News.tail' (News.tail' kN)))
theorem due_rule {tp R ra e er e2 r e3 : Nat} {xs : List Int} {tvs rv : List Value} {va vb v : Value} {pl st a1 b1 c1 : Int} {tpl tst ta tb tc : Tok}
    (B : Below A₀ base outer h₀) (F : Fr h₀ L s.heap m) (X : (hd.heap_39 w.params).In h₀) (N : News h₀ L s.heap news) (TT : Top p loose mean mg mb h₀)
    (htp : (tp, W.listOf tvs.toArray e) ∈ news) (hR : (R, W.listOf rv.toArray er) ∈ news) (hra : (ra, W.listOf #[va, vb] e2) ∈ news) (hx : rv.toArray[st.toNat]? = some (.ref ra)) (hv : (#[va, vb] : Array Value)[(xs.getD pl.toNat 0).toNat]? = some v) (hsg : 0 ≤ xs.getD pl.toNat 0 ∧ xs.getD pl.toNat 0 < 2) (hvr : v = .ref r) (hr : (r, { cls := .type "tuple", data := .seq #[.int a1 ta, .int b1 tb, .int c1 tc] e3 }) ∈ news)
    (hI : IntsAre tvs xs) (hn : 2 ≤ xs.length) (hm : xs.length ≤ 4) (h0 : 0 ≤ pl) (h1 : pl < xs.length) (hs0 : 0 ≤ st) (hs1 : st < 3) (hdp : dp + 5 < recursionLimit) (hun : un + 200 < cLine)
    (hret : if b1 = 0 ∧ pl = 0 then (∀ h' tk', Fr h₀ L h' m → News h₀ L h' news → Q .none { s with heap := h', toks := tk' }) else ∀ D t1 t2 e' h' tk', Fr h₀ L h' m → News h₀ L h' ((D, { cls := .type "tuple", data := .seq #[.int st t1, .int (xs.getD pl.toNat 0) t2] e' }) :: news) → (∀ q ∈ news, q.1 ≠ D) → Q (.ref D) { s with heap := h', toks := tk' }) :
    wpAny (model PySem.Challenge.rw_tk0057_01.row.prog w) (ktrTop dp un gd cn { kind := .function, names := csn, isGenerator := csg, isCoroutine := csc, more := csm } L a ccd cl outer) (call (.ref 326) [.ref tp, .int pl tpl, .int st tst, .ref R]) Q E s := by
  subst hvr
  have NN := News.add (News.add (News.add (News.add N htp) (.tail _ hR)) (.tail _ (.tail _ hra))) (.tail _ (.tail _ (.tail _ hr)))
  clear N
  revert X; k_fill; intro X
  refine wpAny_call ?_
  k_dflt (walk_at "my enter")
  k_steps
  all_goals (with_reducible rename News h₀ L _ _ => kN)
  all_goals (with_reducible rename Fr h₀ L _ _ => kF)
  all_goals (try dsimp only at kN kF)
  all_goals first
    | (rw [if_pos (by omega)] at hret; exact hret _ _ kF (News.tail' (News.tail' (News.tail' (News.tail' kN)))))
    | (rw [if_neg (by omega)] at hret; (with_reducible rename _ ∧ _ ∧ _ ∧ _ ∧ AllLt _ news => kl); exact hret _ _ _ _ _ _ kF (News.drop4 kN) (AllLt.nes kl.2.2.2.2 (Nat.le_refl _)))
end
theorem flush23 {prog : PySem.Program} {w : PySem.World} {A : PySem.Around} {Q : Unit → PySem.Shared → Prop} {E : PySem.Value → PySem.Shared → Prop} {s : PySem.Shared} (h : Q () s) : PySem.wpAny (PySem.model prog w) A (pure ()) Q E s := by
  w_top off
  first | (walk1; fail) | exact PySem.wpAny_pure h
section
/-- a drawn rule and its value -/
def RuleV (led : List (Addr × Obj)) (ro : Option (Int × Int × Int)) (v : Value) : Prop :=
  (ro = none ∧ v = .none) ∨ ∃ (r : Addr) (e : Nat) (a b c : Int) (ta tb tc : Tok), ro = some (a, b, c) ∧ v = .ref r ∧ (r, ({ cls := .type "tuple", data := .seq #[.int a ta, .int b tb, .int c tc] e } : Obj)) ∈ led
def RuleOk (states : Int) (ro : Option (Int × Int × Int)) : Prop := ∀ a b c, ro = some (a, b, c) → 0 ≤ a ∧ a < 2 ∧ 0 ≤ b ∧ b < 2 ∧ 0 ≤ c ∧ c < states
/-- the drawn rows; the cells of one row -/
def RowsV (led : List (Addr × Obj)) (rl : Nat → Nat → Option (Int × Int × Int)) (rv : List Value) : Prop :=
  ∀ i x, rv[i]? = some x → ∃ (ra : Addr) (e : Nat) (va vb : Value), x = .ref ra ∧ (ra, W.listOf #[va, vb] e) ∈ led ∧ RuleV led (rl i 0) va ∧ RuleV led (rl i 1) vb
def CellsV (led : List (Addr × Obj)) (rr : Nat → Option (Int × Int × Int)) (rw : List Value) : Prop := ∀ j x, rw[j]? = some x → RuleV led (rr j) x
theorem RuleV.mono {l l' : List (Addr × Obj)} {ro : Option (Int × Int × Int)} {v : Value} (h : RuleV l ro v) (hs : ∀ q ∈ l, q ∈ l') : RuleV l' ro v := by
  rcases h with h | ⟨r, e, a, b, c, ta, tb, tc, h1, h2, h3⟩
  · exact .inl h
  · exact .inr ⟨r, e, a, b, c, ta, tb, tc, h1, h2, hs _ h3⟩
theorem RowsV.mono {l l' : List (Addr × Obj)} {rl : Nat → Nat → Option (Int × Int × Int)} {rv : List Value} (h : RowsV l rl rv) (hs : ∀ q ∈ l, q ∈ l') : RowsV l' rl rv := fun i x hx => by
  refine Classical.byContradiction fun hG0 => ?_
  obtain ⟨ra, e, va, vb, h1, h2, h3, h4⟩ := h i x hx
  refine hG0 ?_
  clear hG0
  exact ⟨ra, e, va, vb, h1, hs _ h2, h3.mono hs, h4.mono hs⟩
theorem CellsV.mono {l l' : List (Addr × Obj)} {rr : Nat → Option (Int × Int × Int)} {rw : List Value} (h : CellsV l rr rw) (hs : ∀ q ∈ l, q ∈ l') : CellsV l' rr rw := fun j x hx => (h j x hx).mono hs
theorem CellsV.snoc {l : List (Addr × Obj)} {rr : Nat → Option (Int × Int × Int)} {rw : List Value} {r : Option (Int × Int × Int)} {v : Value} (h : CellsV l rr rw) (hv : RuleV l r v) : CellsV l (fun j => if j = rw.length then r else rr j) (rw ++ [v]) := fun j x hx => by
  dsimp only
  by_cases hj : j = rw.length
  · subst hj
    simp at hx
    subst hx
    rw [if_pos rfl]; exact hv
  · rw [if_neg hj]
    refine h j x ?_
    rw [List.getElem?_append] at hx
    split at hx
    · exact hx
    · have : j - rw.length ≠ 0 := by omega
      obtain ⟨k, hk⟩ := Nat.exists_eq_succ_of_ne_zero this
      rw [hk] at hx
      simp at hx
theorem RowsV.snoc {l : List (Addr × Obj)} {rl : Nat → Nat → Option (Int × Int × Int)} {rv : List Value} {rr : Nat → Option (Int × Int × Int)} {ra : Addr} {e : Nat} {va vb : Value} (h : RowsV l rl rv) (hm : (ra, W.listOf #[va, vb] e) ∈ l) (ha : RuleV l (rr 0) va) (hb : RuleV l (rr 1) vb) :
    RowsV l (fun i => if i = rv.length then rr else rl i) (rv ++ [.ref ra]) := fun j x hx => by
  dsimp only
  by_cases hj : j = rv.length
  · subst hj
    simp at hx
    subst hx
    rw [if_pos rfl]; exact ⟨ra, e, va, vb, rfl, hm, ha, hb⟩
  · rw [if_neg hj]
    refine h j x ?_
    rw [List.getElem?_append] at hx
    split at hx
    · exact hx
    · have : j - rv.length ≠ 0 := by omega
      obtain ⟨k, hk⟩ := Nat.exists_eq_succ_of_ne_zero this
      rw [hk] at hx
      simp at hx
theorem CellsV.two {l : List (Addr × Obj)} {rr : Nat → Option (Int × Int × Int)} {rw : List Value} (h : CellsV l rr rw) (hl : rw.length = 2) : ∃ va vb, rw.toArray = #[va, vb] ∧ RuleV l (rr 0) va ∧ RuleV l (rr 1) vb := by
  match rw, hl with
  | [va, vb], _ => exact ⟨va, vb, rfl, h 0 va rfl, h 1 vb rfl⟩
/-- a new object sinks below seven -/
theorem News.sink9 {h₀ h : Heap} {L : Addr} {x a b c d e f g i k : Addr × Obj} {r : List (Addr × Obj)} (N : News h₀ L h (x :: a :: b :: c :: d :: e :: f :: g :: i :: k :: r)) : News h₀ L h (a :: b :: c :: d :: e :: f :: g :: i :: k :: x :: r) :=
  News.perm N fun q hq => by simp only [List.mem_cons] at hq ⊢; rcases hq with h | h | h | h | h | h | h | h | h | h | h <;> simp [h]
theorem News.sink78 {h₀ h : Heap} {L : Addr} {x a b c d e f g : Addr × Obj} {r : List (Addr × Obj)} (N : News h₀ L h (x :: a :: b :: c :: d :: e :: f :: g :: r)) : News h₀ L h (a :: b :: c :: d :: e :: f :: g :: x :: r) :=
  News.perm N fun q hq => by simp only [List.mem_cons] at hq ⊢; rcases hq with h | h | h | h | h | h | h | h | h <;> simp [h]
theorem push_list {rw : List Value} {v : Value} {e : Nat} : W.listOf (rw.toArray.push v) e = W.listOf (rw ++ [v]).toArray e := by rw [List.push_toArray]
local macro_rules | `(tactic| walk_at "call builtin:list.append") => `(tactic| (k_here; k_dflt (refine' PySem.W.append_K ?F ?N ?U ?_ ?z; (case F | N => k_asm); (case U => k_upd); (case z => (rw [sizeLine_eq, List.size_toArray]; omega))); intro h' F' N'))
local macro_rules | `(tactic| walk_at "call ref") => `(tactic| (k_here; (with_reducible show wpAny _ _ (call (.ref 293) [.ref _, .int _ _]) _ _ _); k_dflt (refine' told_c ?B ?F ?X ?N ?TT ?U ?hl ?hB ?hI ?z1 ?z2 ?z3 ?z4 ?z5 ?z6 ?hr ?hu ?_; (case N | B | F | X | TT => k_asm); (case U => k_updF); (case hB => assumption); (case hl => k_mem); (case hI => assumption); (case z1 | z2 | z3 | z4 | z5 | z6 => omega); (case hr => ktr_room); (case hu => ktr_units)); intro x' t' h' tk' oB' t1' F' N' hd' hx0' hx1'; (try dsimp only at N')))
inductive DrawnI (w : World) (s : Shared) (g' : Heap) (L' R I bag l tp bc pt : Nat) (k : Int) (t : Tok) (states : Int) (vs : List Value) (e : Nat) (oT oC oP : Obj) (n : Nat) (s₂ : Shared) : Prop
  | mk (i : Nat) (oc1 oc2 oc3 oc4 : Option Value) (oB' : Obj) (k' : Int) (tk' : Tok) (rv : List Value) (er : Nat) (rl : Nat → Nat → Option (Int × Int × Int)) (nw : List (Addr × Obj)) (h0 : n = states.toNat - i) (h1 : (i : Int) ≤ states) (h2 : rv.length = i) (h3 : RowsV nw rl rv) (h4 : (∀ i j, RuleOk states (rl i j))) (h5 : k' ≤ k + 6 * i) (h6 : 0 ≤ k') (h7 : Obj.IsDictOf (strKind PySem.Challenge.rw_tk0057_01.row.prog w) oB' [(Str.ofString "all", .ref l), (Str.ofString "at", .int k' tk')]) (h8 : (∃ hh tt, s₂ = { s with heap := hh, toks := tt })) (h9 : Fr g' L' s₂.heap (fun y => if y = Str.ofString "rules" then some (.ref R) else if y = Str.ofString "state" then oc1 else if y = Str.ofString "row" then oc2 else if y = Str.ofString "sign" then oc3 else if y = Str.ofString "form" then oc4 else if y = Str.ofString "bag" then some (.ref bag) else if y = Str.ofString "states" then some (.int states t) else none)) (h10 : News g' L' s₂.heap ((I, rngI i (states - i)) :: (R, W.listOf rv.toArray er) :: (bag, oB') :: (l, W.listOf vs.toArray e) :: (tp, oT) :: (bc, oC) :: (pt, oP) :: nw)) (h11 : (∀ q ∈ nw, q.1 ≠ I)) (h12 : (∀ q ∈ nw, q.1 ≠ R)) (h13 : (∀ q ∈ nw, q.1 ≠ bag)) (h14 : (∀ q ∈ nw, q.1 ≠ tp)) (h15 : (∀ q ∈ nw, q.1 ≠ pt)) : DrawnI w s g' L' R I bag l tp bc pt k t states vs e oT oC oP n s₂
inductive CellI (w : World) (s : Shared) (g' : Heap) (L' R I Rw I2 bag l tp bc pt : Nat) (k : Int) (t t7 : Tok) (states : Int) (vs : List Value) (e : Nat) (oT oC oP : Obj) (i : Nat) (rv : List Value) (er : Nat) (rl : Nat → Nat → Option (Int × Int × Int)) (n : Nat) (s₂ : Shared) : Prop
  | mk (j : Nat) (oc3 oc4 : Option Value) (oB' : Obj) (k' : Int) (tk' : Tok) (rw : List Value) (er2 : Nat) (rr : Nat → Option (Int × Int × Int)) (nw : List (Addr × Obj)) (h0 : n = 2 - j) (h1 : j ≤ 2) (h2 : rw.length = j) (h3 : CellsV nw rr rw) (h4 : (∀ j, RuleOk states (rr j))) (h5 : RowsV nw rl rv) (h6 : k' ≤ k + 6 * i + 3 * j) (h7 : 0 ≤ k') (h8 : Obj.IsDictOf (strKind PySem.Challenge.rw_tk0057_01.row.prog w) oB' [(Str.ofString "all", .ref l), (Str.ofString "at", .int k' tk')]) (h9 : (∃ hh tt, s₂ = { s with heap := hh, toks := tt })) (h10 : Fr g' L' s₂.heap (fun y => if y = Str.ofString "rules" then some (.ref R) else if y = Str.ofString "state" then some (.int i t7) else if y = Str.ofString "row" then some (.ref Rw) else if y = Str.ofString "sign" then oc3 else if y = Str.ofString "form" then oc4 else if y = Str.ofString "bag" then some (.ref bag) else if y = Str.ofString "states" then some (.int states t) else none)) (h11 : News g' L' s₂.heap ((I2, rngI j (2 - j)) :: (Rw, W.listOf rw.toArray er2) :: (I, rngI (i + 1) (states - i - 1)) :: (R, W.listOf rv.toArray er) :: (bag, oB') :: (l, W.listOf vs.toArray e) :: (tp, oT) :: (bc, oC) :: (pt, oP) :: nw)) (h12 : (∀ q ∈ nw, q.1 ≠ I2)) (h13 : (∀ q ∈ nw, q.1 ≠ Rw)) (h14 : (∀ q ∈ nw, q.1 ≠ I)) (h15 : (∀ q ∈ nw, q.1 ≠ R)) (h16 : (∀ q ∈ nw, q.1 ≠ bag)) (h17 : (∀ q ∈ nw, q.1 ≠ tp)) (h18 : (∀ q ∈ nw, q.1 ≠ pt)) : CellI w s g' L' R I Rw I2 bag l tp bc pt k t t7 states vs e oT oC oP i rv er rl n s₂
theorem drawn_c {bag l tp bc pt e : Nat} {oB oT oC oP : Obj} {vs : List Value} {ns : List Int} {k : Int} {tk t : Tok} {states : Int}
    (B : Below A₀ base outer h₀) (F : Fr h₀ L s.heap m) (X : (hd.heap_39 w.params).In h₀) (N : News h₀ L s.heap [(bag, oB), (l, W.listOf vs.toArray e), (tp, oT), (bc, oC), (pt, oP)]) (TT : Top p loose mean mg mb h₀)
    (hB : Obj.IsDictOf (strKind PySem.Challenge.rw_tk0057_01.row.prog w) oB [(Str.ofString "all", .ref l), (Str.ofString "at", .int k tk)]) (hI : IntsAre vs ns)
    (hne : bag < l) (hne2 : @Ne Nat tp bag) (hne3 : @Ne Nat bc bag) (hne4 : @Ne Nat pt bag) (h0 : 0 ≤ k) (h1 : k < 20) (hlen : ns.length ≤ 26) (hm0 : 2 ≤ states) (hm1 : states ≤ 3)
    (hdp : dp + 15 < recursionLimit) (hun : un + 400 < cLine) {Q : Value → Shared → Prop}
    (hret : ∀ (R : Nat) er oB' k' tk' rv rl nw h' tk2, Fr h₀ L h' m → News h₀ L h' ((R, W.listOf rv.toArray er) :: (bag, oB') :: (l, W.listOf vs.toArray e) :: (tp, oT) :: (bc, oC) :: (pt, oP) :: nw) → (rv.length : Int) = states → RowsV nw rl rv → (∀ i j, RuleOk states (rl i j)) →
      k' ≤ k + 18 → 0 ≤ k' → Obj.IsDictOf (strKind PySem.Challenge.rw_tk0057_01.row.prog w) oB' [(Str.ofString "all", .ref l), (Str.ofString "at", .int k' tk')] → (∀ q ∈ nw, q.1 ≠ R) → (∀ q ∈ nw, q.1 ≠ bag) → (∀ q ∈ nw, q.1 ≠ tp) → (∀ q ∈ nw, q.1 ≠ pt) → @LT.lt Nat _ bag R → @LT.lt Nat _ tp R → @LT.lt Nat _ pt R →
      Q (.ref R) { s with heap := h', toks := tk2 }) :
    wpC (model PySem.Challenge.rw_tk0057_01.row.prog w) (ktrTop dp un gd cn { kind := .function, names := csn, isGenerator := csg, isCoroutine := csc, more := csm } L a ccd cl outer) (call (.ref 307) [.ref bag, .int states t]) Q s := by
  revert X; k_fill; intro X
  refine wpC_call ?_
  k_dflt (refine' defC_K ?k1 ?k2 ?k3 ?k4 ?k5 ?kA ?kF ?kK ?k6 ?k7 ?k8 ?k9 ?kB ?_ ?c2 ?c3 ?c4 ?c5; (case kA => exact rfl); (case kF => exact rfl); (case kK => exact rfl); (case k1 => k_asm); (case k2 => k_asm); (case k3 => k_asm); (case k4 => k_asm); (case k5 => k_asm); (case k6 => k_is); (case k7 => k_is); (case k8 => k_room); (case k9 => first | exact BindsTo.of_eq rfl | exact binds_K (by k_in) rfl (by k_is) rfl rfl rfl | fail "k_enter: no rule for these arguments"); (case c5 => decide); (case kB => exact locs rfl); (case c2 => exact rfl); (case c3 => exact rfl); (case c4 => exact rfl); k_whole; intro g' L' h' FG' F' N' B' X' T' l'; (try dsimp only); (try k_lift B'))
  refine wpC_cons (wpC_of_any ?_)
  k_steps
  dsimp only [nextC]
  refine wpC_cons ?_
  refine wpC_For ?_
  k_steps
  (with_reducible rename IsRange _ _ _ _ _ _ _ _ => hR)
  (with_reducible rename News g' L' _ _ => kN)
  (with_reducible rename Fr g' L' _ _ => kF)
  k_dflt (refine iter_rangeN kF kN hR (by omega) (by omega) ?_)
  intro I h2 F2 N2 hI2
  simp only [AllLt, and_true] at hI2
  refine Classical.byContradiction fun hG0 => ?_
  obtain ⟨R, q0, q1, q2, q3, q4, q5, N3, F3⟩ : ∃ R, @LT.lt Nat _ R I ∧ @LT.lt Nat _ bag R ∧ @LT.lt Nat _ l R ∧ @LT.lt Nat _ tp R ∧ @LT.lt Nat _ bc R ∧ @LT.lt Nat _ pt R ∧ News g' L' h2 ((I, rngI 0 states) :: (R, W.listOf #[] 0) :: [(bag, oB), (l, W.listOf vs.toArray e), (tp, oT), (bc, oC), (pt, oP)]) ∧
      Fr g' L' h2 (fun y => if y = Str.ofString "rules" then some (.ref R) else if y = Str.ofString "state" then none else if y = Str.ofString "row" then none else if y = Str.ofString "sign" then none else if y = Str.ofString "form" then none
      else if y = Str.ofString "bag" then some (.ref bag) else if y = Str.ofString "states" then some (.int states t) else none) := ⟨_, by omega, by omega, by omega, by omega, by omega, by omega, N2, Fr.eqv F2 (by intro y; (by_cases hy0 : y = PySem.Str.ofString "rules"; (subst hy0; rfl); by_cases hy1 : y = PySem.Str.ofString "state"; (subst hy1; rfl); by_cases hy2 : y = PySem.Str.ofString "row"; (subst hy2; rfl); by_cases hy3 : y = PySem.Str.ofString "sign"; (subst hy3; rfl); by_cases hy4 : y = PySem.Str.ofString "form"; (subst hy4; rfl); by_cases hy5 : y = PySem.Str.ofString "bag"; (subst hy5; rfl); by_cases hy6 : y = PySem.Str.ofString "states"; (subst hy6; rfl); ((repeat rw [if_neg (by assumption)]); first | done | rfl | exact lookup_none_of (List.map PySem.Str.ofString ["rules", "state", "row", "sign", "form", "bag", "states"]) rfl (by simp [*]) | (symm; exact lookup_none_of (List.map PySem.Str.ofString ["rules", "state", "row", "sign", "form", "bag", "states"]) rfl (by simp [*])))))⟩
  refine hG0 ?_
  clear hG0
  refine loopC (DrawnI w s g' L' R I bag l tp bc pt k t states vs e oT oC oP) ?_ states.toNat _ ?_
  rotate_left
  · exact ⟨0, _, _, _, _, oB, k, tk, [], 0, fun _ _ => none, [], by omega, by omega, rfl, fun i x h => (by simp at h), fun _ _ a b c h => (by cases h), by omega, h0, hB, ⟨_, _, rfl⟩, F3, (by simpa using N3), (fun q hq => nomatch hq), (fun q hq => nomatch hq), (fun q hq => nomatch hq), (fun q hq => nomatch hq), (fun q hq => nomatch hq)⟩
  intro n s₂ hI0 ih
  refine Classical.byContradiction fun hG0 => ?_
  obtain ⟨i, oc1, oc2, oc3, oc4, oB', k', tk', rv, er, rl, nw, rfl, hi, hrl, hrows, hok, hk1, hk0, hB', ⟨hh, tt, rfl⟩, F4, N4, d1, d2, d3, d4, d9⟩ := hI0
  refine hG0 ?_
  clear hG0
  clear F3 N3 F2 N2 kF kN hB hR hI2
  refine codeC_for ?_
  by_cases hlt : (i : Int) < states
  · k_dflt (refine' next_rangeU ?F ?N ?U ?hl ?_; (case F => k_asm); (case N => k_asm); (case U => k_updF); (case hl => omega))
    intro h5 tk5 t5 F5 N5
    dsimp only at N5 ⊢
    k_steps
    refine wpC_cons (wpC_of_any ?_)
    k_steps
    dsimp only [nextC]
    refine wpC_cons ?_
    refine wpC_For ?_
    k_steps
    (with_reducible rename IsRange _ _ _ _ _ _ _ _ => hR2)
    (with_reducible rename News g' L' _ _ => kN)
    (with_reducible rename Fr g' L' _ _ => kF)
    k_dflt (refine iter_rangeN kF kN hR2 (by decide) (by decide) ?_)
    (with_reducible rename _ ∧ _ ∧ _ ∧ _ ∧ _ ∧ _ ∧ _ ∧ AllLt _ _ => l8)
    intro I2 h6 F6 N6 hI6
    simp only [AllLt] at hI6
    refine Classical.byContradiction fun hG0 => ?_
    obtain ⟨Rw, t7, p0, p1, p2, p3, p4, p5, p6, p7, p8, p9, N7, F7⟩ : ∃ Rw t7, @LT.lt Nat _ Rw I2 ∧ @LT.lt Nat _ I Rw ∧ @LT.lt Nat _ R Rw ∧ @LT.lt Nat _ bag Rw ∧ @LT.lt Nat _ l Rw ∧ @LT.lt Nat _ tp Rw ∧ (∀ q ∈ nw, q.1 ≠ I2) ∧ (∀ q ∈ nw, q.1 ≠ Rw) ∧ @LT.lt Nat _ bc Rw ∧ @LT.lt Nat _ pt Rw ∧
        News g' L' h6 ((I2, rngI 0 2) :: (Rw, W.listOf #[] 0) :: (I, rngI (i + 1) (states - i - 1)) :: (R, W.listOf rv.toArray er) :: (bag, oB') :: (l, W.listOf vs.toArray e) :: (tp, oT) :: (bc, oC) :: (pt, oP) :: nw) ∧
        Fr g' L' h6 (fun y => if y = Str.ofString "rules" then some (.ref R) else if y = Str.ofString "state" then some (.int i t7) else if y = Str.ofString "row" then some (.ref Rw) else if y = Str.ofString "sign" then oc3 else if y = Str.ofString "form" then oc4
          else if y = Str.ofString "bag" then some (.ref bag) else if y = Str.ofString "states" then some (.int states t) else none) :=
      ⟨_, _, by omega, by omega, by omega, by omega, by omega, by omega, AllLt.nes hI6.2.2.2.2.2.2.2.2 (Nat.le_refl _), AllLt.nes l8.2.2.2.2.2.2.2 (Nat.le_refl _), by omega, by omega, N6, Fr.eqv F6 (by intro y; (by_cases hy0 : y = PySem.Str.ofString "rules"; (subst hy0; rfl); by_cases hy1 : y = PySem.Str.ofString "state"; (subst hy1; rfl); by_cases hy2 : y = PySem.Str.ofString "row"; (subst hy2; rfl); by_cases hy3 : y = PySem.Str.ofString "sign"; (subst hy3; rfl); by_cases hy4 : y = PySem.Str.ofString "form"; (subst hy4; rfl); by_cases hy5 : y = PySem.Str.ofString "bag"; (subst hy5; rfl); by_cases hy6 : y = PySem.Str.ofString "states"; (subst hy6; rfl); ((repeat rw [if_neg (by assumption)]); first | done | rfl | exact lookup_none_of (List.map PySem.Str.ofString ["rules", "state", "row", "sign", "form", "bag", "states"]) rfl (by simp [*]) | (symm; exact lookup_none_of (List.map PySem.Str.ofString ["rules", "state", "row", "sign", "form", "bag", "states"]) rfl (by simp [*])))))⟩
    clear N6 F6 kN kF hI6 hR2; (try clear F4)
    clear l8
    refine hG0 ?_
    clear hG0
    refine loopC (CellI w s g' L' R I Rw I2 bag l tp bc pt k t t7 states vs e oT oC oP i rv er rl) ?_ 2 _ ?_
    rotate_left
    · exact ⟨0, _, _, oB', k', tk', [], 0, fun _ => none, nw, by omega, by omega, rfl, fun i x h => (by simp at h), fun _ a b c h => (by cases h), hrows, by omega, hk0, hB', ⟨_, _, rfl⟩, F7, (by simpa using N7), p6, p7, d1, d2, d3, d4, d9⟩
    clear F7 N7 d1 d2 d3 d4 d9 hrows p6 p7 hB' hk1 hk0
    (try clear N')
    (try clear F')
    intro n s₂ hI0 ih2
    refine Classical.byContradiction fun hG0 => ?_
    obtain ⟨j, oc3, oc4, oB', k', tk', rw, er2, rr, nw, rfl, hj, hrw, hcells, hok2, hrows, hk1, hk0, hB', ⟨hh, tt, rfl⟩, F8, N8, d5, d6, d1, d2, d3, d4, d9⟩ := hI0
    refine hG0 ?_
    clear hG0
    refine codeC_for ?_
    by_cases hlt2 : j < 2
    · k_dflt (refine' next_rangeU ?F ?N ?U ?hl ?_; (case F => k_asm); (case N => k_asm); (case U => k_updF); (case hl => omega))
      intro h9 tk9 t9 F9 N9
      dsimp only at N9 ⊢
      k_steps
      refine wpC_cons (wpC_of_any ?_)
      k_steps
      dsimp only [nextC]
      refine wpC_cons (wpC_of_any ?_)
      k_steps
      all_goals (with_reducible rename News g' L' _ _ => kN)
      all_goals (with_reducible rename Fr g' L' _ _ => kF)
      all_goals (rw [push_list, show (2 : Int) - (j : Int) - 1 = 2 - ((j + 1 : Nat) : Int) by omega, show (j : Int) + 1 = ((j + 1 : Nat) : Int) by omega] at kN)
      all_goals (dsimp only [nextC]; refine wpC_nil ?_; dsimp only [turnC])
      · (with_reducible rename _ ∧ _ ∧ _ ∧ _ ∧ _ ∧ _ ∧ _ ∧ _ ∧ _ ∧ AllLt _ nw => lD)
        refine' ih2 _ (2 - (j + 1)) ?lt ⟨j + 1, _, _, _, _, _, rw ++ [_], _, fun q => if q = rw.length then _ else rr q, _, rfl, ?a1, ?a2, CellsV.snoc ?a3 ?a4, ?a5, ?a6, ?a7, ?a8, ?a9, ⟨_, _, rfl⟩, Fr.eqv kF ?a10, News.sink9 kN, ?b1, ?b2, ?b3, ?b4, ?b5, ?b6, ?b7⟩
        case a4 => exact .inr ⟨_, _, _, _, _, _, _, _, rfl, rfl, .head _⟩
        case a5 =>
          intro q a b c h
          (try dsimp only at h)
          split at h
          · cases h; exact ⟨by assumption, by assumption, Int.fmod_nonneg_of_pos _ (by decide), Int.fmod_lt_of_pos _ (by decide), by assumption, by assumption⟩
          · exact hok2 q a b c h
        case lt => omega
        case a1 => omega
        case a2 => simp [hrw]
        case a3 => exact hcells.mono fun q hq => .tail _ hq
        case a6 => exact hrows.mono fun q hq => .tail _ hq
        case a9 => assumption
        case a7 => omega
        case a8 => omega
        case a10 => intro y; (by_cases hy0 : y = PySem.Str.ofString "rules"; (subst hy0; rfl); by_cases hy1 : y = PySem.Str.ofString "state"; (subst hy1; rfl); by_cases hy2 : y = PySem.Str.ofString "row"; (subst hy2; rfl); by_cases hy3 : y = PySem.Str.ofString "sign"; (subst hy3; rfl); by_cases hy4 : y = PySem.Str.ofString "form"; (subst hy4; rfl); by_cases hy5 : y = PySem.Str.ofString "bag"; (subst hy5; rfl); by_cases hy6 : y = PySem.Str.ofString "states"; (subst hy6; rfl); ((repeat rw [if_neg (by assumption)]); first | done | rfl | exact lookup_none_of (List.map PySem.Str.ofString ["rules", "state", "row", "sign", "form", "bag", "states"]) rfl (by simp [*]) | (symm; exact lookup_none_of (List.map PySem.Str.ofString ["rules", "state", "row", "sign", "form", "bag", "states"]) rfl (by simp [*]))))
        case b1 => exact List.forall_mem_cons.mpr ⟨Nat.ne_of_gt lD.1, d5⟩
        case b2 => exact List.forall_mem_cons.mpr ⟨Nat.ne_of_gt lD.2.1, d6⟩
        case b3 => exact List.forall_mem_cons.mpr ⟨Nat.ne_of_gt lD.2.2.1, d1⟩
        case b4 => exact List.forall_mem_cons.mpr ⟨Nat.ne_of_gt lD.2.2.2.1, d2⟩
        case b5 => exact List.forall_mem_cons.mpr ⟨Nat.ne_of_gt lD.2.2.2.2.1, d3⟩
        case b6 => exact List.forall_mem_cons.mpr ⟨Nat.ne_of_gt lD.2.2.2.2.2.2.1, d4⟩
        case b7 => exact List.forall_mem_cons.mpr ⟨Nat.ne_of_gt lD.2.2.2.2.2.2.2.2.1, d9⟩
      · refine' ih2 _ (2 - (j + 1)) ?lt ⟨j + 1, _, _, _, _, _, rw ++ [_], _, fun q => if q = rw.length then _ else rr q, _, rfl, ?a1, ?a2, CellsV.snoc ?a3 ?a4, ?a5, ?a6, ?a7, ?a8, ?a9, ⟨_, _, rfl⟩, Fr.eqv kF ?a10, kN, ?b1, ?b2, ?b3, ?b4, ?b5, ?b6, ?b7⟩
        case a4 => exact .inl ⟨rfl, rfl⟩
        case a5 =>
          intro q a b c h
          (try dsimp only at h)
          split at h
          · cases h
          · exact hok2 q a b c h
        case lt => omega
        case a1 => omega
        case a2 => simp [hrw]
        case a3 => exact hcells
        case a6 => exact hrows
        case a9 => assumption
        case a7 => omega
        case a8 => omega
        case a10 => intro y; (by_cases hy0 : y = PySem.Str.ofString "rules"; (subst hy0; rfl); by_cases hy1 : y = PySem.Str.ofString "state"; (subst hy1; rfl); by_cases hy2 : y = PySem.Str.ofString "row"; (subst hy2; rfl); by_cases hy3 : y = PySem.Str.ofString "sign"; (subst hy3; rfl); by_cases hy4 : y = PySem.Str.ofString "form"; (subst hy4; rfl); by_cases hy5 : y = PySem.Str.ofString "bag"; (subst hy5; rfl); by_cases hy6 : y = PySem.Str.ofString "states"; (subst hy6; rfl); ((repeat rw [if_neg (by assumption)]); first | done | rfl | exact lookup_none_of (List.map PySem.Str.ofString ["rules", "state", "row", "sign", "form", "bag", "states"]) rfl (by simp [*]) | (symm; exact lookup_none_of (List.map PySem.Str.ofString ["rules", "state", "row", "sign", "form", "bag", "states"]) rfl (by simp [*]))))
        case b1 => exact d5
        case b2 => exact d6
        case b3 => exact d1
        case b4 => exact d2
        case b5 => exact d3
        case b6 => exact d4
        case b7 => exact d9
    · k_dflt (refine end_range0 rfl F8 N8 (by omega) ?_ ?_)
      · intro q hq
        rcases List.mem_cons.mp hq with rfl | hq
        · exact Nat.ne_of_lt p0
        rcases List.mem_cons.mp hq with rfl | hq
        · exact Nat.ne_of_lt (Nat.lt_trans p1 p0)
        rcases List.mem_cons.mp hq with rfl | hq
        · exact Nat.ne_of_lt (Nat.lt_trans p2 p0)
        rcases List.mem_cons.mp hq with rfl | hq
        · exact Nat.ne_of_lt (Nat.lt_trans p3 p0)
        rcases List.mem_cons.mp hq with rfl | hq
        · exact Nat.ne_of_lt (Nat.lt_trans p4 p0)
        rcases List.mem_cons.mp hq with rfl | hq
        · exact Nat.ne_of_lt (Nat.lt_trans p5 p0)
        rcases List.mem_cons.mp hq with rfl | hq
        · exact Nat.ne_of_lt (Nat.lt_trans p8 p0)
        rcases List.mem_cons.mp hq with rfl | hq
        · exact Nat.ne_of_lt (Nat.lt_trans p9 p0)
        · exact d5 q hq
      intro h9 F9 N9
      refine Classical.byContradiction fun hG0 => ?_
      obtain ⟨va, vb, he2, ra, rb⟩ := CellsV.two hcells (by omega)
      refine hG0 ?_
      clear hG0
      clear N8 F8 ih2
      dsimp only [nextC]
      refine wpC_cons (wpC_of_any ?_)
      k_steps
      dsimp only [nextC]
      refine wpC_nil ?_
      dsimp only [turnC]
      (with_reducible rename News g' L' _ _ => kN)
      (with_reducible rename Fr g' L' _ _ => kF)
      rw [push_list, he2, show states - (i : Int) - 1 = states - ((i + 1 : Nat) : Int) by omega, show (i : Int) + 1 = ((i + 1 : Nat) : Int) by omega] at kN
      refine' ih _ (states.toNat - (i + 1)) ?lt ⟨i + 1, _, _, _, _, _, _, _, rv ++ [.ref Rw], _, fun q => if q = rv.length then rr else rl q, (Rw, W.listOf #[va, vb] er2) :: nw, rfl, ?a1, ?a2, RowsV.snoc ?a3 (.head _) ?a4 ?a12, ?a5, ?a7, ?a8, ?a9, ⟨_, _, rfl⟩, Fr.eqv kF ?a10, News.sink78 kN, ?b3, ?b4, ?b5, ?b6, ?b7⟩
      case a4 => exact ra.mono fun q hq => .tail _ hq
      case a12 => exact rb.mono fun q hq => .tail _ hq
      case a5 =>
        intro q1 q a b c h
        (try dsimp only at h)
        split at h
        · exact hok2 q a b c h
        · exact hok q1 q a b c h
      case lt => omega
      case a1 => omega
      case a2 => simp [hrl]
      case a3 => exact hrows.mono fun q hq => .tail _ hq
      case a9 => assumption
      case a7 => omega
      case a8 => omega
      case a10 => intro y; (by_cases hy0 : y = PySem.Str.ofString "rules"; (subst hy0; rfl); by_cases hy1 : y = PySem.Str.ofString "state"; (subst hy1; rfl); by_cases hy2 : y = PySem.Str.ofString "row"; (subst hy2; rfl); by_cases hy3 : y = PySem.Str.ofString "sign"; (subst hy3; rfl); by_cases hy4 : y = PySem.Str.ofString "form"; (subst hy4; rfl); by_cases hy5 : y = PySem.Str.ofString "bag"; (subst hy5; rfl); by_cases hy6 : y = PySem.Str.ofString "states"; (subst hy6; rfl); ((repeat rw [if_neg (by assumption)]); first | done | rfl | exact lookup_none_of (List.map PySem.Str.ofString ["rules", "state", "row", "sign", "form", "bag", "states"]) rfl (by simp [*]) | (symm; exact lookup_none_of (List.map PySem.Str.ofString ["rules", "state", "row", "sign", "form", "bag", "states"]) rfl (by simp [*]))))
      case b3 => exact List.forall_mem_cons.mpr ⟨Nat.ne_of_gt p1, d1⟩
      case b4 => exact List.forall_mem_cons.mpr ⟨Nat.ne_of_gt p2, d2⟩
      case b5 => exact List.forall_mem_cons.mpr ⟨Nat.ne_of_gt p3, d3⟩
      case b6 => exact List.forall_mem_cons.mpr ⟨Nat.ne_of_gt p5, d4⟩
      case b7 => exact List.forall_mem_cons.mpr ⟨Nat.ne_of_gt p9, d9⟩
  · k_dflt (refine end_range0 rfl F4 N4 (by omega) ?_ ?_)
    · intro q hq
      rcases List.mem_cons.mp hq with rfl | hq
      · exact Nat.ne_of_lt q0
      rcases List.mem_cons.mp hq with rfl | hq
      · exact Nat.ne_of_lt (Nat.lt_trans q1 q0)
      rcases List.mem_cons.mp hq with rfl | hq
      · exact Nat.ne_of_lt (Nat.lt_trans q2 q0)
      rcases List.mem_cons.mp hq with rfl | hq
      · exact Nat.ne_of_lt (Nat.lt_trans q3 q0)
      rcases List.mem_cons.mp hq with rfl | hq
      · exact Nat.ne_of_lt (Nat.lt_trans q4 q0)
      rcases List.mem_cons.mp hq with rfl | hq
      · exact Nat.ne_of_lt (Nat.lt_trans q5 q0)
      · exact d1 q hq
    intro h9 F9 N9
    clear N4 F4 ih
    dsimp only [nextC]
    refine wpC_of_any ?_
    k_steps
    (with_reducible rename News h₀ L _ _ => kN)
    (with_reducible rename Fr h₀ L _ _ => kF)
    exact hret R _ _ _ _ rv rl nw _ _ kF kN (by omega) hrows hok (by omega) hk0 hB' d2 d3 d4 d9 q1 q3 q5
end
theorem flush24 {prog : PySem.Program} {w : PySem.World} {A : PySem.Around} {Q : Unit → PySem.Shared → Prop} {E : PySem.Value → PySem.Shared → Prop} {s : PySem.Shared} (h : Q () s) : PySem.wpAny (PySem.model prog w) A (pure ()) Q E s := by
  w_top off
  first | (walk1; fail) | exact PySem.wpAny_pure h
section
/-- a tape's signs -/
def Signs (xs : List Int) : Prop := ∀ i : Nat, 0 ≤ xs.getD i 0 ∧ xs.getD i 0 < 2
theorem pair_at {led : List (Addr × Obj)} {rl : Nat → Option (Int × Int × Int)} {va vb : Value} {j : Nat} (hj : j < 2) (ha : RuleV led (rl 0) va) (hb : RuleV led (rl 1) vb) : ∃ v, (#[va, vb] : Array Value)[j]? = some v ∧ RuleV led (rl j) v := by
  match j, hj with
  | 0, _ => exact ⟨va, rfl, ha⟩
  | 1, _ => exact ⟨vb, rfl, hb⟩
theorem due_c {tp R e er : Nat} {xs : List Int} {tvs rv : List Value} {rl : Nat → Nat → Option (Int × Int × Int)} {pl st states : Int} {tpl tst : Tok} {fx : List (Addr × Obj)}
    (B : Below A₀ base outer h₀) (F : Fr h₀ L s.heap m) (X : (hd.heap_39 w.params).In h₀) (N : News h₀ L s.heap news) (TT : Top p loose mean mg mb h₀)
    (htp : (tp, W.listOf tvs.toArray e) ∈ news) (hR : (R, W.listOf rv.toArray er) ∈ news) (hrows : RowsV fx rl rv) (hfx : ∀ q ∈ fx, q ∈ news) (hrl : (rv.length : Int) = states)
    (hI : IntsAre tvs xs) (hn : 2 ≤ xs.length) (hm : xs.length ≤ 4) (hsg : Signs xs) (h0 : 0 ≤ pl) (h1 : pl ≤ xs.length) (hs0 : 0 ≤ st) (hs1 : st < states) (hs2 : states ≤ 3) (hdp : dp + 5 < recursionLimit) (hun : un + 200 < cLine)
    (hnone : (∀ a b c, ¬ (pl < xs.length ∧ rl st.toNat (xs.getD pl.toNat 0).toNat = some (a, b, c) ∧ ¬ (b = 0 ∧ pl = 0))) → ∀ h' tk', Fr h₀ L h' m → News h₀ L h' news → Q .none { s with heap := h', toks := tk' })
    (hsome : ∀ a b c (r ra : Nat) va vb e2 e3 ta tb tc, pl < xs.length → rl st.toNat (xs.getD pl.toNat 0).toNat = some (a, b, c) → ¬ (b = 0 ∧ pl = 0) → rv.toArray[st.toNat]? = some (.ref ra) → (ra, W.listOf #[va, vb] e2) ∈ fx →
      (#[va, vb] : Array Value)[(xs.getD pl.toNat 0).toNat]? = some (.ref r) → (r, ({ cls := .type "tuple", data := .seq #[.int a ta, .int b tb, .int c tc] e3 } : Obj)) ∈ fx →
      ∀ D t1 t2 e' h' tk', Fr h₀ L h' m → News h₀ L h' ((D, { cls := .type "tuple", data := .seq #[.int st t1, .int (xs.getD pl.toNat 0) t2] e' }) :: news) → (∀ q ∈ news, q.1 ≠ D) → Q (.ref D) { s with heap := h', toks := tk' }) :
    wpAny (model PySem.Challenge.rw_tk0057_01.row.prog w) (ktrTop dp un gd cn { kind := .function, names := csn, isGenerator := csg, isCoroutine := csc, more := csm } L a ccd cl outer) (call (.ref 326) [.ref tp, .int pl tpl, .int st tst, .ref R]) Q E s := by
  by_cases hlt : pl < xs.length
  · obtain ⟨g0, g1⟩ := hsg pl.toNat
    obtain ⟨ra, e2, va, vb, k1, k2, k3, k4⟩ := hrows st.toNat rv[st.toNat] (List.getElem?_eq_getElem (by omega))
    have hx : rv.toArray[st.toNat]? = some (.ref ra) := by rw [← k1, List.getElem?_toArray]; exact List.getElem?_eq_getElem (by omega)
    obtain ⟨v, hv, hrv⟩ := pair_at (rl := rl st.toNat) (j := (xs.getD pl.toNat 0).toNat) (by omega) k3 k4
    rcases hrv with ⟨hr0, hvn⟩ | ⟨r, e4, a1, b1, c1, ta, tb, tc, hr0, hvr, hrm⟩
    · exact due_none (r := 0) (e3 := 0) (a1 := 0) (b1 := 0) (c1 := 0) (ta := tst) (tb := tst) (tc := tst) B F X N TT htp hR (hfx _ k2) hx hv ⟨g0, g1⟩ hvn hI hn hm h0 hlt hs0 (by omega) hdp hun (hnone fun a b c hh => by rw [hr0] at hh; cases hh.2.1)
    · by_cases hb : b1 = 0 ∧ pl = 0
      · refine due_rule B F X N TT htp hR (hfx _ k2) hx hv ⟨g0, g1⟩ hvr (hfx _ hrm) hI hn hm h0 hlt hs0 (by omega) hdp hun ?_
        rw [if_pos hb]
        refine hnone fun a b c hh => ?_
        rw [hr0] at hh
        obtain ⟨_, h2, h3⟩ := hh
        cases h2
        exact h3 hb
      · refine due_rule B F X N TT htp hR (hfx _ k2) hx hv ⟨g0, g1⟩ hvr (hfx _ hrm) hI hn hm h0 hlt hs0 (by omega) hdp hun ?_
        rw [if_neg hb]
        exact hsome a1 b1 c1 r ra va vb e2 e4 ta tb tc hlt hr0 hb hx k2 (hvr ▸ hv) hrm
  · exact due_end (ra := 0) (er := 0) (e2 := 0) (rv := []) (va := .none) (vb := .none) (v := .none) (r := 0) (e3 := 0) (a1 := 0) (b1 := 0) (c1 := 0) (ta := tst) (tb := tst) (tc := tst) B F X N TT htp hI hn hm h0 (by omega) hs0 (by omega) hdp hun (hnone fun a b c hh => hlt hh.1)
end
local macro_rules | `(tactic| walk_at "subscriptTail") => `(tactic| (k_here; (with_reducible show wpAny _ _ (subscriptTail _ _ (Value.bytes _ _) (Value.ref _)) _ _ _); (with_reducible rename Fr _ _ _ _ => F9); (with_reducible rename News _ _ _ _ => N9); k_dflt (refine PySem.W.KBc.slice_K (s := ⟨_, _, _, _, _⟩) F9 N9 rfl (by constructor) (by constructor) (by first | decide | (rw [PySem.W.KBw.ints_length]; omega)) ?_); intro _ _ _ _ _ _))
local macro_rules | `(tactic| walk_at "my size") => `(tactic| first | (with_reducible exact pk3) | (with_reducible exact pk2) | ((with_reducible refine' app_le ?za ?zb); (case za | zb => walk_at "my size")) | (with_reducible exact Nat.le_trans (PySem.W.KBc.size_picked_le _ _ _) (by assumption)) | (with_reducible exact Nat.le_refl _))
local macro_rules | `(tactic| walk_at "binaryOp Add bytes bytes") => `(tactic| (k_here; (with_reducible show wpAny _ _ (binaryOp Operator.Add (Value.bytes _ _) (Value.bytes _ _)) _ _ _); k_dflt (refine PySem.W.KBy.add_bytes (Nat.le_trans (Nat.add_le_add (by walk_at "my size") (by walk_at "my size")) (by decide)) ?_); intro _ _))
theorem flush25 {prog : PySem.Program} {w : PySem.World} {A : PySem.Around} {Q : Unit → PySem.Shared → Prop} {E : PySem.Value → PySem.Shared → Prop} {s : PySem.Shared} (h : Q () s) : PySem.wpAny (PySem.model prog w) A (pure ()) Q E s := by
  w_top off
  first | (walk1; fail) | exact PySem.wpAny_pure h
section
theorem ints2 {vs : List Value} {a b : Int} (h : IntsAre vs [a, b]) : ∃ ta tb, vs = [.int a ta, .int b tb] := by
  cases h with | cons _ _ h => cases h with | cons _ _ h => cases h; exact ⟨_, _, rfl⟩
theorem ints3 {vs : List Value} {a b c : Int} (h : IntsAre vs [a, b, c]) : ∃ ta tb tc, vs = [.int a ta, .int b tb, .int c tc] := by
  cases h with | cons _ _ h => obtain ⟨_, _, rfl⟩ := ints2 h; exact ⟨_, _, _, rfl⟩
theorem ints4 {vs : List Value} {a b c d : Int} (h : IntsAre vs [a, b, c, d]) : ∃ ta tb tc td, vs = [.int a ta, .int b tb, .int c tc, .int d td] := by
  cases h with | cons _ _ h => obtain ⟨_, _, _, rfl⟩ := ints3 h; exact ⟨_, _, _, _, rfl⟩
local macro_rules | `(tactic| walk_at "CompEnd") => `(tactic| ((with_reducible rename Fr _ _ _ _ => F9); (with_reducible rename News _ _ _ _ => N9); (refine LCg.CompEnd.intro F9 N9 _ (fun p hp => hp) ?o9 ?s9 ?_); (case o9 => first | exact True.intro | ((try simp only [LCg.Off3, and_true]); assumption)); (case s9 => lcg_src)))
local macro_rules | `(tactic| walk_at "call builtin:bytes.join") => `(tactic| (k_here; k_dflt (first
  | (refine' join_2 ?o ?za ?zb ?_; (case o => exact (News.get (by k_asm) (by k_mem))); (case za => exact Nat.le_trans pk2 (by decide)); (case zb => exact Nat.le_trans pk2 (by decide)))
  | (refine' join_3 ?o ?za ?zb ?zc ?_; (case o => exact (News.get (by k_asm) (by k_mem))); (case za => exact Nat.le_trans pk2 (by decide)); (case zb => exact Nat.le_trans pk2 (by decide)); (case zc => exact Nat.le_trans pk2 (by decide)))
  | (refine' join_4 ?o ?za ?zb ?zc ?zd ?_; (case o => exact (News.get (by k_asm) (by k_mem))); (case za => exact Nat.le_trans pk2 (by decide)); (case zb => exact Nat.le_trans pk2 (by decide)); (case zc => exact Nat.le_trans pk2 (by decide)); (case zd => exact Nat.le_trans pk2 (by decide)))); intro tj kj hj'))
abbrev shownB (xs : List Int) (pl st : Int) : Array UInt8 := PySem.W.KBy.picked (Builtin.Bytes.joined #[] (xs.map oi)) none (some pl) ++ abc st ++ PySem.W.KBy.picked (Builtin.Bytes.joined #[] (xs.map oi)) (some pl) none
theorem shown_c {tp e : Nat} {xs : List Int} {vs : List Value} {pl st : Int} {tpl tst : Tok}
    (B : Below A₀ base outer h₀) (F : Fr h₀ L s.heap m) (X : (hd.heap_39 w.params).In h₀) (N : News h₀ L s.heap news) (TT : Top p loose mean mg mb h₀) (hr : (tp, W.listOf vs.toArray e) ∈ news)
    (hI : IntsAre vs xs) (hn : 2 ≤ xs.length) (hm : xs.length ≤ 4) (hdp : dp + 5 < recursionLimit) (hun : un + 200 < cLine)
    (hret : ∀ t h' tk', Fr h₀ L h' m → News h₀ L h' news → Q (.bytes (shownB xs pl st) t) { s with heap := h', toks := tk' }) :
    wpAny (model PySem.Challenge.rw_tk0057_01.row.prog w) (ktrTop dp un gd cn { kind := .function, names := csn, isGenerator := csg, isCoroutine := csc, more := csm } L a ccd cl outer) (call (.ref 319) [.ref tp, .int pl tpl, .int st tst]) Q E s := by
  have NN := News.add N hr
  clear N
  rcases xs with _ | ⟨x0, _ | ⟨x1, _ | ⟨x2, _ | ⟨x3, _ | ⟨x4, xr⟩⟩⟩⟩⟩
  · simp at hn
  · simp at hn
  · obtain ⟨u0, u1, rfl⟩ := ints2 hI
    revert X; k_fill; intro X
    refine wpAny_call ?_
    k_dflt (walk_at "my enter")
    k_steps
    (with_reducible rename News h₀ L _ _ => kN)
    (with_reducible rename Fr h₀ L _ _ => kF)
    (try dsimp only at kN kF)
    exact hret _ _ _ kF (News.tail' (News.tail' kN))
  · obtain ⟨u0, u1, u2, rfl⟩ := ints3 hI
    revert X; k_fill; intro X
    refine wpAny_call ?_
    k_dflt (walk_at "my enter")
    k_steps
    (with_reducible rename News h₀ L _ _ => kN)
    (with_reducible rename Fr h₀ L _ _ => kF)
    (try dsimp only at kN kF)
    exact hret _ _ _ kF (News.tail' (News.tail' kN))
  · obtain ⟨u0, u1, u2, u3, rfl⟩ := ints4 hI
    revert X; k_fill; intro X
    refine wpAny_call ?_
    k_dflt (walk_at "my enter")
    k_steps
    (with_reducible rename News h₀ L _ _ => kN)
    (with_reducible rename Fr h₀ L _ _ => kF)
    (try dsimp only at kN kF)
    exact hret _ _ _ kF (News.tail' (News.tail' kN))
  · simp at hm
end
theorem flush26 {prog : PySem.Program} {w : PySem.World} {A : PySem.Around} {Q : Unit → PySem.Shared → Prop} {E : PySem.Value → PySem.Shared → Prop} {s : PySem.Shared} (h : Q () s) : PySem.wpAny (PySem.model prog w) A (pure ()) Q E s := by
  w_top off
  first | (walk1; fail) | exact PySem.wpAny_pure h
section
/-- the law's locals -/
def lawM (one sgn pat nws txt du lat rul tap sta pla stt mrk way beh trn sc : Option Value) : Str → Option Value := fun y =>
  if y = Str.ofString "one" then one else if y = Str.ofString "sign" then sgn else if y = Str.ofString "pattern" then pat else if y = Str.ofString "news" then nws
  else if y = Str.ofString "text" then txt else if y = Str.ofString "due" then du else if y = Str.ofString "later" then lat else if y = Str.ofString "rules" then rul
  else if y = Str.ofString "tape" then tap else if y = Str.ofString "states" then sta else if y = Str.ofString "place" then pla else if y = Str.ofString "state" then stt
  else if y = Str.ofString "mark" then mrk else if y = Str.ofString "way" then way else if y = Str.ofString "behind" then beh else if y = Str.ofString "turn" then trn
  else if y = Str.ofString "script" then sc else none
theorem lawM_one {v one sgn pat nws txt du lat rul tap sta pla stt mrk way beh trn sc : Option Value} {y : Str} : (if y = Str.ofString "one" then v else lawM one sgn pat nws txt du lat rul tap sta pla stt mrk way beh trn sc y) = lawM v sgn pat nws txt du lat rul tap sta pla stt mrk way beh trn sc y := by
  unfold lawM; by_cases hy : y = Str.ofString "one"
  · subst hy; rfl
  · simp only [hy, if_false]
theorem lawM_sign {v one sgn pat nws txt du lat rul tap sta pla stt mrk way beh trn sc : Option Value} {y : Str} : (if y = Str.ofString "sign" then v else lawM one sgn pat nws txt du lat rul tap sta pla stt mrk way beh trn sc y) = lawM one v pat nws txt du lat rul tap sta pla stt mrk way beh trn sc y := by
  unfold lawM; by_cases hy : y = Str.ofString "sign"
  · subst hy; rfl
  · simp only [hy, if_false]
theorem lawM_pattern {v one sgn pat nws txt du lat rul tap sta pla stt mrk way beh trn sc : Option Value} {y : Str} : (if y = Str.ofString "pattern" then v else lawM one sgn pat nws txt du lat rul tap sta pla stt mrk way beh trn sc y) = lawM one sgn v nws txt du lat rul tap sta pla stt mrk way beh trn sc y := by
  unfold lawM; by_cases hy : y = Str.ofString "pattern"
  · subst hy; rfl
  · simp only [hy, if_false]
theorem lawM_news {v one sgn pat nws txt du lat rul tap sta pla stt mrk way beh trn sc : Option Value} {y : Str} : (if y = Str.ofString "news" then v else lawM one sgn pat nws txt du lat rul tap sta pla stt mrk way beh trn sc y) = lawM one sgn pat v txt du lat rul tap sta pla stt mrk way beh trn sc y := by
  unfold lawM; by_cases hy : y = Str.ofString "news"
  · subst hy; rfl
  · simp only [hy, if_false]
theorem lawM_text {v one sgn pat nws txt du lat rul tap sta pla stt mrk way beh trn sc : Option Value} {y : Str} : (if y = Str.ofString "text" then v else lawM one sgn pat nws txt du lat rul tap sta pla stt mrk way beh trn sc y) = lawM one sgn pat nws v du lat rul tap sta pla stt mrk way beh trn sc y := by
  unfold lawM; by_cases hy : y = Str.ofString "text"
  · subst hy; rfl
  · simp only [hy, if_false]
theorem lawM_due {v one sgn pat nws txt du lat rul tap sta pla stt mrk way beh trn sc : Option Value} {y : Str} : (if y = Str.ofString "due" then v else lawM one sgn pat nws txt du lat rul tap sta pla stt mrk way beh trn sc y) = lawM one sgn pat nws txt v lat rul tap sta pla stt mrk way beh trn sc y := by
  unfold lawM; by_cases hy : y = Str.ofString "due"
  · subst hy; rfl
  · simp only [hy, if_false]
theorem lawM_later {v one sgn pat nws txt du lat rul tap sta pla stt mrk way beh trn sc : Option Value} {y : Str} : (if y = Str.ofString "later" then v else lawM one sgn pat nws txt du lat rul tap sta pla stt mrk way beh trn sc y) = lawM one sgn pat nws txt du v rul tap sta pla stt mrk way beh trn sc y := by
  unfold lawM; by_cases hy : y = Str.ofString "later"
  · subst hy; rfl
  · simp only [hy, if_false]
theorem lawM_rules {v one sgn pat nws txt du lat rul tap sta pla stt mrk way beh trn sc : Option Value} {y : Str} : (if y = Str.ofString "rules" then v else lawM one sgn pat nws txt du lat rul tap sta pla stt mrk way beh trn sc y) = lawM one sgn pat nws txt du lat v tap sta pla stt mrk way beh trn sc y := by
  unfold lawM; by_cases hy : y = Str.ofString "rules"
  · subst hy; rfl
  · simp only [hy, if_false]
theorem lawM_tape {v one sgn pat nws txt du lat rul tap sta pla stt mrk way beh trn sc : Option Value} {y : Str} : (if y = Str.ofString "tape" then v else lawM one sgn pat nws txt du lat rul tap sta pla stt mrk way beh trn sc y) = lawM one sgn pat nws txt du lat rul v sta pla stt mrk way beh trn sc y := by
  unfold lawM; by_cases hy : y = Str.ofString "tape"
  · subst hy; rfl
  · simp only [hy, if_false]
theorem lawM_states {v one sgn pat nws txt du lat rul tap sta pla stt mrk way beh trn sc : Option Value} {y : Str} : (if y = Str.ofString "states" then v else lawM one sgn pat nws txt du lat rul tap sta pla stt mrk way beh trn sc y) = lawM one sgn pat nws txt du lat rul tap v pla stt mrk way beh trn sc y := by
  unfold lawM; by_cases hy : y = Str.ofString "states"
  · subst hy; rfl
  · simp only [hy, if_false]
theorem lawM_place {v one sgn pat nws txt du lat rul tap sta pla stt mrk way beh trn sc : Option Value} {y : Str} : (if y = Str.ofString "place" then v else lawM one sgn pat nws txt du lat rul tap sta pla stt mrk way beh trn sc y) = lawM one sgn pat nws txt du lat rul tap sta v stt mrk way beh trn sc y := by
  unfold lawM; by_cases hy : y = Str.ofString "place"
  · subst hy; rfl
  · simp only [hy, if_false]
theorem lawM_state {v one sgn pat nws txt du lat rul tap sta pla stt mrk way beh trn sc : Option Value} {y : Str} : (if y = Str.ofString "state" then v else lawM one sgn pat nws txt du lat rul tap sta pla stt mrk way beh trn sc y) = lawM one sgn pat nws txt du lat rul tap sta pla v mrk way beh trn sc y := by
  unfold lawM; by_cases hy : y = Str.ofString "state"
  · subst hy; rfl
  · simp only [hy, if_false]
theorem lawM_mark {v one sgn pat nws txt du lat rul tap sta pla stt mrk way beh trn sc : Option Value} {y : Str} : (if y = Str.ofString "mark" then v else lawM one sgn pat nws txt du lat rul tap sta pla stt mrk way beh trn sc y) = lawM one sgn pat nws txt du lat rul tap sta pla stt v way beh trn sc y := by
  unfold lawM; by_cases hy : y = Str.ofString "mark"
  · subst hy; rfl
  · simp only [hy, if_false]
theorem lawM_way {v one sgn pat nws txt du lat rul tap sta pla stt mrk way beh trn sc : Option Value} {y : Str} : (if y = Str.ofString "way" then v else lawM one sgn pat nws txt du lat rul tap sta pla stt mrk way beh trn sc y) = lawM one sgn pat nws txt du lat rul tap sta pla stt mrk v beh trn sc y := by
  unfold lawM; by_cases hy : y = Str.ofString "way"
  · subst hy; rfl
  · simp only [hy, if_false]
theorem lawM_behind {v one sgn pat nws txt du lat rul tap sta pla stt mrk way beh trn sc : Option Value} {y : Str} : (if y = Str.ofString "behind" then v else lawM one sgn pat nws txt du lat rul tap sta pla stt mrk way beh trn sc y) = lawM one sgn pat nws txt du lat rul tap sta pla stt mrk way v trn sc y := by
  unfold lawM; by_cases hy : y = Str.ofString "behind"
  · subst hy; rfl
  · simp only [hy, if_false]
theorem lawM_turn {v one sgn pat nws txt du lat rul tap sta pla stt mrk way beh trn sc : Option Value} {y : Str} : (if y = Str.ofString "turn" then v else lawM one sgn pat nws txt du lat rul tap sta pla stt mrk way beh trn sc y) = lawM one sgn pat nws txt du lat rul tap sta pla stt mrk way beh v sc y := by
  unfold lawM; by_cases hy : y = Str.ofString "turn"
  · subst hy; rfl
  · simp only [hy, if_false]
theorem lawM_script {v one sgn pat nws txt du lat rul tap sta pla stt mrk way beh trn sc : Option Value} {y : Str} : (if y = Str.ofString "script" then v else lawM one sgn pat nws txt du lat rul tap sta pla stt mrk way beh trn sc y) = lawM one sgn pat nws txt du lat rul tap sta pla stt mrk way beh trn v y := by
  unfold lawM; by_cases hy : y = Str.ofString "script"
  · subst hy; rfl
  · simp only [hy, if_false]
abbrev patB (b st sg : Int) : Array UInt8 := if b = 1 then abc st ++ oi sg else List.toArray [40, 37, 108, 41] ++ (abc st ++ oi sg)
abbrev newB (a b c : Int) : Array UInt8 := if b = 1 then oi a ++ abc c else abc c ++ List.toArray [37, 49] ++ oi a
/-- what a call of _law_done gives -/
def DoneIs (w : World) (p : Program) (loose : List Str) (mean : ExcName → Option Value) (mg mb : Str → Option Value) (ps1 ps2 ps3 : Pos) (q1 q2 q3 : Str) (T P Nw out : Array UInt8) (n : Nat) : Prop :=
  ∀ ⦃dp un : Nat⦄ ⦃gd : Option (List Code)⦄ ⦃cn : Str⦄ ⦃csn : List (Str × NameKind)⦄ ⦃csg csc : Bool⦄ ⦃csm : List (Str × Const)⦄ ⦃a : Addr⦄ ⦃ccd : Value⦄ ⦃cl : List (Str × Addr)⦄ ⦃outer : List Env⦄ ⦃A₀ : Around⦄ ⦃base h₀ : Heap⦄ ⦃L : Nat⦄
    ⦃m : Str → Option Value⦄ ⦃s : Shared⦄ ⦃Q : Value → Shared → Prop⦄ ⦃pre led : List (Addr × Obj)⦄ ⦃tT tP tN : Tok⦄,
    CodeHd base 299 295 → Below A₀ base outer h₀ → Fr h₀ L s.heap m → (hd.heap_39 w.params).In h₀ → News h₀ L s.heap (led ++ pre) → Top p loose mean mg mb h₀ → CT 295 ps1 ps2 ps3 q1 q2 q3 led → Disj pre led → dp + 620 < recursionLimit → un + 1800 < cLine →
    (∀ (t : Nat) tb tc h' tk' led', Fr h₀ L h' m → News h₀ L h' ((t, tup2 (.bytes out tb) (.int n tc) 0) :: (led' ++ pre)) → CT 295 ps1 ps2 ps3 q1 q2 q3 led' → Disj pre led' → Q (.ref t) { s with heap := h', toks := tk' }) →
    wpC (model PySem.Challenge.rw_tk0057_01.row.prog w) (ktrTop dp un gd cn { kind := .function, names := csn, isGenerator := csg, isCoroutine := csc, more := csm } L a ccd cl outer) (call (.ref 300) [.bytes T tT, .bytes P tP, .bytes Nw tN]) Q s
/-- the due pair's value -/
def DueV (led : List (Addr × Obj)) (due : Option (Nat × Nat)) (v : Value) : Prop :=
  (due = none ∧ v = .none) ∨ ∃ (D : Nat) (i j e : Nat) (ta tb : Tok), due = some (i, j) ∧ v = .ref D ∧ (D, tup2 (.int (i : Nat) ta) (.int (j : Nat) tb) e) ∈ led
local macro_rules | `(tactic| walk_at "subscriptTail Name Name ref int") => `(tactic| (k_here; k_dflt (refine' item_list ?hl ?h0 ?hf ?hx ?_; (case hl => exact News.isList (by k_asm) (by k_mem)); (case hx => with_reducible assumption); (case h0 | hf => omega))))
local macro_rules | `(tactic| walk_at "subscriptTail Subscript Name Name Name ref int") => `(tactic| (k_here; k_dflt (refine kba_turn (value' := PySem.Expr.Name (PySem.Str.ofString "_") ⟨0, 0, 0, 0⟩) (fun _ => rfl) ?_); k_dflt (refine' item_list ?hl ?h0 ?hf ?hx ?_; (case hl => exact News.isList (by k_asm) (by k_mem)); (case hx => with_reducible assumption); (case h0 | hf => omega))))
local macro_rules | `(tactic| walk_at "compareOp NotEq ref ref") => `(tactic| (k_here; (with_reducible show wpAny _ _ (compareOp CmpOp.NotEq (Value.ref _) (Value.ref _)) _ _ _); k_dflt (refine' ne_done ?N ?a ?b ?u ?_; (case N => k_asm); (case a | b => k_mem); (case u => ktr_units))))
local macro_rules | `(tactic| walk_at "compareOp Eq ref ref") => `(tactic| (k_here; (with_reducible show wpAny _ _ (compareOp CmpOp.Eq (Value.ref _) (Value.ref _)) _ _ _); k_dflt (refine' eq_due ?z ?N ?a ?b ?u ?_; (case N => k_asm); (case a | b => k_mem); (case u => ktr_units); (case z => assumption))))
local macro_rules | `(tactic| walk_at "compareOp Eq ref none") => `(tactic| (k_here; (with_reducible show wpAny _ _ (compareOp CmpOp.Eq (Value.ref _) Value.none) _ _ _); k_dflt (refine' eq_due_none ?N ?a ?u ?_; (case N => k_asm); (case a => k_mem); (case u => ktr_units))))
local macro_rules | `(tactic| walk_at "call ref") => `(tactic| (k_here; (with_reducible show wpAny _ _ (call (.ref 314) [.int _ _, .int _ _, .ref _]) _ _ _); k_dflt (refine' texts_c ?B ?F ?X ?N ?TT ?hm ?z1 ?z2 ?z3 ?z4 ?z5 ?hr ?hu ?_; (case N | B | F | X | TT => k_asm); (case hm => k_mem); (case z1 | z2 | z3 | z4 | z5 => omega); (case hr => ktr_room); (case hu => ktr_units)); intro D' t1' t2' e' h' tk' F' N'))
theorem News.ck1 {h₀ h : Heap} {L : Addr} {d r ra R x2 x1 : Addr × Obj} {led pre : List (Addr × Obj)} (N : News h₀ L h (d :: r :: ra :: R :: x2 :: x1 :: (led ++ pre))) : News h₀ L h (led ++ (x2 :: x1 :: pre)) :=
  News.perm N fun q hq => by simp only [List.mem_cons, List.mem_append] at hq ⊢; rcases hq with h | h | h | h <;> simp [h]
theorem News.ck2 {h₀ h : Heap} {L : Addr} {t x2 x1 : Addr × Obj} {led pre : List (Addr × Obj)} (N : News h₀ L h (t :: (led ++ (x2 :: x1 :: pre)))) : News h₀ L h (x2 :: x1 :: (led ++ pre)) :=
  News.perm N fun q hq => by simp only [List.mem_cons, List.mem_append] at hq ⊢; rcases hq with h | h | h | h <;> simp [h]
inductive ChkI (s : Shared) (h₀ : Heap) (L R Lt I1 : Nat) (ps1 ps2 ps3 : Pos) (q1 q2 q3 : Str) (T : Array UInt8) (tT : Tok) (vdue : Value) (tap pla stt mrk way beh trn sc : Option Value) (states : Int) (tS : Tok) (pre : List (Addr × Obj)) (n : Nat) (s₂ : Shared) : Prop
  | mk (i : Nat) (one' sgn' pat' nws' : Option Value) (led' : List (Addr × Obj)) (h0 : n = states.toNat - i) (h1 : (i : Int) ≤ states) (h2 : CT 295 ps1 ps2 ps3 q1 q2 q3 led') (h3 : Disj pre led') (h4 : (∀ q ∈ led', q.1 ≠ I1)) (h5 : (∃ hh tt, s₂ = { s with heap := hh, toks := tt })) (h6 : Fr h₀ L s₂.heap (lawM one' sgn' pat' nws' (some (.bytes T tT)) (some vdue) (some (.ref Lt)) (some (.ref R)) tap (some (.int states tS)) pla stt mrk way beh trn sc)) (h7 : News h₀ L s₂.heap ((I1, rngI i (states - i)) :: (led' ++ pre))) : ChkI s h₀ L R Lt I1 ps1 ps2 ps3 q1 q2 q3 T tT vdue tap pla stt mrk way beh trn sc states tS pre n s₂
inductive ChkJ (s : Shared) (h₀ : Heap) (L R Lt I1 I2 i : Nat) (ps1 ps2 ps3 : Pos) (q1 q2 q3 : Str) (T : Array UInt8) (tT t7 : Tok) (vdue : Value) (tap pla stt mrk way beh trn sc : Option Value) (states : Int) (tS : Tok) (pre : List (Addr × Obj)) (n : Nat) (s₂ : Shared) : Prop
  | mk (j : Nat) (sgn' pat' nws' : Option Value) (led' : List (Addr × Obj)) (h0 : n = 2 - j) (h1 : j ≤ 2) (h2 : CT 295 ps1 ps2 ps3 q1 q2 q3 led') (h3 : Disj pre led') (h4 : (∀ q ∈ led', q.1 ≠ I1)) (h5 : (∀ q ∈ led', q.1 ≠ I2)) (h6 : (∃ hh tt, s₂ = { s with heap := hh, toks := tt })) (h7 : Fr h₀ L s₂.heap (lawM (some (.int i t7)) sgn' pat' nws' (some (.bytes T tT)) (some vdue) (some (.ref Lt)) (some (.ref R)) tap (some (.int states tS)) pla stt mrk way beh trn sc)) (h8 : News h₀ L s₂.heap ((I2, rngI j (2 - j)) :: (I1, rngI (i + 1) (states - i - 1)) :: (led' ++ pre))) : ChkJ s h₀ L R Lt I1 I2 i ps1 ps2 ps3 q1 q2 q3 T tT t7 vdue tap pla stt mrk way beh trn sc states tS pre n s₂
theorem checks_c {oc0 : Value} {od0 an0 : Option Addr} {name0 qual0 : Str} {params0 : Arguments} {s1 s2 s3 s4 s5 s6 s8 u1 u2 u3 u5 : Stmt} {t7 i7 t8 i8 : PySem.Expr} {o7 b8 o8 : List Stmt} {p7 p8 : Pos} {scope0 : Scope} {dV0 kV0 doc0 pm0 cdv0 ct0 : Value} {osl0 : Array (Option Value)}
    (hlook : (hd.heap_39 w.params).lookup 331 = some ⟨oc0, od0, .func (fnOf name0 qual0 params0 [s1, s2, s3, s4, s5, s6, .For t7 i7 [u1, u2, u3, .For t8 i8 b8 o8 p8, u5] o7 p7, s8] scope0 dV0 kV0 doc0 pm0 an0 cdv0 ct0), osl0⟩)
    {ps1 ps2 ps3 : Pos} {q1 q2 q3 : Str} {T LB : Array UInt8} {LN er e3 : Nat} {states : Int} {rv : List Value} {rl : Nat → Nat → Option (Int × Int × Int)} {due : Option (Nat × Nat)} {R Lt : Nat} {vdue : Value} {tS tT tl tn : Tok} {led pre : List (Addr × Obj)}
    {one sgn pat nws tap pla stt mrk way beh trn sc : Option Value} {bc : Addr}
    (C : CodeHd base 299 295) (B : Below A₀ base outer h₀) (X : (hd.heap_39 w.params).In h₀) (TT : Top p loose mean mg mb h₀)
    (F : Fr h₀ L s.heap (lawM one sgn pat nws (some (.bytes T tT)) (some vdue) (some (.ref Lt)) (some (.ref R)) tap (some (.int states tS)) pla stt mrk way beh trn sc))
    (N : News h₀ L s.heap (led ++ pre)) (hD : Disj pre led) (hI : CT 295 ps1 ps2 ps3 q1 q2 q3 led)
    (hm0 : 2 ≤ states) (hm1 : states ≤ 3) (hR : (R, W.listOf rv.toArray er) ∈ pre) (hrl : (rv.length : Int) = states) (hrows : RowsV pre rl rv) (hok : ∀ i j, RuleOk states (rl i j))
    (hdue : DueV pre due vdue) (hLt : (Lt, tup2 (.bytes LB tl) (.int (LN : Nat) tn) e3) ∈ pre)
    (H : ∀ (i j : Nat) a b c, (i : Int) < states → j < 2 → rl i j = some (a, b, c) → DoneIs w p loose mean mg mb ps1 ps2 ps3 q1 q2 q3 T (patB b i j) (newB a b c) (if due = some (i, j) then LB else T) (if due = some (i, j) then LN else 0))
    (hdp : dp + 640 < recursionLimit) (hun : un + 2000 < cLine) {Q : Flow → Shared → Prop}
    (hret : ∀ one' sgn' pat' nws' led' h' tk', Fr h₀ L h' (lawM one' sgn' pat' nws' (some (.bytes T tT)) (some vdue) (some (.ref Lt)) (some (.ref R)) tap (some (.int states tS)) pla stt mrk way beh trn sc) →
      News h₀ L h' (led' ++ pre) → CT 295 ps1 ps2 ps3 q1 q2 q3 led' → Disj pre led' → Q .next { s with heap := h', toks := tk' }) :
    wpC (model PySem.Challenge.rw_tk0057_01.row.prog w) (ktrTop dp un gd name0 scope0 L a ccd [(Str.ofString "bag", bc)] outer) (exec (.For t8 i8 b8 o8 p8) (envX name0 scope0 L a ccd [(Str.ofString "bag", bc)])) Q s := by
  revert X; k_fill; intro X
  have hl' := hlook.symm.trans (show (hd.heap_39 w.params).lookup 331 = some _ by k_is)
  have e0 := ob_eqs hl'
  have f0 := Stmt.For.inj (List.head_eq_of_cons_eq (List.tail_eq_of_cons_eq (List.tail_eq_of_cons_eq (List.tail_eq_of_cons_eq (List.tail_eq_of_cons_eq (List.tail_eq_of_cons_eq (List.tail_eq_of_cons_eq e0.2.2.1)))))))
  have f1 := Stmt.For.inj (List.head_eq_of_cons_eq (List.tail_eq_of_cons_eq (List.tail_eq_of_cons_eq (List.tail_eq_of_cons_eq f0.2.2.1))))
  have x0 := e0.1
  have x1 := e0.2.2.2
  have y1 := f1.1
  have y2 := f1.2.1
  have y3 := f1.2.2.1
  have y4 := f1.2.2.2.1
  have y5 := f1.2.2.2.2
  clear e0 f0 f1 hl' hlook
  subst x0 x1 y1 y2 y3 y4 y5
  refine wpC_For ?_
  k_steps
  (with_reducible rename IsRange _ _ _ _ _ _ _ _ => hR1)
  (with_reducible rename News h₀ L _ _ => kN)
  (with_reducible rename Fr h₀ L _ _ => kF)
  k_dflt (refine iter_rangeN kF kN hR1 (by omega) (by omega) ?_)
  intro I1 h2 F2 N2 hI2
  have f1 : ∀ q ∈ pre, q.1 ≠ I1 := fun q hq => Nat.ne_of_lt (AllLt.get hI2 q (List.mem_append_right _ hq))
  have f2 : ∀ q ∈ led, q.1 ≠ I1 := fun q hq => Nat.ne_of_lt (AllLt.get hI2 q (List.mem_append_left _ hq))
  clear hI2 hR1 kN kF
  refine loopC (ChkI s h₀ L R Lt I1 ps1 ps2 ps3 q1 q2 q3 T tT vdue tap pla stt mrk way beh trn sc states tS pre) ?_ states.toNat _ ?_
  rotate_left
  · exact ⟨0, _, _, _, _, led, by omega, by omega, hI, hD, f2, ⟨_, _, rfl⟩, F2, by simpa using N2⟩
  clear F2 N2 hI hD f2
  intro n s₂ hI0 ih
  refine Classical.byContradiction fun hG0 => ?_
  obtain ⟨i, one', sgn', pat', nws', led', rfl, hi, hI, hD, f2, ⟨hh, tt, rfl⟩, F3, N3⟩ := hI0
  refine hG0 ?_
  clear hG0
  refine codeC_for ?_
  by_cases hlt : (i : Int) < states
  · k_dflt (refine' next_rangeU ?F ?N ?U ?hl ?_; (case F => k_asm); (case N => k_asm); (case U => exact .head fun q hq => (List.mem_append.mp hq).elim (f2 q) (f1 q)); (case hl => omega))
    intro h5 tk5 t5 F5 N5
    dsimp only at N5 ⊢
    k_steps
    refine wpC_cons ?_
    refine wpC_For ?_
    k_steps
    (with_reducible rename IsRange _ _ _ _ _ _ _ _ => hR2)
    (with_reducible rename News h₀ L _ _ => kN)
    (with_reducible rename Fr h₀ L _ _ => kF)
    k_dflt (refine iter_rangeN kF kN hR2 (by decide) (by decide) ?_)
    intro I2 h6 F6 N6 hI6
    have l12 : @LT.lt Nat _ I1 I2 := AllLt.get hI6 _ (.head _)
    have g1 : ∀ q ∈ pre, q.1 ≠ I2 := fun q hq => Nat.ne_of_lt (AllLt.get hI6 q (.tail _ (List.mem_append_right _ hq)))
    have g2 : ∀ q ∈ led', q.1 ≠ I2 := fun q hq => Nat.ne_of_lt (AllLt.get hI6 q (.tail _ (List.mem_append_left _ hq)))
    refine Classical.byContradiction fun hG0 => ?_
    obtain ⟨va, vb, ra, e2, hx, hra, hva, hvb⟩ : ∃ va vb ra e2, rv.toArray[(i : Int).toNat]? = some (.ref ra) ∧ (ra, W.listOf #[va, vb] e2) ∈ pre ∧ RuleV pre (rl i 0) va ∧ RuleV pre (rl i 1) vb := by
      refine Classical.byContradiction fun hG0 => ?_
      obtain ⟨ra, e2, va, vb, h1, h2, h3, h4⟩ := hrows i rv[i] (List.getElem?_eq_getElem (by omega))
      refine hG0 ?_
      clear hG0
      exact ⟨va, vb, ra, e2, by rw [← h1, List.getElem?_toArray, Int.toNat_natCast]; exact List.getElem?_eq_getElem (by omega), h2, h3, h4⟩
    obtain ⟨t7, N7, F7⟩ : ∃ t7, News h₀ L h6 ((I2, rngI 0 2) :: (I1, rngI (i + 1) (states - i - 1)) :: (led' ++ pre)) ∧
        Fr h₀ L h6 (lawM (some (.int i t7)) sgn' pat' nws' (some (.bytes T tT)) (some vdue) (some (.ref Lt)) (some (.ref R)) tap (some (.int states tS)) pla stt mrk way beh trn sc) := ⟨_, N6, Fr.eqv F6 (fun y => lawM_one)⟩
    clear N6 F6 kN kF hI6 hR2
    (try clear N')
    (try clear F')
    refine hG0 ?_
    clear hG0
    refine loopC (ChkJ s h₀ L R Lt I1 I2 i ps1 ps2 ps3 q1 q2 q3 T tT t7 vdue tap pla stt mrk way beh trn sc states tS pre) ?_ 2 _ ?_
    rotate_left
    · exact ⟨0, _, _, _, led', by omega, by omega, hI, hD, f2, g2, ⟨_, _, rfl⟩, F7, by simpa using N7⟩
    clear F7 N7 hI hD f2 g2
    intro n s₂ hI0 ih2
    refine Classical.byContradiction fun hG0 => ?_
    obtain ⟨j, sgn', pat', nws', led', rfl, hj, hI, hD, f2, g2, ⟨hh, tt, rfl⟩, F8, N8⟩ := hI0
    refine hG0 ?_
    clear hG0
    refine codeC_for ?_
    by_cases hlt2 : j < 2
    · k_dflt (refine' next_rangeU ?F ?N ?U ?hl ?_; (case F => k_asm); (case N => k_asm); (case U => exact .head (List.forall_mem_cons.mpr ⟨Nat.ne_of_lt l12, fun q hq => (List.mem_append.mp hq).elim (g2 q) (g1 q)⟩)); (case hl => omega))
      intro h9 tk9 t9 F9 N9
      obtain ⟨v, hv, hrv⟩ := pair_at (rl := rl i) (j := (j : Int).toNat) (by omega) hva hvb
      rw [Int.toNat_natCast] at hrv
      replace N9 := News.add (News.add N9 (.tail _ (.tail _ (List.mem_append_right _ hR)))) (.tail _ (.tail _ (.tail _ (List.mem_append_right _ hra))))
      dsimp only at N9 ⊢
      k_steps
      rcases hrv with ⟨hr0, rfl⟩ | ⟨r, e4, a1, b1, c1, ta, tb, tc, hr0, rfl, hrm⟩
      · refine wpC_cons (wpC_If (wpC_of_any ?_))
        k_steps
        refine wpC_nil ?_
        dsimp only [nextC]
        refine wpC_nil ?_
        dsimp only [turnC]
        (with_reducible rename News h₀ L _ _ => kN)
        (with_reducible rename Fr h₀ L _ _ => kF)
        rw [show (2 : Int) - (j : Int) - 1 = 2 - ((j + 1 : Nat) : Int) by omega, show (j : Int) + 1 = ((j + 1 : Nat) : Int) by omega] at kN
        exact ih2 _ (2 - (j + 1)) (by omega) ⟨j + 1, _, _, _, led', rfl, by omega, hI, hD, f2, g2, ⟨_, _, rfl⟩, Fr.eqv kF (fun y => lawM_sign), News.tail' (News.tail' kN)⟩
      · refine Classical.byContradiction fun hG0 => ?_
        obtain ⟨z1, z2, z3, z4, z5, z6⟩ := hok i j a1 b1 c1 hr0
        refine hG0 ?_
        clear hG0
        have hH := H i j a1 b1 c1 hlt hlt2 hr0
        (with_reducible rename News h₀ L _ _ => N9)
        replace N9 := News.add N9 (.tail _ (.tail _ (.tail _ (.tail _ (List.mem_append_right _ hrm)))))
        clear H
        refine wpC_cons (wpC_If (wpC_of_any ?_))
        k_steps
        refine wpC_cons (wpC_of_any ?_)
        k_steps
        dsimp only [nextC]
        refine wpC_cons (wpC_If (wpC_Compare (wpC_CallName ?_)))
        k_steps
        refine wpC_callWith (P := FnAt 300) rfl keeps_F (wpC_of_any ?_)
        k_steps
        all_goals (with_reducible rename News h₀ L _ _ => kN)
        all_goals (with_reducible rename Fr h₀ L _ _ => kF)
        · exact ⟨_, _, _, _, (X.keeps (Fr.keep kF)) _ _ (show (hd.heap_39 w.params).lookup 300 = some _ by k_is)⟩
        k_dflt (refine hH C B kF X (News.ck1 kN) TT hI (Disj.consL g2 (Disj.consL f2 hD)) (by ktr_room) (by ktr_units) ?_)
        intro t tb tc h9 tk9 led2 F9 N9 I9 D9
        clear hH
        have fin : ∀ (h : Heap) (tk2 : Nat) (p1 p2 p3 : Option Value), Fr h₀ L h (lawM (some (.int i t7)) p1 p2 p3 (some (.bytes T tT)) (some vdue) (some (.ref Lt)) (some (.ref R)) tap (some (.int states tS)) pla stt mrk way beh trn sc) → News h₀ L h ((I2, rngI (j + 1) (2 - j - 1)) :: (I1, rngI (i + 1) (states - i - 1)) :: (led2 ++ pre)) → codeC (model PySem.Challenge.rw_tk0057_01.row.prog w) _ _ _ { s with heap := h, toks := tk2 } := fun h tk2 p1 p2 p3 kF kN => by
          rw [show (2 : Int) - (j : Int) - 1 = 2 - ((j + 1 : Nat) : Int) by omega, show (j : Int) + 1 = ((j + 1 : Nat) : Int) by omega] at kN
          exact ih2 _ (2 - (j + 1)) (by omega) ⟨j + 1, _, _, _, led2, rfl, by omega, I9, D9.tailL.tailL, D9.tailL.headL, D9.headL, ⟨_, _, rfl⟩, kF, kN⟩
        clear kF kN
        replace N9 := News.add N9 (.tail _ (List.mem_append_right _ (.tail _ (.tail _ hLt))))
        rcases hdue with ⟨hd0, rfl⟩ | ⟨D, i', j', e5, ta', tb', hd0, rfl, hDm⟩
        · have hne : ¬ due = some (i, j) := by rw [hd0]; exact fun h => nomatch h
          rw [if_neg hne, if_neg hne, show ((0 : Nat) : Int) = 0 from rfl] at N9
          k_steps
          iterate 4 (try (refine wpC_nil ?_; dsimp only [nextC, turnC]))
          (with_reducible rename News h₀ L _ _ => kN)
          (with_reducible rename Fr h₀ L _ _ => kF)
          simp only [lawM_sign, lawM_pattern, lawM_news] at kF
          first | exact fin _ _ _ _ _ kF (News.ck2 (News.tail' (News.tail' kN))) | exact fin _ _ _ _ _ kF (News.ck2 (News.tail' (News.tail' (News.tail' kN)))) | exact fin _ _ _ _ _ kF (News.ck2 (News.tail' (News.tail' (News.tail' (News.tail' kN)))))
        · replace N9 := News.add N9 (.tail _ (.tail _ (List.mem_append_right _ (.tail _ (.tail _ hDm)))))
          by_cases hij : i = i' ∧ j = j'
          · obtain ⟨rfl, rfl⟩ := hij
            rw [if_pos hd0, if_pos hd0] at N9
            have hz : decide ((i : Int) = (i : Int) ∧ (j : Int) = (j : Int)) = true := by simp
            k_steps
            iterate 4 (try (refine wpC_nil ?_; dsimp only [nextC, turnC]))
            (with_reducible rename News h₀ L _ _ => kN)
            (with_reducible rename Fr h₀ L _ _ => kF)
            simp only [lawM_sign, lawM_pattern, lawM_news] at kF
            first | exact fin _ _ _ _ _ kF (News.ck2 (News.tail' (News.tail' kN))) | exact fin _ _ _ _ _ kF (News.ck2 (News.tail' (News.tail' (News.tail' kN)))) | exact fin _ _ _ _ _ kF (News.ck2 (News.tail' (News.tail' (News.tail' (News.tail' kN)))))
          · have hne : ¬ due = some (i, j) := by rw [hd0]; intro h; cases h; exact hij ⟨rfl, rfl⟩
            rw [if_neg hne, if_neg hne, show ((0 : Nat) : Int) = 0 from rfl] at N9
            have hz : decide ((i : Int) = (i' : Int) ∧ (j : Int) = (j' : Int)) = false := by rw [decide_eq_false_iff_not]; omega
            k_steps
            iterate 4 (try (refine wpC_nil ?_; dsimp only [nextC, turnC]))
            (with_reducible rename News h₀ L _ _ => kN)
            (with_reducible rename Fr h₀ L _ _ => kF)
            simp only [lawM_sign, lawM_pattern, lawM_news] at kF
            first | exact fin _ _ _ _ _ kF (News.ck2 (News.tail' (News.tail' kN))) | exact fin _ _ _ _ _ kF (News.ck2 (News.tail' (News.tail' (News.tail' kN)))) | exact fin _ _ _ _ _ kF (News.ck2 (News.tail' (News.tail' (News.tail' (News.tail' kN)))))
    · k_dflt (refine end_range0 rfl F8 N8 (by omega) (List.forall_mem_cons.mpr ⟨Nat.ne_of_lt l12, fun q hq => (List.mem_append.mp hq).elim (g2 q) (g1 q)⟩) ?_)
      intro h9 F9 N9
      clear ih2
      dsimp only [nextC]
      refine wpC_nil ?_
      dsimp only [turnC]
      rw [show states - (i : Int) - 1 = states - ((i + 1 : Nat) : Int) by omega, show (i : Int) + 1 = ((i + 1 : Nat) : Int) by omega] at N9
      exact ih _ (states.toNat - (i + 1)) (by omega) ⟨i + 1, _, _, _, _, led', rfl, by omega, hI, hD, f2, ⟨_, _, rfl⟩, F9, N9⟩
  · k_dflt (refine end_range0 rfl F3 N3 (by omega) (fun q hq => (List.mem_append.mp hq).elim (f2 q) (f1 q)) ?_)
    intro h9 F9 N9
    exact hret _ _ _ _ led' _ _ F9 N9 hI hD
end
theorem flush27 {prog : PySem.Program} {w : PySem.World} {A : PySem.Around} {Q : Unit → PySem.Shared → Prop} {E : PySem.Value → PySem.Shared → Prop} {s : PySem.Shared} (h : Q () s) : PySem.wpAny (PySem.model prog w) A (pure ()) Q E s := by
  w_top off
  first | (walk1; fail) | exact PySem.wpAny_pure h
section
local macro_rules | `(tactic| walk_at "subscriptTail Name Name ref int") => `(tactic| (k_here; k_dflt (refine' item_list ?hl ?h0 ?hf ?hx ?_; (case hl => exact News.isList (by k_asm) (by k_mem)); (case hx => with_reducible assumption); (case h0 | hf => omega))))
local macro_rules | `(tactic| walk_at "subscriptTail Subscript Name Name Subscript ref int") => `(tactic| (k_here; k_dflt (refine kba_turn (value' := PySem.Expr.Name (PySem.Str.ofString "_") ⟨0, 0, 0, 0⟩) (fun _ => rfl) ?_); k_dflt (refine' item_list ?hl ?h0 ?hf ?hx ?_; (case hl => exact News.isList (by k_asm) (by k_mem)); (case hx => with_reducible assumption); (case h0 | hf => omega))))
local macro_rules | `(tactic| walk_at "call ref") => `(tactic| (k_here; (with_reducible show wpAny _ _ (call (.ref 326) _) _ _ _); refine Held.mk ?_))
local macro_rules | `(tactic| walk_at "call ref") => `(tactic| (k_here; (with_reducible show wpAny _ _ (call (.ref 319) [.ref _, .int _ _, .int _ _]) _ _ _); k_dflt (refine' shown_c ?B ?F ?X ?N ?TT ?hm ?z1 ?z2 ?z3 ?hr ?hu ?_; (case N | B | F | X | TT => k_asm); (case hm => k_mem); (case z1 => with_reducible assumption); (case z2 | z3 => (try simp only [List.length_set]); omega); (case hr => ktr_room); (case hu => ktr_units)); intro t' h' tk' F' N'))
theorem IntsAre.at_ {vs : List Value} {xs : List Int} (h : IntsAre vs xs) : ∀ {i : Nat}, i < xs.length → ∃ t, vs.toArray[i]? = some (.int (xs.getD i 0) t) := by
  induction h with
  | nil => intro i hi; simp at hi
  | cons a t h ih =>
    intro i hi
    cases i with
    | zero => exact ⟨t, by simp⟩
    | succ i =>
      obtain ⟨t', e⟩ := ih (i := i) (by simpa using hi)
      exact ⟨t', by simpa using e⟩
theorem News.tn1 {h₀ h : Heap} {L : Addr} {lt g R i tp : Addr × Obj} {led fx : List (Addr × Obj)} (N : News h₀ L h (lt :: g :: R :: i :: tp :: (led ++ fx))) : News h₀ L h (led ++ (lt :: i :: tp :: fx)) :=
  News.perm N fun q hq => by simp only [List.mem_cons, List.mem_append] at hq ⊢; rcases hq with h | h | h | h | h <;> simp [h]
theorem News.tn2 {h₀ h : Heap} {L : Addr} {lt i tp : Addr × Obj} {led fx : List (Addr × Obj)} (N : News h₀ L h (led ++ (lt :: i :: tp :: fx))) : News h₀ L h (led ++ fx) :=
  News.perm N fun q hq => by simp only [List.mem_cons, List.mem_append] at hq ⊢; rcases hq with h | h <;> simp [h]
theorem News.tn3 {h₀ h : Heap} {L : Addr} {r ra lt g D R i tp : Addr × Obj} {led fx : List (Addr × Obj)} (N : News h₀ L h (r :: ra :: lt :: g :: D :: R :: i :: tp :: (led ++ fx))) : News h₀ L h (tp :: D :: i :: (led ++ fx)) :=
  News.perm N fun q hq => by simp only [List.mem_cons, List.mem_append] at hq ⊢; rcases hq with h | h | h | h <;> simp [h]
theorem News.tn4 {h₀ h : Heap} {L : Addr} {lt g D i tp : Addr × Obj} {led fx : List (Addr × Obj)} (N : News h₀ L h (lt :: g :: tp :: D :: i :: (led ++ fx))) : News h₀ L h (led ++ (lt :: D :: i :: tp :: fx)) :=
  News.perm N fun q hq => by simp only [List.mem_cons, List.mem_append] at hq ⊢; rcases hq with h | h | h | h | h | h <;> simp [h]
theorem News.tn5 {h₀ h : Heap} {L : Addr} {lt D i tp : Addr × Obj} {led fx : List (Addr × Obj)} (N : News h₀ L h (led ++ (lt :: D :: i :: tp :: fx))) : News h₀ L h (i :: tp :: (led ++ fx)) :=
  News.perm N fun q hq => by simp only [List.mem_cons, List.mem_append] at hq ⊢; rcases hq with h | h | h | h <;> simp [h]
theorem Signs.set {xs : List Int} (h : Signs xs) {a : Int} (h0 : 0 ≤ a) (h1 : a < 2) (k : Nat) : Signs (xs.set k a) := fun i => by
  have := h i
  rw [List.getD_eq_getElem?_getD, List.getElem?_set]
  split
  · split
    · simpa using ⟨h0, h1⟩
    · simp
  · rw [← List.getD_eq_getElem?_getD]; exact this
local macro_rules | `(tactic| walk_at "setItem ref int") => `(tactic| (k_here; (with_reducible show wpAny _ _ (setItem (Value.ref _) (Value.int _ _) (Value.int _ _)) _ _ _); k_dflt (refine' PySem.W.ksa_set ?k1 ?k2 ?k3 ?k4 ?k5 ?k6 ?k7 ?_; (case k1 | k2 => k_asm); (case k3 => exact .head (by with_reducible assumption)); (case k4 => with_reducible assumption); (case k5 | k6 | k7 => omega); k_whole); intro h' F' N' hi' hl' hs'; (try k_sweep)))
inductive TurnI (s : Shared) (h₀ : Heap) (L R tp I1 : Nat) (ps1 ps2 ps3 : Pos) (q1 q2 q3 : Str) (states : Int) (tS : Tok) (sc : Option Value) (fx : List (Addr × Obj)) (n : Nat) (s₂ : Shared) : Prop
  | mk (k : Nat) (one sgn pat nws txt du lat mrk way beh trn : Option Value) (led' : List (Addr × Obj)) (tvs : List Value) (et : Nat) (xs : List Int) (pl st : Int) (tpl tst : Tok) (h0 : n = 6 - k) (h1 : k ≤ 6) (h2 : CT 295 ps1 ps2 ps3 q1 q2 q3 led') (h3 : Disj fx led') (h4 : (∀ q ∈ led', q.1 ≠ I1)) (h5 : (∀ q ∈ led', q.1 ≠ tp)) (h6 : IntsAre tvs xs) (h7 : 2 ≤ xs.length) (h8 : xs.length ≤ 4) (h9 : Signs xs) (h10 : 0 ≤ pl) (h11 : pl ≤ xs.length) (h12 : 0 ≤ st) (h13 : st < states) (h14 : (∃ hh tt, s₂ = { s with heap := hh, toks := tt })) (h15 : Fr h₀ L s₂.heap (lawM one sgn pat nws txt du lat (some (.ref R)) (some (.ref tp)) (some (.int states tS)) (some (.int pl tpl)) (some (.int st tst)) mrk way beh trn sc)) (h16 : News h₀ L s₂.heap ((I1, rngI k (6 - k)) :: (tp, W.listOf tvs.toArray et) :: (led' ++ fx))) : TurnI s h₀ L R tp I1 ps1 ps2 ps3 q1 q2 q3 states tS sc fx n s₂
theorem turns_c {oc0 : Value} {od0 an0 : Option Addr} {name0 qual0 : Str} {params0 : Arguments} {s1 s2 s3 s4 s5 s6 s8 : Stmt} {t7 i7 : PySem.Expr} {b7 o7 : List Stmt} {p7 : Pos} {scope0 : Scope} {dV0 kV0 doc0 pm0 cdv0 ct0 : Value} {osl0 : Array (Option Value)}
    (hlook : (hd.heap_39 w.params).lookup 331 = some ⟨oc0, od0, .func (fnOf name0 qual0 params0 [s1, s2, s3, s4, s5, s6, .For t7 i7 b7 o7 p7, s8] scope0 dV0 kV0 doc0 pm0 an0 cdv0 ct0), osl0⟩)
    {ps1 ps2 ps3 : Pos} {q1 q2 q3 : Str} {er et : Nat} {states pl st : Int} {xs : List Int} {tvs rv : List Value} {rl : Nat → Nat → Option (Int × Int × Int)} {R tp : Nat} {tS tpl tst : Tok} {led fx : List (Addr × Obj)}
    {one sgn pat nws txt du lat mrk way beh trn sc : Option Value} {bc : Addr}
    (C : CodeHd base 299 295) (B : Below A₀ base outer h₀) (X : (hd.heap_39 w.params).In h₀) (TT : Top p loose mean mg mb h₀)
    (F : Fr h₀ L s.heap (lawM one sgn pat nws txt du lat (some (.ref R)) (some (.ref tp)) (some (.int states tS)) (some (.int pl tpl)) (some (.int st tst)) mrk way beh trn sc))
    (N : News h₀ L s.heap ((tp, W.listOf tvs.toArray et) :: (led ++ fx))) (hD : Disj fx led) (hI : CT 295 ps1 ps2 ps3 q1 q2 q3 led) (ht1 : ∀ q ∈ fx, q.1 ≠ tp) (ht2 : ∀ q ∈ led, q.1 ≠ tp)
    (hm0 : 2 ≤ states) (hm1 : states ≤ 3) (hR : (R, W.listOf rv.toArray er) ∈ fx) (hrl : (rv.length : Int) = states) (hrows : RowsV fx rl rv) (hok : ∀ i j, RuleOk states (rl i j))
    (hxs : IntsAre tvs xs) (hx1 : 2 ≤ xs.length) (hx2 : xs.length ≤ 4) (hsg : Signs xs) (hp0 : 0 ≤ pl) (hp1 : pl ≤ xs.length) (hs0 : 0 ≤ st) (hs1 : st < states)
    (Hno : ∀ (xs : List Int) (pl st : Int) (i j : Nat) (a b c : Int), 2 ≤ xs.length → xs.length ≤ 4 → Signs xs → 0 ≤ pl → pl ≤ xs.length → 0 ≤ st → st < 3 → i < 3 → j < 2 → 0 ≤ a → a < 2 → 0 ≤ b → b < 2 → 0 ≤ c → c < 3 →
      ¬ (pl < xs.length ∧ (i : Int) = st ∧ (j : Int) = xs.getD pl.toNat 0 ∧ ¬ (b = 0 ∧ pl = 0)) → DoneIs w p loose mean mg mb ps1 ps2 ps3 q1 q2 q3 (shownB xs pl st) (patB b i j) (newB a b c) (shownB xs pl st) 0)
    (Hyes : ∀ (xs : List Int) (pl st : Int) (i j : Nat) (a b c : Int), 2 ≤ xs.length → xs.length ≤ 4 → Signs xs → 0 ≤ pl → pl < xs.length → 0 ≤ st → st < 3 → 0 ≤ a → a < 2 → 0 ≤ b → b < 2 → 0 ≤ c → c < 3 →
      (i : Int) = st → (j : Int) = xs.getD pl.toNat 0 → ¬ (b = 0 ∧ pl = 0) → DoneIs w p loose mean mg mb ps1 ps2 ps3 q1 q2 q3 (shownB xs pl st) (patB b i j) (newB a b c) (shownB (xs.set pl.toNat a) (pl + 2 * b - 1) c) 1)
    (hdp : dp + 650 < recursionLimit) (hun : un + 2100 < cLine) {Q : Flow → Shared → Prop}
    (hret : ∀ m' led' h' tk', Fr h₀ L h' m' → News h₀ L h' (led' ++ fx) → CT 295 ps1 ps2 ps3 q1 q2 q3 led' → Q .next { s with heap := h', toks := tk' }) :
    wpC (model PySem.Challenge.rw_tk0057_01.row.prog w) (ktrTop dp un gd name0 scope0 L a ccd [(Str.ofString "bag", bc)] outer) (exec (.For t7 i7 b7 o7 p7) (envX name0 scope0 L a ccd [(Str.ofString "bag", bc)])) Q s := by
  revert X; k_fill; intro X
  have hl' := hlook.symm.trans (show (hd.heap_39 w.params).lookup 331 = some _ by k_is)
  have e0 := ob_eqs hl'
  have f1 := Stmt.For.inj (List.head_eq_of_cons_eq (List.tail_eq_of_cons_eq (List.tail_eq_of_cons_eq (List.tail_eq_of_cons_eq (List.tail_eq_of_cons_eq (List.tail_eq_of_cons_eq (List.tail_eq_of_cons_eq e0.2.2.1)))))))
  have x0 := e0.1
  have x1 := e0.2.2.2
  have y1 := f1.1
  have y2 := f1.2.1
  have y3 := f1.2.2.1
  have y4 := f1.2.2.2.1
  have y5 := f1.2.2.2.2
  clear e0 f1 hl' hlook
  subst x0 x1 y1 y2 y3 y4 y5
  refine wpC_For ?_
  k_steps
  (with_reducible rename IsRange _ _ _ _ _ _ _ _ => hR1)
  (with_reducible rename News h₀ L _ _ => kN)
  (with_reducible rename Fr h₀ L _ _ => kF)
  k_dflt (refine iter_rangeN kF kN hR1 (by omega) (by omega) ?_)
  intro I1 h2 F2 N2 hI2
  have f1 : ∀ q ∈ fx, q.1 ≠ I1 := fun q hq => Nat.ne_of_lt (AllLt.get hI2 q (.tail _ (List.mem_append_right _ hq)))
  have f2 : ∀ q ∈ led, q.1 ≠ I1 := fun q hq => Nat.ne_of_lt (AllLt.get hI2 q (.tail _ (List.mem_append_left _ hq)))
  have f3 : @LT.lt Nat _ tp I1 := AllLt.get hI2 _ (.head _)
  clear hI2 hR1 kN kF
  refine loopC (TurnI s h₀ L R tp I1 ps1 ps2 ps3 q1 q2 q3 states tS sc fx) ?_ 6 _ ?_
  rotate_left
  · exact ⟨0, _, _, _, _, _, _, _, _, _, _, _, led, tvs, et, xs, pl, st, _, _, by omega, by omega, hI, hD, f2, ht2, hxs, hx1, hx2, hsg, hp0, hp1, hs0, hs1, ⟨_, _, rfl⟩, F2, by simpa using N2⟩
  clear F2 N2 hI hD f2 ht2 hxs hx1 hx2 hsg hp0 hp1 hs0 hs1
  intro n s₂ hI0 ih
  refine Classical.byContradiction fun hG0 => ?_
  obtain ⟨k, one, sgn, pat, nws, txt, du, lat, mrk, way, beh, trn, led', tvs, et, xs, pl, st, tpl, tst, rfl, hk, hI, hD, f2, ht2, hxs, hx1, hx2, hsg, hp0, hp1, hs0, hs1, ⟨hh, tt, rfl⟩, F3, N3⟩ := hI0
  refine hG0 ?_
  clear hG0
  refine codeC_for ?_
  by_cases hlt : k < 6
  · k_dflt (refine' next_rangeU ?F ?N ?U ?hl ?_; (case F => k_asm); (case N => k_asm); (case U => exact .head (List.forall_mem_cons.mpr ⟨Nat.ne_of_lt f3, fun q hq => (List.mem_append.mp hq).elim (f2 q) (f1 q)⟩)); (case hl => omega))
    intro h5 tk5 t5 F5 N5
    dsimp only at N5 ⊢
    clear F3 N3
    replace N5 := News.add N5 (.tail _ (.tail _ (List.mem_append_right _ hR)))
    k_steps
    refine wpC_cons (wpC_of_any ?_)
    k_steps
    (with_reducible rename News h₀ L _ _ => kN)
    (with_reducible rename Fr h₀ L _ _ => kF)
    refine Held.of ?_
    refine due_c B kF X kN TT (.tail _ (.tail _ (.head _))) (.head _) hrows (fun q hq => .tail _ (.tail _ (.tail _ (List.mem_append_right _ hq)))) hrl hxs hx1 hx2 hsg hp0 hp1 hs0 hs1 hm1 (by ktr_room) (by ktr_units) ?_ ?_
    · intro hnd h9 tk9 F9 N9
      clear kF kN
      (try clear F')
      (try clear N')
      k_steps
      dsimp only [nextC]
      refine wpC_cons (wpC_of_any ?_)
      k_steps
      dsimp only [nextC]
      refine wpC_cons (wpC_If (wpC_of_any ?_))
      k_steps
      refine wpC_nil ?_
      dsimp only [nextC]
      (with_reducible rename News h₀ L _ _ => kN)
      (with_reducible rename Fr h₀ L _ _ => kF)
      (with_reducible rename _ ∧ _ ∧ _ ∧ _ ∧ AllLt _ (led' ++ fx) => kl)
      simp only [lawM_turn, lawM_due, lawM_text, lawM_later] at kF
      refine wpC_cons ?_
      refine checks_c (show (hd.heap_39 w.params).lookup 331 = some _ by k_is) (due := none) (pre := (_, tup2 (.bytes (shownB xs pl st) _) (.int ((0 : Nat) : Int) _) _) :: (I1, rngI (k + 1) (6 - k - 1)) :: (tp, W.listOf tvs.toArray et) :: fx) (rl := rl) C B X TT kF (News.tn1 kN) ?_ hI hm0 hm1 (.tail _ (.tail _ (.tail _ hR))) hrl (hrows.mono fun q hq => .tail _ (.tail _ (.tail _ hq))) hok (.inl ⟨rfl, rfl⟩) (.head _) ?_ (by ktr_room) (by ktr_units) ?_
      · exact Disj.consL (fun q hq => AllLt.nes kl.2.2.2.2 (Nat.le_refl _) q (List.mem_append_left _ hq)) (Disj.consL f2 (Disj.consL ht2 hD))
      · intro i j a b c hi hj hr
        rw [if_neg (fun h => nomatch h), if_neg (fun h => nomatch h)]
        refine Classical.byContradiction fun hG0 => ?_
        obtain ⟨z1, z2, z3, z4, z5, z6⟩ := hok i j a b c hr
        refine hG0 ?_
        clear hG0
        refine Hno xs pl st i j a b c hx1 hx2 hsg hp0 hp1 hs0 (by omega) (by omega) hj z1 z2 z3 z4 z5 (by omega) fun hh => hnd a b c ⟨hh.1, ?_, hh.2.2.2⟩
        rw [← hr, ← hh.2.2.1, ← hh.2.1]; rfl
      intro one' sgn' pat' nws' led2 h10 tk10 F10 N10 I10 D10
      dsimp only [nextC]
      refine wpC_cons (wpC_If (wpC_of_any ?_))
      k_steps
      refine wpC_cons (wpC_of_any ?_)
      k_steps
      dsimp only [nextC, turnC]
      exact hret _ led2 _ _ F10 (News.tn2 N10) I10
    · intro a1 b1 c1 r ra va vb e2 e3 ta tb tc hlt1 hr0 hnb hx hra hv hrm D t1 t2 e' h9 tk9 F9 N9 lD
      clear kF kN
      (try clear F')
      (try clear N')
      k_steps
      dsimp only [nextC]
      refine wpC_cons (wpC_of_any ?_)
      k_steps
      dsimp only [nextC]
      refine wpC_cons (wpC_If (wpC_of_any ?_))
      (with_reducible rename News h₀ L _ _ => N10)
      obtain ⟨tx, htx⟩ := IntsAre.at_ hxs (i := pl.toNat) (by omega)
      have hg2 := hsg pl.toNat
      replace N10 := News.add (News.add N10 (.tail _ (.tail _ (.tail _ (.tail _ (.tail _ (.tail _ (List.mem_append_right _ hra)))))))) (.tail _ (.tail _ (.tail _ (.tail _ (.tail _ (.tail _ (.tail _ (List.mem_append_right _ hrm))))))))
      k_steps
      refine wpC_cons (wpC_of_any ?_)
      k_steps
      (with_reducible rename News h₀ L _ _ => N11)
      replace N11 := News.tn3 N11
      have hT9 : ∀ q ∈ (D, tup2 (.int st t1) (.int (xs.getD pl.toNat 0) t2) e') :: (I1, rngI (k + 1) (6 - k - 1)) :: (led' ++ fx), q.1 ≠ tp := List.forall_mem_cons.mpr ⟨(lD _ (.tail _ (.tail _ (.head _)))).symm, List.forall_mem_cons.mpr ⟨Nat.ne_of_gt f3, fun q hq => (List.mem_append.mp hq).elim (ht2 q) (ht1 q)⟩⟩
      have hD1 : ∀ q ∈ led', q.1 ≠ D := fun q hq => lD q (.tail _ (.tail _ (.tail _ (List.mem_append_left _ hq))))
      refine Classical.byContradiction fun hG0 => ?_
      obtain ⟨y1, y2, y3, y4, y5, y6⟩ := hok _ _ a1 b1 c1 hr0
      refine hG0 ?_
      clear hG0
      dsimp only [nextC]
      refine wpC_cons (wpC_of_any ?_)
      k_steps
      dsimp only [nextC]
      refine wpC_cons (wpC_of_any ?_)
      k_steps
      dsimp only [nextC]
      refine wpC_cons (wpC_of_any ?_)
      k_steps
      dsimp only [nextC]
      (with_reducible rename News h₀ L _ _ => kN)
      (with_reducible rename Fr h₀ L _ _ => kF)
      (with_reducible rename _ ∧ _ ∧ _ ∧ _ ∧ AllLt _ (led' ++ fx) => kl)
      simp only [lawM_turn, lawM_due, lawM_text, lawM_later, lawM_mark, lawM_way, lawM_behind, lawM_state, lawM_place] at kF
      obtain ⟨sn, hsn⟩ : ∃ sn : Nat, st = (sn : Int) := ⟨st.toNat, by omega⟩
      obtain ⟨gn, hgn⟩ : ∃ gn : Nat, xs.getD pl.toNat 0 = (gn : Int) := ⟨(xs.getD pl.toNat 0).toNat, by omega⟩
      have hr1 : rl sn gn = some (a1, b1, c1) := by rw [← hr0, hsn, hgn]; rfl
      rw [hgn, show (Value.int st t1) = Value.int (sn : Int) t1 by rw [hsn]] at kN
      refine wpC_nil ?_
      dsimp only [nextC]
      refine wpC_cons ?_
      refine checks_c (show (hd.heap_39 w.params).lookup 331 = some _ by k_is) (due := some (sn, gn)) (LB := shownB (xs.set pl.toNat a1) (pl + 2 * b1 - 1) c1) (LN := 1) (pre := (_, tup2 (.bytes (shownB (xs.set pl.toNat a1) (pl + 2 * b1 - 1) c1) _) (.int ((1 : Nat) : Int) _) _) :: (D, tup2 (.int (sn : Int) t1) (.int (gn : Int) t2) e') :: (I1, rngI (k + 1) (6 - k - 1)) :: (tp, W.listOf (tvs.set pl.toNat (.int a1 ta)).toArray et) :: fx) (rl := rl) C B X TT kF (News.tn4 kN) ?_ hI hm0 hm1 (.tail _ (.tail _ (.tail _ (.tail _ hR)))) hrl (hrows.mono fun q hq => .tail _ (.tail _ (.tail _ (.tail _ hq)))) hok (.inr ⟨D, sn, gn, e', t1, t2, rfl, rfl, .tail _ (.head _)⟩) (.head _) ?_ (by ktr_room) (by ktr_units) ?_
      · exact Disj.consL (fun q hq => AllLt.nes kl.2.2.2.2 (Nat.le_refl _) q (List.mem_append_left _ hq)) (Disj.consL hD1 (Disj.consL f2 (Disj.consL ht2 hD)))
      · intro i j a b c hi hj hr
        refine Classical.byContradiction fun hG0 => ?_
        obtain ⟨z1, z2, z3, z4, z5, z6⟩ := hok i j a b c hr
        refine hG0 ?_
        clear hG0
        by_cases hc : some (sn, gn) = some (i, j)
        · rw [if_pos hc, if_pos hc]
          cases hc
          rw [hr1] at hr
          cases hr
          exact Hyes xs pl st sn gn a1 b1 c1 hx1 hx2 hsg hp0 hlt1 hs0 (by omega) z1 z2 z3 z4 z5 (by omega) hsn.symm hgn.symm hnb
        · rw [if_neg hc, if_neg hc]
          refine Hno xs pl st i j a b c hx1 hx2 hsg hp0 hp1 hs0 (by omega) (by omega) hj z1 z2 z3 z4 z5 (by omega) fun hh => hc ?_
          rw [show i = sn by have := hh.2.1; omega, show j = gn by have := hh.2.2.1; omega]
      intro one' sgn' pat' nws' led2 h10 tk10 F10 N10 I10 D10
      clear kF kN
      (try clear F')
      (try clear N')
      dsimp only [nextC]
      refine wpC_cons (wpC_If (wpC_of_any ?_))
      k_steps
      iterate 4 (try (refine wpC_nil ?_; dsimp only [nextC, turnC]))
      have N12 := News.tn5 N10
      rw [show (6 : Int) - (k : Int) - 1 = 6 - ((k + 1 : Nat) : Int) by omega, show (k : Int) + 1 = ((k + 1 : Nat) : Int) by omega] at N12
      refine ih _ (6 - (k + 1)) (by omega) ⟨k + 1, _, _, _, _, _, _, _, _, _, _, _, led2, _, _, xs.set pl.toNat a1, pl + 2 * b1 - 1, c1, _, _, rfl, by omega, I10, D10.tailL.tailL.tailL.tailL, D10.tailL.tailL.headL, D10.tailL.tailL.tailL.headL,
        by assumption, by rw [List.length_set]; exact hx1, by rw [List.length_set]; exact hx2, Signs.set hsg y1 y2 _, ?_, ?_, y5, y6, ⟨_, _, rfl⟩, F10, N12⟩
      · omega
      · rw [List.length_set]; omega
  · k_dflt (refine end_range0 rfl F3 N3 (by omega) (List.forall_mem_cons.mpr ⟨Nat.ne_of_lt f3, fun q hq => (List.mem_append.mp hq).elim (f2 q) (f1 q)⟩) ?_)
    intro h9 F9 N9
    exact hret _ led' _ _ F9 (News.tail' N9) hI
end
theorem flush28 {prog : PySem.Program} {w : PySem.World} {A : PySem.Around} {Q : Unit → PySem.Shared → Prop} {E : PySem.Value → PySem.Shared → Prop} {s : PySem.Shared} (h : Q () s) : PySem.wpAny (PySem.model prog w) A (pure ()) Q E s := by
  w_top off
  first | (walk1; fail) | exact PySem.wpAny_pure h
section
local macro_rules | `(tactic| walk_at "call ref") => `(tactic| (k_here; (with_reducible show wpAny _ _ (call (.ref 293) [.ref _, .int _ _]) _ _ _); k_dflt (refine' told_c ?B ?F ?X ?N ?TT ?U ?hl ?hB ?hI ?z1 ?z2 ?z3 ?z4 ?z5 ?z6 ?hr ?hu ?_; (case N | B | F | X | TT => k_asm); (case U => k_updF); (case hB => assumption); (case hl => k_mem); (case hI => assumption); (case z1 | z2 | z3 | z4 | z5 | z6 => omega); (case hr => ktr_room); (case hu => ktr_units)); intro x' t' h' tk' oB' t1' F' N' hd' hx0' hx1'; (try dsimp only at N')))
theorem wpC_AssignName {M : Model} {A : Around} {env : Env} {x : Str} {pos' pos : Pos} {value : PySem.Expr} {Q : Flow → Shared → Prop}
    (h : wpC M A (eval value env) (fun v s₁ => wpAny M A (storeName env x v) (fun _ => Q .next) (fun _ _ => False) s₁) s)
    (hs : swapsWith value (some (.Name x pos')) pos.line env = pure false := by rfl) : wpC M A (exec (.Assign [.Name x pos'] value pos) env) Q s := by
  rw [exec_Assign_Name env x pos' value pos hs]
  refine wpC_standAt (wpC_bind (wpC_mono h fun v s₁ h₁ => ?_))
  refine wpC_standAt (wpC_seq fun Γ p hΓ => ?_)
  rw [Sem.wp_bindName]
  exact Sem.wp_mono M Γ _ (fun _ _ s₂ (h₂ : Q .next s₂) => (wpC_pure h₂ : wpC M A (pure Flow.next) Q s₂)) (fun _ _ _ h' => h') p s₁ (h₁ Γ p hΓ)
/-- the law's plain premises: what a call of _law_done gives where the rule is due, and where it is not -/
def PlainNo (w : World) (p : Program) (loose : List Str) (mean : ExcName → Option Value) (mg mb : Str → Option Value) (ps1 ps2 ps3 : Pos) (q1 q2 q3 : Str) : Prop :=
  ∀ (xs : List Int) (pl st : Int) (i j : Nat) (a b c : Int), 2 ≤ xs.length → xs.length ≤ 4 → Signs xs → 0 ≤ pl → pl ≤ xs.length → 0 ≤ st → st < 3 → i < 3 → j < 2 → 0 ≤ a → a < 2 → 0 ≤ b → b < 2 → 0 ≤ c → c < 3 →
      ¬ (pl < xs.length ∧ (i : Int) = st ∧ (j : Int) = xs.getD pl.toNat 0 ∧ ¬ (b = 0 ∧ pl = 0)) → DoneIs w p loose mean mg mb ps1 ps2 ps3 q1 q2 q3 (shownB xs pl st) (patB b i j) (newB a b c) (shownB xs pl st) 0
def PlainYes (w : World) (p : Program) (loose : List Str) (mean : ExcName → Option Value) (mg mb : Str → Option Value) (ps1 ps2 ps3 : Pos) (q1 q2 q3 : Str) : Prop :=
  ∀ (xs : List Int) (pl st : Int) (i j : Nat) (a b c : Int), 2 ≤ xs.length → xs.length ≤ 4 → Signs xs → 0 ≤ pl → pl < xs.length → 0 ≤ st → st < 3 → 0 ≤ a → a < 2 → 0 ≤ b → b < 2 → 0 ≤ c → c < 3 →
      (i : Int) = st → (j : Int) = xs.getD pl.toNat 0 → ¬ (b = 0 ∧ pl = 0) → DoneIs w p loose mean mg mb ps1 ps2 ps3 q1 q2 q3 (shownB xs pl st) (patB b i j) (newB a b c) (shownB (xs.set pl.toNat a) (pl + 2 * b - 1) c) 1
theorem News.bd1 {h₀ h : Heap} {L : Addr} {t l b c p : Addr × Obj} (N : News h₀ L h [t, l, b, c, p]) : News h₀ L h [b, l, t, c, p] :=
  News.perm N fun q hq => by simp only [List.mem_cons, List.not_mem_nil, or_false] at hq ⊢; rcases hq with h | h | h | h | h <;> simp [h]
theorem News.bd2 {h₀ h : Heap} {L : Addr} {R l b c t p : Addr × Obj} {nw : List (Addr × Obj)} (N : News h₀ L h (R :: b :: l :: t :: c :: p :: nw)) : News h₀ L h (t :: ([p] ++ (R :: nw))) :=
  News.perm N fun q hq => by simp only [List.mem_cons, List.mem_append, List.not_mem_nil, or_false] at hq ⊢; rcases hq with h | h | h | h <;> simp [h]
theorem body2_c {oc0 : Value} {od0 an0 : Option Addr} {name0 qual0 : Str} {params0 : Arguments} {s1 s2 s3 s4 s5 s6 s7 s8 : Stmt} {scope0 : Scope} {dV0 kV0 doc0 pm0 cdv0 ct0 : Value} {osl0 : Array (Option Value)}
    (hlook : (hd.heap_39 w.params).lookup 331 = some ⟨oc0, od0, .func (fnOf name0 qual0 params0 [s1, s2, s3, s4, s5, s6, s7, s8] scope0 dV0 kV0 doc0 pm0 an0 cdv0 ct0), osl0⟩)
    {ps1 ps2 ps3 : Pos} {q1 q2 q3 : Str} {tp l bag bc e et : Nat} {ns xs : List Int} {wv tvs : List Value} {oc oB : Obj} {states k : Int} {tk tS : Tok} {l0 : Nat}
    (C : CodeHd base 299 295) (B : Below A₀ base outer h₀) (X : (hd.heap_39 w.params).In h₀) (TT : Top p loose mean mg mb h₀)
    (F : Fr h₀ L s.heap (lawM none none none none none none none none (some (.ref tp)) (some (.int states tS)) none none none none none none (some (.ref l0))))
    (N : News h₀ L s.heap [(tp, W.listOf tvs.toArray et), (l, W.listOf wv.toArray e), (bag, oB), (bc, oc), (295, tabObj #[])]) (hoc : oc.data = .cell (some (.ref bag)))
    (hB : Obj.IsDictOf (strKind PySem.Challenge.rw_tk0057_01.row.prog w) oB [(Str.ofString "all", .ref l), (Str.ofString "at", .int k tk)]) (hI : IntsAre wv ns) (hlen : ns.length ≤ 26)
    (n1 : @Ne Nat tp bag) (n2 : bag < l) (n3 : @Ne Nat bc bag) (n4 : @Ne Nat 295 bag) (n5 : @Ne Nat 295 tp) (h0 : 0 ≤ k) (h1 : k < 10) (hm0 : 2 ≤ states) (hm1 : states ≤ 3)
    (hxs : IntsAre tvs xs) (hx1 : 2 ≤ xs.length) (hx2 : xs.length ≤ 4) (hsg : Signs xs)
    (Hno : PlainNo w p loose mean mg mb ps1 ps2 ps3 q1 q2 q3) (Hyes : PlainYes w p loose mean mg mb ps1 ps2 ps3 q1 q2 q3)
    (hdp : dp + 660 < recursionLimit) (hun : un + 2200 < cLine) {Q : Flow → Shared → Prop}
    (hret : ∀ m' led' fx h' tk', Fr h₀ L h' m' → News h₀ L h' (led' ++ fx) → CT 295 ps1 ps2 ps3 q1 q2 q3 led' → Q (.ret (.bool true)) { s with heap := h', toks := tk' }) :
    wpC (model PySem.Challenge.rw_tk0057_01.row.prog w) (ktrTop dp un gd name0 scope0 L a ccd [(Str.ofString "bag", bc)] outer) (execs [s4, s5, s6, s7, s8] (envX name0 scope0 L a ccd [(Str.ofString "bag", bc)])) Q s := by
  revert X; k_fill; intro X
  have hl' := hlook.symm.trans (show (hd.heap_39 w.params).lookup 331 = some _ by k_is)
  have e0 := ob_eqs hl'
  have x0 := e0.1
  have x1 := e0.2.2.2
  have t3 := List.tail_eq_of_cons_eq (List.tail_eq_of_cons_eq (List.tail_eq_of_cons_eq e0.2.2.1))
  have y4 := List.head_eq_of_cons_eq t3
  have t4 := List.tail_eq_of_cons_eq t3
  have y5 := List.head_eq_of_cons_eq t4
  have t5 := List.tail_eq_of_cons_eq t4
  have y6 := List.head_eq_of_cons_eq t5
  have t6 := List.tail_eq_of_cons_eq t5
  have y7 := List.head_eq_of_cons_eq t6
  have t7 := List.tail_eq_of_cons_eq t6
  have y8 := List.head_eq_of_cons_eq t7
  clear e0 t3 t4 t5 t6 t7 hl' hlook
  subst x0 x1 y4 y5 y6 y7 y8
  have hvl := hxs.length
  refine wpC_cons (wpC_of_any ?_)
  k_steps
  dsimp only [nextC]
  refine wpC_cons ?_
  refine wpC_AssignName ?_
  refine wpC_CallName ?_
  k_steps
  refine wpC_callWith (P := FnAt 307) rfl keeps_F (wpC_of_any ?_)
  k_steps
  all_goals (with_reducible rename News h₀ L _ _ => kN)
  all_goals (with_reducible rename Fr h₀ L _ _ => kF)
  · exact ⟨_, _, _, _, (X.keeps (Fr.keep kF)) _ _ (show (hd.heap_39 w.params).lookup 307 = some _ by k_is)⟩
  (with_reducible rename Obj.IsDictOf _ _ _ => hB2)
  have kN2 := News.bd1 kN
  k_dflt (refine drawn_c B kF X kN2 TT hB2 hI n2 n1 n3 n4 (by omega) (by omega) hlen hm0 hm1 (by ktr_room) (by ktr_units) ?_)
  intro R er oB3 k3 tk3 rv rl nw h5 tk5 F5 N5 hrl hrows hok hk1 hk0 hB3 d1 d2 d3 d4 q1 q3 q5
  clear kF kN kN2 hB2 hB
  (try clear F')
  (try clear N')
  k_steps
  dsimp only [nextC]
  refine wpC_cons (wpC_of_any ?_)
  k_steps
  dsimp only [nextC]
  (with_reducible rename News h₀ L _ _ => kN)
  (with_reducible rename Fr h₀ L _ _ => kF)
  simp only [lawM_state, lawM_rules, lawM_place] at kF
  refine wpC_cons ?_
  k_dflt (refine turns_c (show (hd.heap_39 w.params).lookup 331 = some _ by k_is) (led := [(295, tabObj #[])]) (fx := (R, W.listOf rv.toArray er) :: nw) (rl := rl) C B X TT kF (News.bd2 kN) ?D (.inl rfl) ?t1 ?t2 hm0 hm1 (.head _) hrl (hrows.mono fun q hq => .tail _ hq) hok hxs hx1 hx2 hsg (by assumption) (by omega) (by assumption) (by assumption) Hno Hyes (by ktr_room) (by ktr_units) ?_)
  case D =>
    intro q hq r hr
    rcases List.mem_cons.mp hr with rfl | hr
    · rcases List.mem_cons.mp hq with rfl | hq
      · exact Nat.ne_of_gt q5
      · exact d4 q hq
    · cases hr
  case t1 => exact List.forall_mem_cons.mpr ⟨Nat.ne_of_gt q3, d3⟩
  case t2 => exact List.forall_mem_cons.mpr ⟨n5, fun q hq => nomatch hq⟩
  intro m' led' h9 tk9 F9 N9 I9
  clear kF kN
  (try clear F')
  (try clear N')
  dsimp only [nextC]
  refine wpC_cons (wpC_of_any ?_)
  k_steps
  dsimp only [nextC]
  exact hret _ _ _ _ _ F9 N9 I9
end
theorem flush29 {prog : PySem.Program} {w : PySem.World} {A : PySem.Around} {Q : Unit → PySem.Shared → Prop} {E : PySem.Value → PySem.Shared → Prop} {s : PySem.Shared} (h : Q () s) : PySem.wpAny (PySem.model prog w) A (pure ()) Q E s := by
  w_top off
  first | (walk1; fail) | exact PySem.wpAny_pure h
section
local macro_rules | `(tactic| walk_at "call ref") => `(tactic| (k_here; (with_reducible show wpAny _ _ (call (.ref 293) [.ref _, .int _ _]) _ _ _); k_dflt (refine' told_c ?B ?F ?X ?N ?TT ?U ?hl ?hB ?hI ?z1 ?z2 ?z3 ?z4 ?z5 ?z6 ?hr ?hu ?_; (case N | B | F | X | TT => k_asm); (case U => k_updF); (case hB => assumption); (case hl => k_mem); (case hI => assumption); (case z1 | z2 | z3 | z4 | z5 | z6 => omega); (case hr => ktr_room); (case hu => ktr_units)); intro x' t' h' tk' oB' t1' F' N' hd' hx0' hx1'; (try dsimp only at N')))
local macro_rules | `(tactic| walk_at "call ref") => `(tactic| (k_here; (with_reducible show wpAny _ _ (call (.ref 293) [.ref _, .int 3 _]) _ _ _); k_dflt (refine' told_c ?B ?F ?X ?N ?TT ?U ?hl ?hB ?hI ?z1 ?z2 ?z3 ?z4 ?z5 ?z6 ?hr ?hu ?_; (case N | B | F | X | TT => k_asm); (case U => k_updF); (case hB => assumption); (case hl => k_mem); (case hI => assumption); (case z1 | z2 | z3 | z4 | z5 | z6 => omega); (case hr => ktr_room); (case hu => ktr_units)); intro x' t' h' tk' oB' t1' F' N' hd' hx0' hx1'; (try dsimp only at N'); (have hz : x' = 0 ∨ x' = 1 ∨ x' = 2 := by omega); rcases hz with hz | hz | hz <;> subst hz))
local macro_rules | `(tactic| walk_at "CompSrc") => `(tactic| (k_here; k_dflt (refine LCg.CompSrc.range (by rfl) (by k_asm) (by k_asm) (by assumption) (by first | decide | rfl) (by first | rfl | decide) (by first | size_fits | exact Nat.le_of_ble_eq_true rfl) ?_; intro g'; lcg_lit)))
local macro_rules | `(tactic| walk_at "CompEnd") => `(tactic| ((with_reducible rename Fr _ _ _ _ => F9); (with_reducible rename News _ _ _ _ => N9); (refine LCg.CompEnd.intro F9 N9 _ (fun p hp => hp) ?o9 ?s9 ?_); (case o9 => first | exact True.intro | ((try simp only [LCg.Off3, and_true]); assumption)); (case s9 => lcg_src)))
theorem signs_of {xs : List Int} (h : ∀ x ∈ xs, 0 ≤ x ∧ x < 2) : Signs xs := fun i => by
  rw [List.getD_eq_getElem?_getD]
  cases e : xs[i]? with
  | none => exact ⟨Int.le_refl _, by decide⟩
  | some x => exact h x (List.mem_of_getElem? e)
theorem body_c {oc0 : Value} {od0 an0 : Option Addr} {name0 qual0 : Str} {params0 : Arguments} {b0 : List Stmt} {scope0 : Scope} {dV0 kV0 doc0 pm0 cdv0 ct0 : Value} {osl0 : Array (Option Value)}
    (hlook : (hd.heap_39 w.params).lookup 331 = some ⟨oc0, od0, .func (fnOf name0 qual0 params0 b0 scope0 dV0 kV0 doc0 pm0 an0 cdv0 ct0), osl0⟩)
    {ps1 ps2 ps3 : Pos} {q1 q2 q3 : Str} {l0 : Nat} {ns : List Int} {vs : List Value} {oc : Obj} {bc : Nat}
    (C : CodeHd base 299 295) (B : Below A₀ base outer h₀) (X : (hd.heap_39 w.params).In h₀) (TT : Top p loose mean mg mb h₀)
    (F : Fr h₀ L s.heap (lawM none none none none none none none none none none none none none none none none (some (.ref l0))))
    (N : News h₀ L s.heap [(bc, oc), (295, tabObj #[])]) (hoc : oc.data = .cell none) (hbc : @LT.lt Nat _ 295 bc) (hl : h₀.IsList l0 vs.toArray) (hI : IntsAre vs ns) (hn : ns.length ≤ 63)
    (Hno : PlainNo w p loose mean mg mb ps1 ps2 ps3 q1 q2 q3) (Hyes : PlainYes w p loose mean mg mb ps1 ps2 ps3 q1 q2 q3)
    (hdp : dp + 660 < recursionLimit) (hun : un + 2200 < cLine) {Q : Flow → Shared → Prop}
    (hret : ∀ m' led' fx h' tk', Fr h₀ L h' m' → News h₀ L h' (led' ++ fx) → CT 295 ps1 ps2 ps3 q1 q2 q3 led' → Q (.ret (.bool true)) { s with heap := h', toks := tk' }) :
    wpC (model PySem.Challenge.rw_tk0057_01.row.prog w) (ktrTop dp un gd name0 scope0 L a ccd [(Str.ofString "bag", bc)] outer) (execs b0 (envX name0 scope0 L a ccd [(Str.ofString "bag", bc)])) Q s := by
  revert X; k_fill; intro X
  have hl' := hlook.symm.trans (show (hd.heap_39 w.params).lookup 331 = some _ by k_is)
  have e0 := ob_eqs hl'
  have x0 := e0.1
  have x1 := e0.2.2.2
  have x2 := e0.2.2.1
  clear e0 hl' hlook
  subst x0 x1 x2
  refine wpC_cons (wpC_of_any ?_)
  k_steps
  dsimp only [nextC]
  refine wpC_cons (wpC_of_any ?_)
  have hlen : (List.take 26 ns).length ≤ 26 := by rw [List.length_take]; omega
  k_steps
  dsimp only [nextC]
  refine wpC_cons (wpC_of_any ?_)
  k_steps
  all_goals dsimp only [nextC]
  all_goals (with_reducible rename News h₀ L _ _ => kN)
  all_goals (with_reducible rename Fr h₀ L _ _ => kF)
  all_goals (with_reducible rename Obj.IsDictOf _ _ _ => kB)
  all_goals (with_reducible rename IntsAre _ (List.take 26 ns) => kI)
  all_goals dsimp only at kF
  all_goals simp only [lawM_tape, lawM_states] at kF
  all_goals k_dflt (first | refine body2_c (show (hd.heap_39 w.params).lookup 331 = some _ by k_is) C B X TT kF kN ?_ kB kI hlen ?_ ?_ ?_ ?_ ?_ ?_ ?_ ?_ ?_ (IntsAre.cons _ _ (IntsAre.cons _ _ (IntsAre.cons _ _ (IntsAre.cons _ _ IntsAre.nil)))) ?_ ?_ ?_ Hno Hyes hdp hun hret | refine body2_c (show (hd.heap_39 w.params).lookup 331 = some _ by k_is) C B X TT kF kN ?_ kB kI hlen ?_ ?_ ?_ ?_ ?_ ?_ ?_ ?_ ?_ (IntsAre.cons _ _ (IntsAre.cons _ _ (IntsAre.cons _ _ IntsAre.nil))) ?_ ?_ ?_ Hno Hyes hdp hun hret | refine body2_c (show (hd.heap_39 w.params).lookup 331 = some _ by k_is) C B X TT kF kN ?_ kB kI hlen ?_ ?_ ?_ ?_ ?_ ?_ ?_ ?_ ?_ (IntsAre.cons _ _ (IntsAre.cons _ _ IntsAre.nil)) ?_ ?_ ?_ Hno Hyes hdp hun hret)
  all_goals first
    | omega
    | assumption
    | exact Nat.le_of_ble_eq_true rfl
    | (refine signs_of fun x hx => ?_
       simp only [List.mem_cons, List.not_mem_nil, or_false] at hx
       omega)
end
theorem flush30 {prog : PySem.Program} {w : PySem.World} {A : PySem.Around} {Q : Unit → PySem.Shared → Prop} {E : PySem.Value → PySem.Shared → Prop} {s : PySem.Shared} (h : Q () s) : PySem.wpAny (PySem.model prog w) A (pure ()) Q E s := by
  w_top off
  first | (walk1; fail) | exact PySem.wpAny_pure h
section
def sgn (x : Int) : UInt8 := if x = 0 then 111 else 105
def cap (x : Int) : UInt8 := if x = 0 then 65 else if x = 1 then 66 else 67
theorem oi_eq {x : Int} (h0 : 0 ≤ x) (h1 : x < 2) : oi x = [sgn x].toArray := by
  have h : x = 0 ∨ x = 1 := by omega
  rcases h with rfl | rfl <;> decide +kernel
theorem abc_eq {x : Int} (h0 : 0 ≤ x) (h1 : x < 3) : abc x = [cap x].toArray := by
  have h : x = 0 ∨ x = 1 ∨ x = 2 := by omega
  rcases h with rfl | rfl | rfl <;> decide +kernel
theorem sgn_ge (x : Int) : 105 ≤ (sgn x).toNat ∧ (sgn x).toNat ≤ 111 := by unfold sgn; split <;> decide
theorem cap_le (x : Int) : 65 ≤ (cap x).toNat ∧ (cap x).toNat ≤ 67 := by unfold cap; split; decide; split <;> decide
theorem sgn_inj {x y : Int} (hx0 : 0 ≤ x) (hx1 : x < 2) (hy0 : 0 ≤ y) (hy1 : y < 2) (h : (sgn x).toNat = (sgn y).toNat) : x = y := by
  have a : x = 0 ∨ x = 1 := by omega
  have b : y = 0 ∨ y = 1 := by omega
  rcases a with rfl | rfl <;> rcases b with rfl | rfl <;> first | rfl | exact absurd h (by decide)
theorem cap_inj {x y : Int} (hx0 : 0 ≤ x) (hx1 : x < 3) (hy0 : 0 ≤ y) (hy1 : y < 3) (h : (cap x).toNat = (cap y).toNat) : x = y := by
  have a : x = 0 ∨ x = 1 ∨ x = 2 := by omega
  have b : y = 0 ∨ y = 1 ∨ y = 2 := by omega
  rcases a with rfl | rfl | rfl <;> rcases b with rfl | rfl | rfl <;> first | rfl | exact absurd h (by decide)
/-- the shown text's octets -/
def tl (xs : List Int) (n : Nat) (st : Int) : List UInt8 := (xs.take n).map sgn ++ cap st :: (xs.drop n).map sgn
theorem joined_aux : ∀ (xs : List Int) (k : Nat) (acc : Array UInt8), (∀ x ∈ xs, 0 ≤ x ∧ x < 2) →
    ((xs.map oi).zipIdx k).foldl (fun (out : Array UInt8) (q : Array UInt8 × Nat) => (if q.2 > 0 then out ++ #[] else out) ++ q.1) acc = acc ++ (xs.map sgn).toArray
  | [], k, acc, _ => by simp
  | x :: xs, k, acc, h => by
    obtain ⟨h0, h1⟩ := h x (.head _)
    rw [List.map_cons, List.zipIdx_cons, List.foldl_cons, joined_aux xs (k + 1) _ fun y hy => h y (.tail _ hy)]
    dsimp only
    rw [Array.append_empty, ite_self, oi_eq h0 h1]
    simp
theorem joined_oi {xs : List Int} (h : ∀ x ∈ xs, 0 ≤ x ∧ x < 2) : Builtin.Bytes.joined #[] (xs.map oi) = (xs.map sgn).toArray := by
  have := joined_aux xs 0 #[] h
  simpa [Builtin.Bytes.joined] using this
theorem shown_tl {xs : List Int} {pl st : Int} (h : ∀ x ∈ xs, 0 ≤ x ∧ x < 2) (h0 : 0 ≤ pl) (h1 : pl ≤ xs.length) (s0 : 0 ≤ st) (s1 : st < 3) : shownB xs pl st = (tl xs pl.toNat st).toArray := by
  unfold shownB tl
  rw [joined_oi h, PySem.W.KBc.picked_eq, PySem.W.KBc.picked_eq, abc_eq s0 s1]
  have hs : (xs.map sgn).toArray.size = xs.length := by simp
  have hp : pl.toNat ≤ xs.length := by omega
  simp only [Option.elim, hs, PyProof.Rows.clipAt_in h0 h1, List.drop_zero, Nat.sub_zero, List.map_take, List.map_drop]
  rw [List.take_of_length_le (l := List.drop _ _) (by simp)]
  simp
theorem pat_R {i j : Int} (hi0 : 0 ≤ i) (hi1 : i < 3) (hj0 : 0 ≤ j) (hj1 : j < 2) : patB 1 i j = [cap i, sgn j].toArray := by
  unfold patB; rw [if_pos rfl, abc_eq hi0 hi1, oi_eq hj0 hj1]; simp
theorem pat_L {i j : Int} (hi0 : 0 ≤ i) (hi1 : i < 3) (hj0 : 0 ≤ j) (hj1 : j < 2) : patB 0 i j = [40, 37, 108, 41, cap i, sgn j].toArray := by
  unfold patB; rw [if_neg (by decide), abc_eq hi0 hi1, oi_eq hj0 hj1]; simp
theorem new_R {a c : Int} (ha0 : 0 ≤ a) (ha1 : a < 2) (hc0 : 0 ≤ c) (hc1 : c < 3) : newB a 1 c = [sgn a, cap c].toArray := by
  unfold newB; rw [if_pos rfl, abc_eq hc0 hc1, oi_eq ha0 ha1]; simp
theorem new_L {a c : Int} (ha0 : 0 ≤ a) (ha1 : a < 2) (hc0 : 0 ≤ c) (hc1 : c < 3) : newB a 0 c = [cap c, 37, 49, sgn a].toArray := by
  unfold newB; rw [if_neg (by decide), abc_eq hc0 hc1, oi_eq ha0 ha1]; simp
theorem find_R {i j : Int} : Builtin.Bytes.find? [cap i, sgn j].toArray (List.toArray [0]) 0 [cap i, sgn j].toArray.size = none := by
  unfold cap sgn; split <;> (try split) <;> (try split) <;> decide +kernel
theorem find_L {i j : Int} : Builtin.Bytes.find? [40, 37, 108, 41, cap i, sgn j].toArray (List.toArray [0]) 0 [40, 37, 108, 41, cap i, sgn j].toArray.size = none := by
  unfold cap sgn; split <;> (try split) <;> (try split) <;> decide +kernel
theorem zat_list (l : List UInt8) (k : Nat) : zat l.toArray k = ((l.getD k 0).toNat : Int) := rfl
theorem tl_length {xs : List Int} {n : Nat} {st : Int} (h : n ≤ xs.length) : (tl xs n st).length = xs.length + 1 := by
  unfold tl; simp; omega
theorem tl_at {xs : List Int} {n : Nat} {st : Int} (h : n ≤ xs.length) : (tl xs n st).getD n 0 = cap st := by
  unfold tl
  rw [List.getD_eq_getElem?_getD, List.getElem?_append_right (by simp only [List.length_map, List.length_take]; omega)]
  simp [Nat.min_eq_left h]
theorem tl_ne {xs : List Int} {n : Nat} {st : Int} {k : Nat} (h : n ≤ xs.length) (hk : k < xs.length + 1) (hn : k ≠ n) : ∃ x, (tl xs n st).getD k 0 = sgn x := by
  unfold tl
  rw [List.getD_eq_getElem?_getD]
  by_cases hlt : k < n
  · rw [List.getElem?_append_left (by simp; omega)]
    refine ⟨xs[k]'(by omega), ?_⟩
    simp [hlt]
    rw [List.getElem?_eq_getElem (by omega)]
    simp
  · rw [List.getElem?_append_right (by simp; omega)]
    obtain ⟨m, hm⟩ : ∃ m, k - n = m + 1 := ⟨k - n - 1, by omega⟩
    refine ⟨xs[n + m]'(by omega), ?_⟩
    simp [Nat.min_eq_left h, hm]
    rw [List.getElem?_eq_getElem (by omega)]
    simp
theorem tl_next {xs : List Int} {n : Nat} {st : Int} (h : n < xs.length) : (tl xs n st).getD (n + 1) 0 = sgn (xs.getD n 0) := by
  unfold tl
  rw [List.getD_eq_getElem?_getD, List.getElem?_append_right (by simp; omega)]
  simp [Nat.min_eq_left (Nat.le_of_lt h)]
  rw [List.getElem?_eq_getElem h]
  simp
theorem zat_1 (l : List UInt8) (k : Nat) : zat l.toArray ((k : Int) + 1) = ((l.getD (k + 1) 0).toNat : Int) := rfl
theorem zat_2 (l : List UInt8) (k : Nat) : zat l.toArray ((k : Int) + 1 + 1) = ((l.getD (k + 2) 0).toNat : Int) := rfl
theorem condT {xs : List Int} {n i : Nat} {st I J : Int} (h : n ≤ xs.length) (hg : ∀ x ∈ xs, 0 ≤ x ∧ x < 2) (s0 : 0 ≤ st) (s1 : st < 3) (i0 : 0 ≤ I) (i1 : I < 3) (j0 : 0 ≤ J) (j1 : J < 2) :
    ((i : Int) + 1 < (tl xs n st).toArray.size ∧ zat (tl xs n st).toArray i = (cap I).toNat ∧ zat (tl xs n st).toArray (i + 1) = (sgn J).toNat) ↔ (i = n ∧ n < xs.length ∧ I = st ∧ J = xs.getD n 0) := by
  rw [List.size_toArray, tl_length h, zat_1, zat_list]
  have hx : ∀ m, m < xs.length → 0 ≤ xs.getD m 0 ∧ xs.getD m 0 < 2 := fun m hm => by
    rw [List.getD_eq_getElem?_getD, List.getElem?_eq_getElem hm]; exact hg _ (List.getElem_mem hm)
  constructor
  · rintro ⟨a, b, c⟩
    by_cases hn : i = n
    · subst hn
      rw [tl_at h] at b
      have hl : i < xs.length := by omega
      rw [tl_next hl] at c
      exact ⟨rfl, hl, cap_inj i0 i1 s0 s1 (by omega), sgn_inj j0 j1 (hx i hl).1 (hx i hl).2 (by omega)⟩
    · obtain ⟨x, e⟩ := tl_ne (st := st) h (k := i) (by omega) hn
      rw [e] at b
      have := sgn_ge x
      have := cap_le I
      omega
  · rintro ⟨rfl, hl, rfl, rfl⟩
    exact ⟨by omega, by rw [tl_at h], by rw [tl_next hl]⟩
theorem condL {xs : List Int} {n i : Nat} {st I J : Int} (h : n ≤ xs.length) (hg : ∀ x ∈ xs, 0 ≤ x ∧ x < 2) (s0 : 0 ≤ st) (s1 : st < 3) (i0 : 0 ≤ I) (i1 : I < 3) (j0 : 0 ≤ J) (j1 : J < 2) :
    ((i : Int) + 2 < (tl xs n st).toArray.size ∧ 97 ≤ zat (tl xs n st).toArray i ∧ zat (tl xs n st).toArray i ≤ 122 ∧ zat (tl xs n st).toArray (i + 1) = (cap I).toNat ∧ zat (tl xs n st).toArray (i + 1 + 1) = (sgn J).toNat) ↔ (i + 1 = n ∧ n < xs.length ∧ I = st ∧ J = xs.getD n 0) := by
  rw [List.size_toArray, tl_length h, zat_1, zat_2, zat_list]
  have hx : ∀ m, m < xs.length → 0 ≤ xs.getD m 0 ∧ xs.getD m 0 < 2 := fun m hm => by
    rw [List.getD_eq_getElem?_getD, List.getElem?_eq_getElem hm]; exact hg _ (List.getElem_mem hm)
  constructor
  · rintro ⟨a, _, _, b, c⟩
    by_cases hn : i + 1 = n
    · subst hn
      rw [tl_at h] at b
      have hl : i + 1 < xs.length := by omega
      rw [tl_next hl] at c
      exact ⟨rfl, hl, cap_inj i0 i1 s0 s1 (by omega), sgn_inj j0 j1 (hx _ hl).1 (hx _ hl).2 (by omega)⟩
    · obtain ⟨x, e⟩ := tl_ne (st := st) h (k := i + 1) (by omega) hn
      rw [e] at b
      have := sgn_ge x
      have := cap_le I
      omega
  · rintro ⟨rfl, hl, rfl, rfl⟩
    obtain ⟨x, e⟩ := tl_ne (st := I) h (k := i) (by omega) (by omega)
    have := sgn_ge x
    exact ⟨by omega, by rw [e]; omega, by rw [e]; omega, by rw [tl_at h], by rw [tl_next hl]⟩
theorem take_snoc {l : List UInt8} {i : Nat} (h : i < l.length) : l.take (i + 1) = l.take i ++ [l.getD i 0] := by
  rw [List.getD_eq_getElem?_getD, List.getElem?_eq_getElem h, List.take_succ, List.getElem?_eq_getElem h]; rfl
theorem zat_u {l : List UInt8} {i : Nat} : (zat l.toArray i).toNat.toUInt8 = l.getD i 0 := by
  rw [zat_list, Int.toNat_natCast]; simp
theorem take_push {l : List UInt8} {i : Nat} (h : i < l.length) : (l.take (i + 1)).toArray = (l.take i).toArray.push (zat l.toArray i).toNat.toUInt8 := by
  rw [take_snoc h, zat_u]; simp
theorem drop_push {l : List UInt8} {i e : Nat} {A : Array UInt8} (h : i < l.length) (he : e ≤ i) : A ++ ((l.take (i + 1)).drop e).toArray = (A ++ ((l.take i).drop e).toArray).push (zat l.toArray i).toNat.toUInt8 := by
  rw [take_snoc h, zat_u, List.drop_append_of_le_length (by rw [List.length_take]; omega)]; simp
end
theorem flush31 {prog : PySem.Program} {w : PySem.World} {A : PySem.Around} {Q : Unit → PySem.Shared → Prop} {E : PySem.Value → PySem.Shared → Prop} {s : PySem.Shared} (h : Q () s) : PySem.wpAny (PySem.model prog w) A (pure ()) Q E s := by
  w_top off
  first | (walk1; fail) | exact PySem.wpAny_pure h
section
section
variable {oc0 : Value} {od0 an0 : Option Addr} {name0 qual0 n1 n1' n2 n2' n3 n3' q1 q2 q3 : Str} {params0 pa1 pa2 pa3 : Arguments} {s1 s4 s5 : Stmt} {b1 b3 : List Stmt} {dl1 dl2 dl3 : List Expr} {r1 r2 r3 : Option Expr} {tp1 tp2 tp3 : List TypeParam}
    {sc1 sc2 sc3 scope0 : Scope} {z1 z2 z3 : Option Scope} {ps1 ps2 ps3 : Pos} {dV0 kV0 doc0 pm0 cdv0 ct0 : Value} {osl0 : Array (Option Value)}
theorem done_no (hlook : (hd.heap_39 w.params).lookup 300 = some ⟨oc0, od0, .func (fnOf name0 qual0 params0 [s1, .FunctionDef n1 pa1 b1 dl1 r1 tp1 sc1 z1 n1' ps1, .FunctionDef n2 pa2 [.FunctionDef n3 pa3 b3 dl3 r3 tp3 sc3 z3 n3' ps3, s5] dl2 r2 tp2 sc2 z2 n2' ps2, s4] scope0 dV0 kV0 doc0 pm0 an0 cdv0 ct0), osl0⟩)
    (hq1 : q1 = (qual0 ++ ".<locals>.") ++ n1) (hq2 : q2 = (qual0 ++ ".<locals>.") ++ n2) (hq3 : q3 = (q2 ++ ".<locals>.") ++ n3)
    {l : List UInt8} {P Nw : Array UInt8} {lft : Bool} {V : Nat → Prop} (ex : Nat → Nat → Array UInt8) (HM : MSpec w p loose mean mg mb l.toArray P lft (fun _ => none)) (hT : l.length ≤ 10) (hP : P.size ≤ 10) (hz : Builtin.Bytes.find? P (List.toArray [0]) 0 P.size = none) (hNw : Nw.size ≤ 1000)
    (hl : (∃ j, j < Nw.size ∧ zat Nw j = 37) → lft = true) (hex0 : ∀ i, V 0 ∧ ex i 0 = #[]) (hexz : ∀ i j, (ex i j).size ≤ 900)
    (hex : ∀ i j (_ : j < Nw.size), V j → (zat Nw j ≠ 37 ∧ V (j + 1) ∧ ex i (j + 1) = (ex i j).push (zat Nw j).toNat.toUInt8) ∨ (zat Nw j = 37 ∧ j + 1 < Nw.size ∧ zat Nw (j + 1) = 49 ∧ V (j + 2) ∧ ex i (j + 2) = ex i j ++ PySem.W.KBy.picked l.toArray (some (i : Int)) (some ((i : Int) + 1)))) :
    DoneIs w p loose mean mg mb ps1 ps2 ps3 q1 q2 q3 l.toArray P Nw l.toArray 0 := by
  intro dp un gd cn csn csg csc csm a ccd cl outer A₀ base h₀ L m s Q pre led tT tP tN C B F X N TT hI hD hdp hun hret
  refine done_c (V := V) hlook hq1 hq2 hq3 (fun _ => True) (fun _ => none) ex (fun i => (l.take i).toArray) (fun _ => 0) HM (by simpa using hT) hP hz hNw hl hex0 (fun i j => Nat.le_trans (hexz i j) (by decide)) hex ⟨trivial, by simp, rfl⟩ ?_ (fun _ => by decide) ?_ ?_ C B F X N TT hI hD hdp hun ?_
  · intro i; simp; omega
  · intro i e _ h; cases h
  · intro i _ _ hi
    exact ⟨trivial, take_push (by simpa using hi), rfl⟩
  · intro t tb tc h' tk' led' F' N' I' D'
    try dsimp only at N'
    rw [show List.take l.toArray.size l = l by simp] at N'
    exact hret t tb tc h' tk' led' F' N' I' D'
theorem done_yes (hlook : (hd.heap_39 w.params).lookup 300 = some ⟨oc0, od0, .func (fnOf name0 qual0 params0 [s1, .FunctionDef n1 pa1 b1 dl1 r1 tp1 sc1 z1 n1' ps1, .FunctionDef n2 pa2 [.FunctionDef n3 pa3 b3 dl3 r3 tp3 sc3 z3 n3' ps3, s5] dl2 r2 tp2 sc2 z2 n2' ps2, s4] scope0 dV0 kV0 doc0 pm0 an0 cdv0 ct0), osl0⟩)
    (hq1 : q1 = (qual0 ++ ".<locals>.") ++ n1) (hq2 : q2 = (qual0 ++ ".<locals>.") ++ n2) (hq3 : q3 = (q2 ++ ".<locals>.") ++ n3)
    {l : List UInt8} {P Nw : Array UInt8} {lft : Bool} {V : Nat → Prop} (ex : Nat → Nat → Array UInt8) (k0 e0 : Nat) (HM : MSpec w p loose mean mg mb l.toArray P lft (fun i => if i = k0 then some e0 else none)) (hT : l.length ≤ 10) (hP : P.size ≤ 10) (hz : Builtin.Bytes.find? P (List.toArray [0]) 0 P.size = none) (hNw : Nw.size ≤ 1000)
    (hl : (∃ j, j < Nw.size ∧ zat Nw j = 37) → lft = true) (hex0 : ∀ i, V 0 ∧ ex i 0 = #[]) (hexz : ∀ i j, (ex i j).size ≤ 900)
    (hex : ∀ i j (_ : j < Nw.size), V j → (zat Nw j ≠ 37 ∧ V (j + 1) ∧ ex i (j + 1) = (ex i j).push (zat Nw j).toNat.toUInt8) ∨ (zat Nw j = 37 ∧ j + 1 < Nw.size ∧ zat Nw (j + 1) = 49 ∧ V (j + 2) ∧ ex i (j + 2) = ex i j ++ PySem.W.KBy.picked l.toArray (some (i : Int)) (some ((i : Int) + 1))))
    (hk : k0 < e0) (he : e0 ≤ l.length) :
    DoneIs w p loose mean mg mb ps1 ps2 ps3 q1 q2 q3 l.toArray P Nw ((l.take k0).toArray ++ ex k0 Nw.size ++ (l.drop e0).toArray) 1 := by
  intro dp un gd cn csn csg csc csm a ccd cl outer A₀ base h₀ L m s Q pre led tT tP tN C B F X N TT hI hD hdp hun hret
  have hsz : l.toArray.size = l.length := by simp
  refine done_c (V := V) hlook hq1 hq2 hq3 (fun i => i ≤ k0 ∨ e0 ≤ i) (fun i => if i = k0 then some e0 else none) ex (fun i => if i ≤ k0 then (l.take i).toArray else (l.take k0).toArray ++ ex k0 Nw.size ++ ((l.take i).drop e0).toArray) (fun i => if i ≤ k0 then 0 else 1) HM (by simpa using hT) hP hz hNw hl hex0
    (fun i j => Nat.le_trans (hexz i j) (by decide)) hex ⟨.inl (Nat.zero_le _), by simp, rfl⟩ ?_ ?_ ?_ ?_ C B F X N TT hI hD hdp hun ?_
  · intro i
    have := hexz k0 Nw.size
    try dsimp only
    split <;> simp <;> omega
  · intro i
    try dsimp only
    split <;> decide
  · intro i e _ h
    try dsimp only at h
    split at h
    · rename_i hik
      subst hik
      cases h
      refine ⟨hk, by omega, .inr (Nat.le_refl _), ?_, ?_⟩
      · rw [if_neg (by omega), if_pos (Nat.le_refl _)]
        simp
      · rw [if_neg (by omega), if_pos (Nat.le_refl _)]
    · cases h
  · intro i hp h hi
    try dsimp only at h hp ⊢
    split at h
    · cases h
    rename_i hik
    by_cases hlt : i < k0
    · refine ⟨.inl (by omega), ?_, ?_⟩
      · rw [if_pos (by omega), if_pos (by omega)]
        exact take_push (by omega)
      · rw [if_pos (by omega), if_pos (by omega)]
    · have hge : e0 ≤ i := by rcases hp with h | h <;> omega
      refine ⟨.inr (by omega), ?_, ?_⟩
      · rw [if_neg (by omega), if_neg (by omega)]
        exact drop_push (by omega) hge
      · rw [if_neg (by omega), if_neg (by omega)]
  · intro t tb tc h' tk' led' F' N' I' D'
    try dsimp only at N'
    rw [if_neg (by omega), if_neg (by omega), show List.take l.toArray.size l = l by simp] at N'
    exact hret t tb tc h' tk' led' F' N' I' D'
end
end
theorem flush32 {prog : PySem.Program} {w : PySem.World} {A : PySem.Around} {Q : Unit → PySem.Shared → Prop} {E : PySem.Value → PySem.Shared → Prop} {s : PySem.Shared} (h : Q () s) : PySem.wpAny (PySem.model prog w) A (pure ()) Q E s := by
  w_top off
  first | (walk1; fail) | exact PySem.wpAny_pure h
section
theorem Signs.mem {xs : List Int} (h : Signs xs) : ∀ x ∈ xs, 0 ≤ x ∧ x < 2 := fun x hx => by
  obtain ⟨i, hi, e⟩ := List.getElem_of_mem hx
  have := h i
  rwa [List.getD_eq_getElem?_getD, List.getElem?_eq_getElem hi, e] at this
theorem turn_R {xs : List Int} {n : Nat} {st a c : Int} (hl : xs.length ≤ 4) (h : n < xs.length) : (tl xs n st).take n ++ [sgn a, cap c] ++ (tl xs n st).drop (n + 2) = tl (xs.set n a) (n + 1) c := by
  rcases xs with _ | ⟨x0, _ | ⟨x1, _ | ⟨x2, _ | ⟨x3, _ | ⟨x4, xr⟩⟩⟩⟩⟩ <;> simp at h hl
  · obtain rfl : n = 0 := by omega
    rfl
  · obtain rfl | rfl : n = 0 ∨ n = 1 := by omega
    all_goals rfl
  · obtain rfl | rfl | rfl : n = 0 ∨ n = 1 ∨ n = 2 := by omega
    all_goals rfl
  · obtain rfl | rfl | rfl | rfl : n = 0 ∨ n = 1 ∨ n = 2 ∨ n = 3 := by omega
    all_goals rfl
theorem turn_L {xs : List Int} {n : Nat} {st a c : Int} (hl : xs.length ≤ 4) (h : n + 1 < xs.length) : (tl xs (n + 1) st).take n ++ [cap c, sgn (xs.getD n 0), sgn a] ++ (tl xs (n + 1) st).drop (n + 3) = tl (xs.set (n + 1) a) n c := by
  rcases xs with _ | ⟨x0, _ | ⟨x1, _ | ⟨x2, _ | ⟨x3, _ | ⟨x4, xr⟩⟩⟩⟩⟩ <;> simp at h hl
  · obtain rfl : n = 0 := by omega
    rfl
  · obtain rfl | rfl : n = 0 ∨ n = 1 := by omega
    all_goals rfl
  · obtain rfl | rfl | rfl : n = 0 ∨ n = 1 ∨ n = 2 := by omega
    all_goals rfl
theorem tl_prev {xs : List Int} {n : Nat} {st : Int} (hl : xs.length ≤ 4) (h : n + 1 < xs.length) : (tl xs (n + 1) st).getD n 0 = sgn (xs.getD n 0) := by
  rcases xs with _ | ⟨x0, _ | ⟨x1, _ | ⟨x2, _ | ⟨x3, _ | ⟨x4, xr⟩⟩⟩⟩⟩ <;> simp at h hl
  · obtain rfl : n = 0 := by omega
    rfl
  · obtain rfl | rfl : n = 0 ∨ n = 1 := by omega
    all_goals rfl
  · obtain rfl | rfl | rfl : n = 0 ∨ n = 1 ∨ n = 2 := by omega
    all_goals rfl
/-- what expanded has found of `S'%1m` -/
def exL (T : Array UInt8) (c a : UInt8) (i : Nat) : Nat → Array UInt8
  | 0 => #[]
  | 1 => #[c]
  | 2 => #[]
  | 3 => #[c] ++ PySem.W.KBy.picked T (some (i : Int)) (some ((i : Int) + 1))
  | _ => (#[c] ++ PySem.W.KBy.picked T (some (i : Int)) (some ((i : Int) + 1))).push a
theorem exL_size {T : Array UInt8} {c a : UInt8} (hT : T.size ≤ 10) (i j : Nat) : (exL T c a i j).size ≤ 900 := by
  have := PySem.W.KBc.size_picked_le T (some (i : Int)) (some ((i : Int) + 1))
  unfold exL
  split <;> simp <;> omega
theorem exL_hex {T : Array UInt8} {a c : Int} (i j : Nat) (hj : j < ([cap c, 37, 49, sgn a].toArray).size) (hV : j ≠ 2) :
    (zat [cap c, 37, 49, sgn a].toArray j ≠ 37 ∧ j + 1 ≠ 2 ∧ exL T (cap c) (sgn a) i (j + 1) = (exL T (cap c) (sgn a) i j).push (zat [cap c, 37, 49, sgn a].toArray j).toNat.toUInt8) ∨
    (zat [cap c, 37, 49, sgn a].toArray j = 37 ∧ j + 1 < ([cap c, 37, 49, sgn a].toArray).size ∧ zat [cap c, 37, 49, sgn a].toArray (j + 1) = 49 ∧ j + 2 ≠ 2 ∧ exL T (cap c) (sgn a) i (j + 2) = exL T (cap c) (sgn a) i j ++ PySem.W.KBy.picked T (some (i : Int)) (some ((i : Int) + 1))) := by
  have h1 := cap_le c
  have h2 := sgn_ge a
  simp at hj
  match j, hj, hV with
  | 0, _, _ =>
    refine .inl ⟨?_, by decide, ?_⟩
    · show ((cap c).toNat : Int) ≠ 37; omega
    · rw [zat_u]; rfl
  | 1, _, _ => exact .inr ⟨rfl, by simp, rfl, by decide, rfl⟩
  | 3, _, _ =>
    refine .inl ⟨?_, by decide, ?_⟩
    · show ((sgn a).toNat : Int) ≠ 37; omega
    · rw [zat_u]; rfl
theorem exR_hex {T : Array UInt8} {a c : Int} (i j : Nat) (hj : j < ([sgn a, cap c].toArray).size) :
    (zat [sgn a, cap c].toArray j ≠ 37 ∧ True ∧ (([sgn a, cap c].take (j + 1)).toArray = ([sgn a, cap c].take j).toArray.push (zat [sgn a, cap c].toArray j).toNat.toUInt8)) ∨
    (zat [sgn a, cap c].toArray j = 37 ∧ j + 1 < ([sgn a, cap c].toArray).size ∧ zat [sgn a, cap c].toArray (j + 1) = 49 ∧ True ∧ ([sgn a, cap c].take (j + 2)).toArray = ([sgn a, cap c].take j).toArray ++ PySem.W.KBy.picked T (some (i : Int)) (some ((i : Int) + 1))) := by
  have h1 := cap_le c
  have h2 := sgn_ge a
  refine .inl ⟨?_, trivial, take_push (by simpa using hj)⟩
  simp at hj
  match j, hj with
  | 0, _ => show ((sgn a).toNat : Int) ≠ 37; omega
  | 1, _ => show ((cap c).toNat : Int) ≠ 37; omega
theorem exR_size {a c : Int} (i j : Nat) : ((fun (_ j : Nat) => ([sgn a, cap c].take j).toArray) i j).size ≤ 900 := by
  show ([sgn a, cap c].take j).toArray.size ≤ 900
  rw [List.size_toArray, List.length_take]
  exact Nat.le_trans (Nat.min_le_right _ _) (Nat.le_of_ble_eq_true rfl)
theorem no37 {a c : Int} : (∃ j, j < ([sgn a, cap c].toArray).size ∧ zat [sgn a, cap c].toArray j = 37) → false = true := by
  have h1 := cap_le c
  have h2 := sgn_ge a
  rintro ⟨j, hj, h⟩
  simp at hj
  match j, hj, h with
  | 0, _, h => have h : ((sgn a).toNat : Int) = 37 := h; omega
  | 1, _, h => have h : ((cap c).toNat : Int) = 37 := h; omega
section
variable {oc0 : Value} {od0 an0 : Option Addr} {name0 qual0 n1 n1' n2 n2' n3 n3' q1 q2 q3 : Str} {params0 pa1 pa2 pa3 : Arguments} {s1 s4 s5 : Stmt} {b1 b3 : List Stmt} {dl1 dl2 dl3 : List Expr} {r1 r2 r3 : Option Expr} {tp1 tp2 tp3 : List TypeParam}
    {sc1 sc2 sc3 scope0 : Scope} {z1 z2 z3 : Option Scope} {ps1 ps2 ps3 : Pos} {dV0 kV0 doc0 pm0 cdv0 ct0 : Value} {osl0 : Array (Option Value)}
theorem plain_no (hlook : (hd.heap_39 w.params).lookup 300 = some ⟨oc0, od0, .func (fnOf name0 qual0 params0 [s1, .FunctionDef n1 pa1 b1 dl1 r1 tp1 sc1 z1 n1' ps1, .FunctionDef n2 pa2 [.FunctionDef n3 pa3 b3 dl3 r3 tp3 sc3 z3 n3' ps3, s5] dl2 r2 tp2 sc2 z2 n2' ps2, s4] scope0 dV0 kV0 doc0 pm0 an0 cdv0 ct0), osl0⟩)
    (hq1 : q1 = (qual0 ++ ".<locals>.") ++ n1) (hq2 : q2 = (qual0 ++ ".<locals>.") ++ n2) (hq3 : q3 = (q2 ++ ".<locals>.") ++ n3) : PlainNo w p loose mean mg mb ps1 ps2 ps3 q1 q2 q3 := by
  intro xs pl st i j a b c hx1 hx2 hsg hp0 hp1 hs0 hs1 hi hj ha0 ha1 hb0 hb1 hc0 hc1 hno
  have hg := hsg.mem
  have hn : pl.toNat ≤ xs.length := by omega
  rw [shown_tl hg hp0 hp1 hs0 hs1]
  have hlen : (tl xs pl.toNat st).length ≤ 10 := by rw [tl_length hn]; omega
  have hT : (tl xs pl.toNat st).toArray.size ≤ 10 := by rw [List.size_toArray]; exact hlen
  have k1 := cap_le i
  have k2 := sgn_ge j
  obtain rfl | rfl : b = 0 ∨ b = 1 := by omega
  · rw [pat_L (by omega) (by omega) (by omega) (by omega), new_L ha0 ha1 hc0 hc1]
    refine done_no hlook hq1 hq2 hq3 (V := fun j => j ≠ 2) (lft := true) (exL (tl xs pl.toNat st).toArray (cap c) (sgn a)) ?_ hlen (by simp) find_L (by simp) (fun _ => rfl) (fun _ => ⟨by decide, rfl⟩) (exL_size hT) exL_hex
    refine mspec_L (by rfl) rfl rfl rfl rfl ?_ ?_ ?_ ?_ hT _ fun k => (if_neg fun hc => ?_).symm
    · show (65 : Int) ≤ (cap i).toNat; omega
    · show ((cap i).toNat : Int) ≤ 67; omega
    · show (97 : Int) ≤ (sgn j).toNat; omega
    · show ((sgn j).toNat : Int) ≤ 122; omega
    · obtain ⟨e1, e2, e3, e4⟩ := (condL (I := i) (J := j) hn hg hs0 hs1 (by omega) (by omega) (by omega) (by omega)).mp hc
      exact hno ⟨by omega, e3, e4, fun h => by omega⟩
  · rw [pat_R (by omega) (by omega) (by omega) (by omega), new_R ha0 ha1 hc0 hc1]
    refine done_no hlook hq1 hq2 hq3 (V := fun _ => True) (lft := false) (fun _ j => ([sgn a, cap c].take j).toArray) ?_ hlen (by simp) find_R (by simp) no37 (fun _ => ⟨trivial, rfl⟩) exR_size (fun i j hj _ => exR_hex i j hj)
    refine mspec_T (by rfl) ?_ ?_ ?_ ?_ hT _ fun k => (if_neg fun hc => ?_).symm
    · show (65 : Int) ≤ (cap i).toNat; omega
    · show ((cap i).toNat : Int) ≤ 67; omega
    · show (97 : Int) ≤ (sgn j).toNat; omega
    · show ((sgn j).toNat : Int) ≤ 122; omega
    · obtain ⟨e1, e2, e3, e4⟩ := (condT (I := i) (J := j) hn hg hs0 hs1 (by omega) (by omega) (by omega) (by omega)).mp hc
      exact hno ⟨by omega, e3, e4, fun h => by omega⟩
theorem plain_yes (hlook : (hd.heap_39 w.params).lookup 300 = some ⟨oc0, od0, .func (fnOf name0 qual0 params0 [s1, .FunctionDef n1 pa1 b1 dl1 r1 tp1 sc1 z1 n1' ps1, .FunctionDef n2 pa2 [.FunctionDef n3 pa3 b3 dl3 r3 tp3 sc3 z3 n3' ps3, s5] dl2 r2 tp2 sc2 z2 n2' ps2, s4] scope0 dV0 kV0 doc0 pm0 an0 cdv0 ct0), osl0⟩)
    (hq1 : q1 = (qual0 ++ ".<locals>.") ++ n1) (hq2 : q2 = (qual0 ++ ".<locals>.") ++ n2) (hq3 : q3 = (q2 ++ ".<locals>.") ++ n3) : PlainYes w p loose mean mg mb ps1 ps2 ps3 q1 q2 q3 := by
  intro xs pl st i j a b c hx1 hx2 hsg hp0 hp1 hs0 hs1 ha0 ha1 hb0 hb1 hc0 hc1 hi hj hnb
  have hg := hsg.mem
  have hg2 : ∀ x ∈ xs.set pl.toNat a, 0 ≤ x ∧ x < 2 := (Signs.set hsg ha0 ha1 _).mem
  have hgj := hsg pl.toNat
  have hn : pl.toNat ≤ xs.length := by omega
  have hlen : (tl xs pl.toNat st).length ≤ 10 := by rw [tl_length hn]; omega
  have hT : (tl xs pl.toNat st).toArray.size ≤ 10 := by rw [List.size_toArray]; exact hlen
  have k1 := cap_le i
  have k2 := sgn_ge j
  rw [shown_tl hg hp0 (by omega) hs0 hs1, shown_tl hg2 (by omega) (by rw [List.length_set]; omega) hc0 hc1]
  obtain rfl | rfl : b = 0 ∨ b = 1 := by omega
  · obtain ⟨n, hpn⟩ : ∃ n : Nat, pl = (n : Int) + 1 := ⟨pl.toNat - 1, by omega⟩
    have hpt : pl.toNat = n + 1 := by omega
    rw [hpt] at hn hlen hT hj hgj ⊢
    rw [pat_L (by omega) (by omega) (by omega) (by omega), new_L ha0 ha1 hc0 hc1, show (pl + 2 * 0 - 1).toNat = n by omega, ← turn_L (st := st) hx2 (by omega)]
    have hpk : PySem.W.KBy.picked (tl xs (n + 1) st).toArray (some (n : Int)) (some ((n : Int) + 1)) = [sgn (xs.getD n 0)].toArray := by
      have hs : (tl xs (n + 1) st).toArray.size = xs.length + 1 := by rw [List.size_toArray, tl_length hn]
      rw [PySem.W.KBc.picked_eq, ← tl_prev (st := st) hx2 (by omega)]
      simp only [Option.elim, hs]
      rw [PyProof.Rows.clipAt_in (by omega) (by omega), PyProof.Rows.clipAt_in (by omega) (by omega), show ((n : Int) + 1).toNat - (n : Int).toNat = 1 by omega, Int.toNat_natCast]
      have hl : n < (tl xs (n + 1) st).length := by rw [tl_length hn]; omega
      rw [List.drop_eq_getElem_cons hl, List.getD_eq_getElem?_getD, List.getElem?_eq_getElem hl]
      rfl
    have HM : MSpec w p loose mean mg mb (tl xs (n + 1) st).toArray [40, 37, 108, 41, cap i, sgn j].toArray true (fun k => if k = n then some (n + 3) else none) := by
      refine mspec_L (T := (tl xs (n + 1) st).toArray) (P := [40, 37, 108, 41, cap i, sgn j].toArray) (by rfl) rfl rfl rfl rfl ?_ ?_ ?_ ?_ hT (fun k => if k = n then some (n + 3) else none) ?_
      · show (65 : Int) ≤ (cap i).toNat; omega
      · show ((cap i).toNat : Int) ≤ 67; omega
      · show (97 : Int) ≤ (sgn j).toNat; omega
      · show ((sgn j).toNat : Int) ≤ 122; omega
      · intro k
        have hc := condL (i := k) (I := i) (J := j) hn hg hs0 hs1 (by omega) (by omega) (by omega) (by omega)
        by_cases hk : k = n
        · subst hk
          rw [if_pos rfl]
          exact (if_pos (hc.mpr ⟨rfl, by omega, hi, hj⟩)).symm
        · rw [if_neg hk]
          exact (if_neg fun h => hk (by have := (hc.mp h).1; omega)).symm
    have key := done_yes (p := p) (loose := loose) (mean := mean) (mg := mg) (mb := mb) hlook hq1 hq2 hq3 (l := tl xs (n + 1) st) (P := [40, 37, 108, 41, cap i, sgn j].toArray) (Nw := [cap c, 37, 49, sgn a].toArray) (V := fun j => j ≠ 2) (lft := true) (exL (tl xs (n + 1) st).toArray (cap c) (sgn a)) n (n + 3) HM hlen (by simp) find_L (by simp) (fun _ => rfl) (fun _ => ⟨by decide, rfl⟩) (exL_size hT) exL_hex (by omega) (by rw [tl_length hn]; omega)
    have e : exL (tl xs (n + 1) st).toArray (cap c) (sgn a) n ([cap c, 37, 49, sgn a].toArray).size = [cap c, sgn (xs.getD n 0), sgn a].toArray := by
      show (#[cap c] ++ PySem.W.KBy.picked _ _ _).push (sgn a) = _
      rw [hpk]; rfl
    rw [e] at key
    simpa using key
  · obtain ⟨n, hpn⟩ : ∃ n : Nat, pl = (n : Int) := ⟨pl.toNat, by omega⟩
    have hpt : pl.toNat = n := by omega
    rw [hpt] at hn hlen hT hj hgj ⊢
    rw [pat_R (by omega) (by omega) (by omega) (by omega), new_R ha0 ha1 hc0 hc1, show (pl + 2 * 1 - 1).toNat = n + 1 by omega, ← turn_R (st := st) hx2 (by omega)]
    have HM : MSpec w p loose mean mg mb (tl xs n st).toArray [cap i, sgn j].toArray false (fun k => if k = n then some (n + 2) else none) := by
      refine mspec_T (T := (tl xs n st).toArray) (P := [cap i, sgn j].toArray) (by rfl) ?_ ?_ ?_ ?_ hT (fun k => if k = n then some (n + 2) else none) ?_
      · show (65 : Int) ≤ (cap i).toNat; omega
      · show ((cap i).toNat : Int) ≤ 67; omega
      · show (97 : Int) ≤ (sgn j).toNat; omega
      · show ((sgn j).toNat : Int) ≤ 122; omega
      · intro k
        have hc := condT (i := k) (I := i) (J := j) hn hg hs0 hs1 (by omega) (by omega) (by omega) (by omega)
        by_cases hk : k = n
        · subst hk
          rw [if_pos rfl]
          exact (if_pos (hc.mpr ⟨rfl, by omega, hi, hj⟩)).symm
        · rw [if_neg hk]
          exact (if_neg fun h => hk (hc.mp h).1).symm
    have key := done_yes (p := p) (loose := loose) (mean := mean) (mg := mg) (mb := mb) hlook hq1 hq2 hq3 (l := tl xs n st) (P := [cap i, sgn j].toArray) (Nw := [sgn a, cap c].toArray) (V := fun _ => True) (lft := false) (fun _ j => ([sgn a, cap c].take j).toArray) n (n + 2) HM hlen (by simp) find_R (by simp) no37 (fun _ => ⟨trivial, rfl⟩) exR_size (fun i j hj _ => exR_hex i j hj) (by omega) (by rw [tl_length hn]; omega)
    simpa using key
end
end
theorem flush33 {prog : PySem.Program} {w : PySem.World} {A : PySem.Around} {Q : Unit → PySem.Shared → Prop} {E : PySem.Value → PySem.Shared → Prop} {s : PySem.Shared} (h : Q () s) : PySem.wpAny (PySem.model prog w) A (pure ()) Q E s := by
  w_top off
  first | (walk1; fail) | exact PySem.wpAny_pure h
section
theorem imp_of_any (prog : Program) (w : World) {R R' : Result → Shared → Prop} (h : ∀ {M : Model} {A : Around} {cd : Code} {s : Shared}, codeAny M A cd R s → codeAny M A cd R' s) (f : Flow) (s : Shared) (x : R (.ok f) s) : R' (.ok f) s := by
  let M : Model := ⟨fun _ => pure (.done f), prog, w⟩
  let A : Around := { handled := none, depth := 0, frames := none, guards := none, units := 0 }
  have e : ∀ {T : Result → Shared → Prop} (Γ : Ctx) (p : Pos), wpCode M Γ T p s ↔ T (.ok f) s := fun Γ p => by
    rw [wpCode_iff_wp]; exact Iff.rfl
  have h1 : codeAny M A (.builtin "x" ⟨[], []⟩) R s := fun Γ p _ _ => (e Γ p).mpr x
  exact (e _ default).mp (h h1 ⟨.builtin "x" ⟨[], []⟩, none, none, [], none⟩ default rfl ⟨rfl, Nat.zero_le _, fun l hl => (by cases hl), fun l hl => (by cases hl), Nat.zero_le _⟩)
section
variable {prog : Program} {A : Around} {R : Flow → Shared → Prop} {name : Str} {params : Arguments} {body : List Stmt} {scope : Scope} {dV kV pm cd doc : Value} {o : Obj} {args : Args} {binds : List (Str × Value)}
theorem callC_cells (hroom : A.depth < recursionLimit) (ho : s.heap.get? a = some o) (hdata : o.data = .func (docDef name params body scope pm cd doc)) (hlim : s.heap.NoLimit) (hcd : s.heap.CodeRec cd name)
    (hbind : BindsTo s (docDef name params body scope pm cd doc) args binds) (hkind : (binds.all fun y => scope.names.lookup y.1 == some .local || scope.names.lookup y.1 == some .cell) = true)
    (hnd : ((cellsFrom 0 scope.names []).map (·.1)).Nodup)
    (h : ∀ h₁ tk cells, Fr s.heap s.heap.objs.size h₁ (bindL (envOfC name scope s.heap.objs.size a cd).kindOf binds fun _ => none) → News s.heap s.heap.objs.size h₁ cells →
      CellsAre (bindC (envOfC name scope s.heap.objs.size a cd).kindOf binds fun _ => none) (cellsFrom (s.heap.objs.size + 1) scope.names []) cells →
      wpC (model prog w) (A.deeper (envOfC name scope s.heap.objs.size a cd)) (execs body (envOfC name scope s.heap.objs.size a cd)) (fun f s' => R (.ret (match f with | .ret v => v | _ => .none)) s') { s with heap := h₁, toks := tk })
    (hco : scope.isCoroutine = false := by rfl) (hgen : scope.isGenerator = false := by rfl) (hk : scope.kind = .function := by rfl) : codeC (model prog w) A (.call (.ref a) args) R s := by
  refine codeC_function hroom ho hdata hco hgen rfl hcd (hbind _ _ _ _ ?_)
  refine wpAny_newFunctionEnv_cells hk (kindsX hkind _) fun env' he s' x => ?_
  subst he
  refine ⟨hlim.keeps x.toInCall.keep, codeC_func ?_⟩
  obtain ⟨h₁, tk, rfl, _⟩ := x.done
  obtain ⟨cells, NC, Y⟩ := Cl.news (h₀ := s.heap) (Nat.le_refl _) fun n c hm => ⟨x.cell n c (lookup_of_mem_nodup (cellsFrom_names scope.names 0 (s.heap.objs.size + 1) [] [] rfl ▸ hnd) hm), x.above n c hm⟩
  exact h h₁ tk cells ⟨x.toInCall.ns, x.toInCall.keep, Nat.le_refl _⟩ NC Y
end
theorem enterC {prog : Program} {A : Around} {f : Value} {pos : List Value} {kw : List (Str × Value)} {s s₁ : Shared} {cw : ClaimW} {cl : Str → Option Addr} {mean : ExcName → Option Value} {args : List WData} {tabs : List (Addr × Addr)} (hT : TabsAt tabs s₁.heap) (hr : ∀ a x, cw.raises a x = false)
    (h : codeC (model prog w) A (.call f ⟨pos, kw⟩) (fun f s' => ∃ v, f = .ret v ∧ GoodW cw cl mean args { s₁ with heap := ghostOf s₁.heap tabs } (.ok (.ret v)) s' ∧ GrownAll tabs s'.heap) s) :
    wpC (model prog w) A (call f pos kw) (fun v s' => GoodWG cw cl mean args s₁ (.ok (.ret v)) s') s :=
  wpC_call (codeC_mono h fun f s' hf => by
    obtain ⟨v, rfl, hv⟩ := hf
    exact imp_of_any prog w (fun hx => kn_post hT hr hx) _ _ hv)
theorem ct_mem {P0 : Nat} {ps1 ps2 ps3 : Pos} {q1 q2 q3 : Str} {led : List (Addr × Obj)} (h : CT P0 ps1 ps2 ps3 q1 q2 q3 led) : ∃ ps, (P0, tabObj ps) ∈ led := by
  rcases h with rfl | ⟨_, _, _, _, _, _, _, rfl, _⟩
  · exact ⟨_, .head _⟩
  · exact ⟨_, .head _⟩
theorem law_walk : PySem.Challenge.rw_tk0057_01.Holds := by
  w_on
  refine holds_law law_said fun said => ?_
  refine holdsC (q := hd.view_39) (loose := [Str.ofString "expanded"]) (Xt := fun s => xlAt hd.view_39 [] s && recOk (RowW.records PySem.Challenge.rw_tk0057_01.row.toRowW) s) (XP := XL hd.view_39 []) (Yf := Hook.obs hd.hook) (Ya := Hook.val hd.hook) (YP := Hook.says hd.hook) (N := 4078) hd.left (Hook.of hd.hook) (Hook.keeps hd.hook) (fun s e => xl_of s (Bool.and_eq_true_iff.mp e).1) XL.keeps (by rfl) (by rfl) (by rfl) (fun s e => recFacts_of (Bool.and_eq_true_iff.mp e).2) (by rfl) (by first | assumption | decide +kernel) (by decide +kernel) ⟨rfl, rfl, rfl, rfl, rfl, by decide +kernel⟩ ?hw ?hc
  case hw => w_witness2
  have hz := hd.addrs_eq
  revert hz
  k_fill
  intro hz
  clear hz
  intro w s₀ s₁ mg mb G Y fa o pm cd doc dV kV ho hd' hcd hD hmg hg args vals as hpre hlay hrd hwl hlo
  have KX := km_in_of Y
  km_tabs Y
  have X := (Ground.X G).1
  have V := (Ground.X G).2
  refine Ground.open G ?_
  intro T B D TE TW
  try (refine guard_noD D (by decide +kernel) ?_; clear D)
  km_lay T hmg ho hd' cd
  clear hmg
  wrow_args hpre hlay hrd hwl hlo
  (with_reducible rename Heap.IsList _ _ _ => hL)
  have hdec : ∀ (a : List WData) x, PySem.Challenge.rw_tk0057_01.row.claim.raises a x = false := fun _ _ => rfl
  refine enterC hT9 hdec ?_
  have he := Dflts.none hD rfl
  subst he
  have he := Dflts.noKw hD
  subst he
  refine callC_cells (by decide) ho (fd_plain hd') (Top.nolimit T) hcd (BindsTo.of_eq rfl) (by rfl) (by decide) fun h₁ tk₁ cells F N0 X0 => ?_
  obtain ⟨oc, he, dc⟩ := CellsAre.one X0
  subst he
  clear hd'
  kn_ghosts F T
  (with_reducible rename CodeHd _ _ _ => C)
  (with_reducible rename Below _ _ _ _ => K9)
  (with_reducible rename Frag.In _ _ => X9)
  (with_reducible rename Top _ _ _ _ _ _ => T9)
  (with_reducible rename News _ _ _ _ => N9)
  (with_reducible rename Fr _ _ _ _ => F9)
  (with_reducible rename IntsAre _ _ => hI)
  have hl3 := (show (hd.heap_39 w.params).lookup 300 = some _ by k_is)
  have hL2 := ghost_list hT9 hL
  k_dflt (refine body_c (show (hd.heap_39 w.params).lookup 331 = some _ by k_is) C K9 X9 T9 (Fr.eqv F9 (fun y => ?_)) N9 dc ?_ hL2 hI ?_ (plain_no hl3 rfl rfl rfl) (plain_yes hl3 rfl rfl rfl) ?_ ?_ ?_)
  · by_cases hy : y = Str.ofString "script"
    · subst hy; rfl
    · unfold lawM
      simp only [hy, if_false, ite_self]
      show (if y = Str.ofString "script" then _ else none) = none
      rw [if_neg hy]
  · omega
  · omega
  · show 301 + 1 + 660 < 1000; decide
  · decide
  · intro m' led' fx h' tk' F' N' I'
    refine ⟨.bool true, rfl, goodW_bool F' hg (hdec _) ?_, ?_, trivial⟩
    · wrow_post
    · obtain ⟨ps, hm⟩ := ct_mem I'
      exact GrownAt.of N' (List.mem_append_left _ hm)
end
end
end Mine
end
set_option maxRecDepth 100000 in
set_option maxHeartbeats 8000000 in
theorem PySem.Challenge.cw_tk0057_01_holds : PySem.Challenge.rw_tk0057_01.Holds := by
  exact Mine.law_walk

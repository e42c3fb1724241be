import PyProof.Rows.All
import Wide.All
import OpenK.AllK
import Wide.FinOn
import PySem.Challenge.RW_xw0346_01
set_option Elab.async false
section
open PySem PySem.W PyProof.Rows
set_option maxRecDepth 100000
namespace Mine
/-- no decoder that may hold a bytearray -/
def okCode : PySem.Code → Bool
  | .builtin id _ => !((["bytearray.__contains__", "bytearray.__mod__", "bytearray.__rmod__", "_struct.pack_into.held", "bytearray.find.held"] ++ PySem.Builtin.Bytes.decodersThatHold).contains id)
  | _ => true
/-- nothing of the stack is such a decoder -/
def Clean (l : List (PySem.Code × PySem.Pos)) : Prop := ∀ x ∈ l, okCode x.1 = true
theorem Clean.nil : Clean [] := fun _ h => nomatch h
theorem Clean.cons {c : PySem.Code} {p : PySem.Pos} {l : List (PySem.Code × PySem.Pos)} (h : okCode c = true) (hl : Clean l) : Clean ((c, p) :: l) := fun x hx => by
  rcases List.mem_cons.mp hx with rfl | hx
  · exact h
  · exact hl x hx
/-- as wpAny, over the clean contexts alone -/
def wpN {α : Type} (M : PySem.Model) (A : PySem.Around) (t : PySem.Sem α) (Q : α → PySem.Shared → Prop) (E : Value → PySem.Shared → Prop) (s : PySem.Shared) : Prop :=
  ∀ (Γ : PySem.Ctx) (p : PySem.Pos), Γ.In A → okCode Γ.code = true → Clean Γ.below → PySem.Sem.wp M Γ t (fun a _ s' => Q a s') (fun e _ s' => E e s') p s
def codeN (M : PySem.Model) (A : PySem.Around) (c : PySem.Code) (R : PySem.Result → PySem.Shared → Prop) (s : PySem.Shared) : Prop :=
  ∀ (Γ : PySem.Ctx) (p : PySem.Pos), Γ.code = c → Γ.Below A → Clean Γ.below → PySem.wpCode M Γ R p s
section
variable {α β : Type} {M : PySem.Model} {A : PySem.Around} {E : Value → PySem.Shared → Prop} {s : PySem.Shared}
theorem wpN_of {t : PySem.Sem α} {Q : α → PySem.Shared → Prop} (h : PySem.wpAny M A t Q E s) : wpN M A t Q E s := fun Γ p hΓ _ _ => h Γ p hΓ
theorem wpN_pure {a : α} {Q : α → PySem.Shared → Prop} (h : Q a s) : wpN M A (pure a) Q E s := fun _ _ _ _ _ => h
theorem wpN_bind {m : PySem.Sem α} {f : α → PySem.Sem β} {Q : β → PySem.Shared → Prop} (h : wpN M A m (fun a s' => wpN M A (f a) Q E s') E s) : wpN M A (m >>= f) Q E s :=
  fun Γ p hΓ h1 h2 => by
    rw [PySem.Sem.wp_bind']
    exact PySem.Sem.wp_mono M Γ m (fun a p' s' h' => h' Γ p' hΓ h1 h2) (fun _ _ _ h' => h') p s (h Γ p hΓ h1 h2)
theorem wpN_mono {t : PySem.Sem α} {Q Q' : α → PySem.Shared → Prop} {E' : Value → PySem.Shared → Prop} (h : wpN M A t Q E s) (hQ : ∀ a s, Q a s → Q' a s) (hE : ∀ e s, E e s → E' e s) : wpN M A t Q' E' s :=
  fun Γ p hΓ h1 h2 => PySem.Sem.wp_mono M Γ t (fun a _ s => hQ a s) (fun e _ s => hE e s) p s (h Γ p hΓ h1 h2)
theorem wpN_holding {vs : List Value} {m : PySem.Sem α} {Q : α → PySem.Shared → Prop} (h : wpN M A m Q E s) : wpN M A (PySem.holding vs m) Q E s :=
  fun Γ p hΓ h1 h2 => by rw [PySem.Sem.wp_holding]; exact h Γ p hΓ h1 h2
theorem wpN_onRaise {m : PySem.Sem α} {k : Value → PySem.Sem Unit} {Q : α → PySem.Shared → Prop} (h : wpN M A m Q (fun e s' => wpN M A (k e) (fun _ s'' => E e s'') E s') s) : wpN M A (m.onRaise k) Q E s := fun Γ p hΓ h1 h2 => by
  rw [PySem.Sem.wp_onRaise]
  exact PySem.Sem.wp_mono M Γ m (fun _ _ _ h' => h') (fun e p' s' h' => h' Γ p' hΓ h1 h2) p s (h Γ p hΓ h1 h2)
theorem codeN_of {c : PySem.Code} {R : PySem.Result → PySem.Shared → Prop} (h : PySem.codeAny M A c R s) : codeN M A c R s := fun Γ p hc hΓ _ => h Γ p hc hΓ
theorem codeN_mono {c : PySem.Code} {R R' : PySem.Result → PySem.Shared → Prop} (h : codeN M A c R s) (hR : ∀ r s, R r s → R' r s) : codeN M A c R' s := fun Γ p hc hΓ h2 => PySem.wpCode_mono hR (h Γ p hc hΓ h2)
theorem wpN_call {f : Value} {pos : List Value} {kw : List (PySem.Str × Value)} {Q : Value → PySem.Shared → Prop}
    (hc : codeN M A (.call f ⟨pos, kw⟩) (fun r s' => match r with | .ok (.ret v) => Q v s' | .ok _ => False | .error e => E e s') s) : wpN M A (PySem.call f pos kw) Q E s := fun Γ p hΓ h1 h2 => by
  unfold PySem.call
  rw [PySem.Sem.wp_runValue]
  exact hc _ p rfl (hΓ.enter _ none p (by intro x; cases x)) (Clean.cons h1 h2)
theorem codeN_of_tree {c : PySem.Code} {R : PySem.Result → PySem.Shared → Prop} (ok : okCode c = true)
    (h : wpN M (A.under c) (M.den c) (fun fin s' => match fin with | .done f => R (.ok f) s' | .again c' => c'.quiet = true ∧ codeN M A c' R s') (fun e s' => R (.error e) s') s) : codeN M A c R s := fun Γ p hc hΓ h2 => by
  rw [PySem.wpCode_iff_wp, hc]
  refine PySem.Sem.wp_mono M Γ _ (fun fin p' s' h' => ?_) (fun _ _ _ h' => h') p s (h Γ p (hc ▸ hΓ.in) (by rw [hc]; exact ok) h2)
  cases fin with
  | done f => exact h'
  | again c' => exact ⟨h'.1, h'.2 (Γ.goto c') p' rfl (hΓ.goto c') h2⟩
theorem wpN_execs_cons {env : PySem.Env} {st : PySem.Stmt} {rest : List PySem.Stmt} {Q : PySem.Flow → PySem.Shared → Prop}
    (h : wpN M A (PySem.exec st env) (fun f s' => match f with | .next => wpN M A (PySem.execs rest env) Q E s' | f => Q f s') E s) : wpN M A (PySem.execs (st :: rest) env) Q E s := fun Γ p hΓ h1 h2 => by
  rw [PySem.execs_cons, PySem.Sem.wp_bind']
  refine PySem.Sem.wp_mono M Γ _ (fun f p' s' h' => ?_) (fun _ _ _ h' => h') _ _ (h Γ p hΓ h1 h2)
  cases f <;> first | exact h' Γ p' hΓ h1 h2 | exact h'
end
section
variable {prog : PySem.Program} {w : World} {A : PySem.Around} {E : Value → PySem.Shared → Prop} {s : PySem.Shared} {R : PySem.Result → PySem.Shared → Prop}
theorem codeN_builtin {id : String} {args : PySem.Args} {b : PySem.Builtin} (ok : okCode (.builtin id args) = true) (hb : PySem.entryFor PySem.table id = some b)
    (h : wpN (PySem.model prog w) (A.under (.builtin id args)) (b args)
      (fun fin s' => match fin with | .done f => R (.ok f) s' | .again c' => c'.quiet = true ∧ codeN (PySem.model prog w) A c' R s') (fun e s' => R (.error e) s') s) :
    codeN (PySem.model prog w) A (.builtin id args) R s := by
  refine codeN_of_tree ok ?_
  show wpN _ _ (match PySem.entryFor PySem.table id with | some b => b args | none => PySem.unsupported ((PySem.withoutEnding? id "#data").getD id)) _ _ s
  rw [hb]; exact h
end
end Mine
end
section
open PySem PySem.W PyProof.Rows
set_option maxRecDepth 100000
namespace Mine
namespace BA
theorem mro : PySem.mroOf (.type "bytearray") = pure [.type "bytearray", .type "object"] := by rw [PySem.mroOf_type]; kernel_rfl
theorem lookup_new : PySem.typeLookup (.type "bytearray") "__new__" = pure (some (.builtin "bytearray.__new__")) := by rw [PySem.typeLookup_type, PySem.builtinLookup_eq_fast]; kernel_rfl
theorem slot_init : PySem.Slot "bytearray" "__init__" "bytearray.__init__" :=
  .of (owner := "bytearray") (n := "__init__") (by rw [PySem.typeLookup_type, PySem.builtinLookup_eq_fast]; kernel_rfl) (by decide +kernel) (by decide +kernel) (by decide +kernel)
    (by first | exact .inl (by decide +kernel) | exact .inr (by decide +kernel)) (by rw [PySem.isSubtype_type]; kernel_rfl)
theorem called : PySem.TypeCalled "bytearray" "bytearray.__new__" "bytearray.__init__" :=
  ⟨by decide +kernel, by decide +kernel, ⟨_, _, mro⟩, PySem.madeBy_type mro lookup_new (by decide +kernel), by decide +kernel, by rw [PySem.isSubtype_type]; kernel_rfl, slot_init⟩
theorem typeCall : PySem.checkTypeCall "bytearray" ⟨[], []⟩ = pure () := by kernel_rfl
theorem newCall : PySem.checkBuiltinCall "bytearray.__new__" ⟨[.type "bytearray"], []⟩ = pure () := by kernel_rfl
theorem plain : PySem.plainId "bytearray.__new__" = true := by decide +kernel
theorem entry_new : PySem.entryFor PySem.table "bytearray.__new__" = some PySem.Builtin.«list.__new__» :=
  PySem.entryFor_alias (id' := "list.__new__") (by kernel_rfl) (by first | rfl | decide +kernel) (by decide +kernel) (by kernel_rfl)
theorem entry_init : PySem.entryFor PySem.table "bytearray.__init__" = some PySem.Builtin.«bytearray.__init__» := by first | exact PySem.entryFor_of_tree (by kernel_rfl) | exact PySem.entryFor_of_fast (by kernel_rfl)
theorem plain_init : PySem.plainId "bytearray.__init__" = true := by decide +kernel
theorem owner : ("bytearray.__new__".splitOn ".__new__").headD "" = "bytearray" := by rw [PySem.W.split_bytearray]; rfl
theorem sub : PySem.isSubtype (.type "bytearray") (.type "bytearray") = pure true := by rw [PySem.isSubtype_type]; kernel_rfl
theorem args_init (v : Value) : PySem.argsOk "bytearray.__init__" ⟨[v], []⟩ := by unfold PySem.argsOk; kernel_rfl
theorem release : PySem.typeLookup (.type "bytearray") "__release_buffer__" = pure (some (.builtin "bytearray.__release_buffer__")) := by rw [PySem.typeLookup_type, PySem.builtinLookup_eq_fast]; kernel_rfl
theorem bind : PySem.Builtin.Bytes.bindOptional "bytearray.__init__" "bytearray" ["source", "encoding", "errors"] [] [] = pure [none, none, none] := by kernel_rfl
theorem ends : ("bytearray.__release_buffer__".endsWith ("." ++ "__release_buffer__")) = true := by decide +kernel
theorem dropped : ("bytearray.__release_buffer__".dropRight ("__release_buffer__".length + 1)) = "bytearray" := by decide +kernel
end BA
section
variable {prog : PySem.Program} {w : World} {A : PySem.Around} {E : Value → PySem.Shared → Prop} {s : PySem.Shared}
theorem ba_new {Q₁ : Value → PySem.Shared → Prop}
    (h : Q₁ (.ref s.heap.objs.size) { s with heap := s.heap.push { cls := .type "bytearray", data := .bytearray #[] } }) :
    PySem.codeAny (PySem.model prog w) A (.call (.builtin "bytearray.__new__") ⟨[.type "bytearray"], []⟩) (PySem.wants Q₁ E) s := by
  refine PySem.codeAny_of_tree ?_
  show PySem.wpAny _ A.in1 (do PySem.checkBuiltinCall "bytearray.__new__" ⟨[.type "bytearray"], []⟩; PySem.again (.builtin "bytearray.__new__" ⟨[.type "bytearray"], []⟩)) _ _ s
  refine PySem.wpAny_bind (PySem.wpAny_of_eq BA.newCall (PySem.wpAny_pure ⟨PySem.plainId_quiet BA.plain _, PySem.codeAny_builtin_stack BA.entry_new rfl fun p st => ?_⟩))
  rw [PySem.Around.under_plainId BA.plain _]
  have hsub := BA.sub
  have hown := BA.owner
  obtain ⟨hp, g, d, tk, os⟩ := s
  simp only [hown]
  wp_walk
  exact h
end
end Mine
end
section
open PySem PySem.W PyProof.Rows
set_option maxRecDepth 100000
namespace Mine
section
variable {M : PySem.Model} {A : PySem.Around} {E : Value → PySem.Shared → Prop} {s : PySem.Shared}
theorem wpN_exported {self : Value} {Q : Bool → PySem.Shared → Prop} (h : Q false s) : wpN M A (PySem.Builtin.Bytes.exported self) Q E s := fun Γ p _ h1 h2 => by
  unfold PySem.Builtin.Bytes.exported
  have hall : Clean ((Γ.code, p) :: Γ.below) := Clean.cons h1 h2
  show Q (List.any ((Γ.code, p) :: Γ.below) _) s
  have e : ∀ (f : PySem.Code × PySem.Pos → Bool), (∀ x, okCode x.1 = true → f x = false) → List.any ((Γ.code, p) :: Γ.below) f = false := fun f hf =>
    List.any_eq_false.mpr fun x hx => by rw [hf x (hall x hx)]; exact Bool.false_ne_true
  rw [e]
  · exact h
  · intro x hx
    split
    all_goals first
      | rfl
      | (exfalso; revert hx; simp [okCode]; done)
      | skip
    rename_i i v tl kw pp _ _ _ _ _
    cases hc : PySem.Builtin.Bytes.decodersThatHold.contains i with
    | false => simp
    | true =>
      exfalso
      have hm : i ∈ PySem.Builtin.Bytes.decodersThatHold := List.contains_iff_mem.mp hc
      have h3 : (["bytearray.__contains__", "bytearray.__mod__", "bytearray.__rmod__", "_struct.pack_into.held", "bytearray.find.held"] ++ PySem.Builtin.Bytes.decodersThatHold).contains i = true := List.contains_iff_mem.mpr (List.mem_append_right _ hm)
      have h4 : (!((["bytearray.__contains__", "bytearray.__mod__", "bytearray.__rmod__", "_struct.pack_into.held", "bytearray.find.held"] ++ PySem.Builtin.Bytes.decodersThatHold).contains i)) = true := hx
      rw [h3] at h4
      cases h4
end
end Mine
end
section
open PySem PySem.W PyProof.Rows
set_option maxRecDepth 100000
namespace Mine
section
variable {prog : PySem.Program} {w : World} {A : PySem.Around} {E : Value → PySem.Shared → Prop} {s : PySem.Shared}
theorem ba_ownRelease {M : PySem.Model} {S : PySem.Addr} {Q : Bool → PySem.Shared → Prop} (hT : s.TypeIs (.ref S) "bytearray") (h : Q false s) : PySem.wpAny M A (PySem.Builtin.Bytes.ownRelease (.ref S)) Q E s := by
  unfold PySem.Builtin.Bytes.ownRelease PySem.Builtin.Bytes.slotIsOwn
  refine PySem.wpAny_bind (PySem.wpAny_bind (PySem.wpAny_specialOf hT BA.release ?_))
  dsimp only
  rw [BA.ends]
  simp only [Bool.not_true, Bool.false_eq_true, if_false]
  rw [BA.dropped]
  exact PySem.wpAny_isInstance hT BA.sub (PySem.wpAny_pure h)
theorem ba_init_tree {M : PySem.Model} {S : PySem.Addr} {Q : PySem.Fin → PySem.Shared → Prop} (hS : s.heap.get? S = some { cls := .type "bytearray", data := .bytearray #[] })
    (h : Q (.done (.ret .none)) { s with heap := s.heap.update S (PySem.Obj.mapBytearray fun _ => #[]) }) :
    wpN M A (PySem.Builtin.«bytearray.__init__» ⟨[.ref S], []⟩) Q E s := by
  have hT : s.TypeIs (.ref S) "bytearray" := ⟨_, hS, rfl⟩
  unfold PySem.Builtin.«bytearray.__init__»
  dsimp only
  refine wpN_bind (wpN_of (ba_ownRelease hT ?_))
  simp only [Bool.false_eq_true, if_false]
  rw [BA.bind]
  refine wpN_bind (wpN_pure ?_)
  dsimp only
  refine wpN_bind (wpN_of (PySem.wpAny_pure ?_))
  refine wpN_bind (wpN_of (PySem.wpAny_pure ?_))
  have hlast : PySem.wpAny M A (PySem.Builtin.Bytes.write (Value.ref S) fun _ => #[]) (fun _ s' => Q (.done (.ret .none)) s') E s := by
    show PySem.wpAny M A (PySem.updateBytearray S fun _ => #[]) _ _ _
    unfold PySem.updateBytearray
    refine PySem.wpAny_bind (PySem.wpAny_load hS ?_)
    show PySem.wpAny _ _ (PySem.update S (PySem.Obj.mapBytearray fun _ => #[]) >>= fun _ => PySem.lookBehind S) _ _ _
    refine PySem.wpAny_bind (PySem.wpAny_update hS ?_)
    exact PySem.wpAny_lookBehind (PySem.Heap.get?_update_self (PySem.Obj.mapBytearray fun _ => #[]) hS rfl) rfl h
  refine wpN_bind ?_
  unfold orM
  refine wpN_bind (wpN_exported ?_)
  simp only [toBool]
  refine wpN_bind (wpN_of ?_)
  unfold PySem.Builtin.Bytes.exportsOf
  refine PySem.wpAny_bind (PySem.wpAny_load hS ?_)
  refine PySem.wpAny_pure ?_
  refine wpN_pure ?_
  simp only [Nat.lt_irrefl, gt_iff_lt, decide_false, Bool.false_eq_true, if_false, Option.isSome_none]
  refine wpN_bind (wpN_of (PySem.wpAny_mono hlast (fun _ s' hq => ?_) fun _ _ x => x))
  exact wpN_bind (wpN_pure (wpN_pure hq))
end
end Mine
end
section
open PySem PySem.W PyProof.Rows
set_option maxRecDepth 100000
namespace Mine
section
variable {prog : PySem.Program} {w : World} {A : PySem.Around} {E : Value → PySem.Shared → Prop} {s : PySem.Shared}
theorem wpN_ite_false {α : Type} {M : PySem.Model} {c : Bool} {a b : PySem.Sem α} {Q : α → PySem.Shared → Prop} (hc : c = false) (h : wpN M A b Q E s) : wpN M A (if c = true then a else b) Q E s := by
  subst hc
  exact h
theorem call_bytearrayN {Q : Value → PySem.Shared → Prop}
    (h : ∀ h', (∀ b o, s.heap.get? b = some o → h'.get? b = some o) → Q (.ref s.heap.objs.size) { s with heap := h' }) :
    wpN (PySem.model prog w) A (PySem.call (.type "bytearray") []) Q E s := by
  refine wpN_call (codeN_of_tree rfl ?_)
  show wpN _ _ (PySem.callAny (.type "bytearray") _) _ _ _
  refine wpN_pure ⟨PySem.Code.quiet_builtin _ (by decide +kernel), codeN_builtin (by decide) PySem.F.entry_type_call ?_⟩
  rw [PySem.Around.under_plain (PySem.weight_type_call_type "bytearray" [] []) rfl]
  unfold PySem.Builtin.«type.__call__»
  dsimp only
  refine wpN_ite_false BA.called.notType ?_
  refine wpN_ite_false BA.called.canCreate ?_
  rw [BA.typeCall]
  refine wpN_bind (wpN_pure ?_)
  rw [BA.mro]
  refine wpN_bind (wpN_pure ?_)
  refine wpN_ite_false rfl ?_
  rw [BA.called.made]
  refine wpN_bind (wpN_pure ?_)
  dsimp only
  refine wpN_bind (wpN_pure ?_)
  refine wpN_bind (wpN_of (PySem.wpAny_holding (PySem.wpAny_call ?_)))
  refine PySem.codeAny_mono (ba_new (E := E) (Q₁ := fun obj s₁ => obj = .ref s.heap.objs.size ∧ s₁ = { s with heap := s.heap.push { cls := .type "bytearray", data := .bytearray #[] } }) ⟨rfl, rfl⟩) fun r s₁ hr => ?_
  cases r with
  | error e => exact hr
  | ok fl =>
    cases fl with
    | ret obj =>
      obtain ⟨rfl, rfl⟩ := hr
      have hS : (s.heap.push { cls := .type "bytearray", data := .bytearray #[] }).get? s.heap.objs.size = some { cls := .type "bytearray", data := .bytearray #[] } := PySem.Heap.get?_push_size _ rfl
      have hT : PySem.Shared.TypeIs { s with heap := s.heap.push { cls := .type "bytearray", data := .bytearray #[] } } (.ref s.heap.objs.size) "bytearray" := ⟨_, hS, rfl⟩
      dsimp only
      refine wpN_bind (wpN_of (PySem.wpAny_isInstance hT BA.sub ?_))
      refine wpN_ite_false rfl ?_
      refine wpN_bind (wpN_holding ?_)
      unfold PySem.callSpecial?
      refine wpN_bind (wpN_of (PySem.wpAny_specialOf hT BA.slot_init.lookup ?_))
      dsimp only
      refine wpN_holding ?_
      rw [BA.slot_init.bind]
      refine wpN_bind (wpN_pure ?_)
      dsimp only
      refine wpN_bind (wpN_call ?_)
      refine codeN_of_tree rfl ?_
      show wpN _ _ (do PySem.checkBuiltinCall "bytearray.__init__" ⟨[.ref s.heap.objs.size], []⟩; PySem.again (.builtin "bytearray.__init__" ⟨[.ref s.heap.objs.size], []⟩)) _ _ _
      refine wpN_bind (wpN_of (BA.slot_init.check _ _ _ _ _ _ _ _ hT (BA.args_init _) ?_))
      refine wpN_pure ⟨PySem.plainId_quiet BA.plain_init _, codeN_builtin rfl BA.entry_init ?_⟩
      refine ba_init_tree hS ?_
      dsimp only
      refine wpN_pure ?_
      dsimp only
      refine wpN_ite_false (by decide) ?_
      refine wpN_pure (h _ fun b o e => ?_)
      exact (PySem.Heap.get?_update_other _ _ (Nat.ne_of_gt (PySem.Heap.lt_size e))).trans (PySem.Heap.get?_push_of_some _ e)
    | _ => exact hr.elim
end
end Mine
end
section
open PySem PySem.W PyProof.Rows
set_option maxRecDepth 100000
namespace Mine
section
variable {prog : PySem.Program} {w : World} {A : PySem.Around} {s : PySem.Shared} {R : PySem.Result → PySem.Shared → Prop}
theorem codeN_func {body : List PySem.Stmt} {env : PySem.Env}
    (h : wpN (PySem.model prog w) (A.deeper env) (PySem.execs body env) (fun f s' => R (.ok (.ret (match f with | .ret v => v | _ => .none))) s')
      (fun e s' => PySem.wpAny (PySem.model prog w) (A.deeper env) (PySem.leaving env e) (fun _ s'' => R (.error e) s'') (fun e' s'' => R (.error e') s'') s') s) :
    codeN (PySem.model prog w) A (.func body env) R s := by
  refine codeN_of_tree rfl ?_
  show wpN _ (A.deeper env) (do PySem.point; match ← (PySem.execs body env).onRaise (PySem.leaving env) with | .ret v => PySem.ret v | _ => PySem.ret .none) _ _ s
  refine wpN_bind (wpN_of (PySem.wpAny_point ?_))
  refine wpN_bind (wpN_onRaise (wpN_mono h (fun f s' h' => ?_) fun e s' h' => wpN_of h'))
  cases f <;> exact wpN_pure h'
theorem codeN_call_function {a : PySem.Addr} {args : PySem.Args} {o : PySem.Obj} {fd : PySem.FuncData} {body : List PySem.Stmt} (hroom : A.depth < PySem.recursionLimit)
    (ho : s.heap.get? a = some o) (hd' : o.data = .func fd) (hco : fd.scope.isCoroutine = false) (hgen : fd.scope.isGenerator = false) (hbody : fd.body = .stmts body) (hcd : s.heap.CodeRec fd.code fd.qualname)
    (h : PySem.wpAny (PySem.model prog w) A.in1 (PySem.bindArgs fd args) (fun binds s₁ =>
      PySem.wpAny (PySem.model prog w) A.in1 (PySem.newFunctionEnv fd.scope fd.globals fd.closure binds (fd.qualname ++ ".<locals>.") (some a) fd.code none fd.builtins)
        (fun env s₂ => s₂.heap.NoLimit ∧ codeN (PySem.model prog w) A (.func body env) R s₂) (fun e s' => R (.error e) s') s₁) (fun e s' => R (.error e) s') s) :
    codeN (PySem.model prog w) A (.call (.ref a) args) R s := by
  refine codeN_of_tree rfl (wpN_of ?_)
  show PySem.wpAny _ A.in1 (PySem.callAny (.ref a) args) _ _ s
  simp only [PySem.callAny]
  refine PySem.wpAny_bind (PySem.wpAny_load ho ?_)
  obtain ⟨c, oc, vs, tq, hc, hoc, hdc, hq⟩ := hcd
  simp only [hd', PySem.callFunction, hco, hgen, hbody, hc]
  rw [hc] at h
  refine PySem.wpAny_bind (m := PySem.field (.ref c) 1) (PySem.wpAny_field hoc hdc hq (PySem.wpAny_bind (PySem.wpAny_pure ?_)))
  refine PySem.wpAny_bind (PySem.wpAny_mono h (fun binds s₁ h₁ => PySem.wpAny_bind (PySem.wpAny_mono h₁ (fun env s₂ h₂ => ?_) fun _ _ h' => h')) fun _ _ h' => h')
  exact PySem.wpAny_bind (PySem.wpAny_enterFrame h₂.1 hroom (PySem.wpAny_pure (And.intro rfl h₂.2)))
end
section
variable {prog : PySem.Program} {w : World} {A A₀ : PySem.Around} {s : PySem.Shared} {K : Frag} {L : PySem.Addr} {h₀ base : PySem.Heap} {m mg mb : PySem.Str → Option Value} {news : List (PySem.Addr × PySem.Obj)} {p : PySem.Program} {loose : List PySem.Str} {mean : PySem.ExcName → Option Value}
theorem code_defN {env : PySem.Env} {outer : List PySem.Env} {R : PySem.Result → PySem.Shared → Prop} {name qual : PySem.Str} {params : PySem.Arguments} {body : List PySem.Stmt} {scope : PySem.Scope} {dV kV doc pm cdv ct oc : Value} {an od : Option PySem.Addr} {osl : Array (Option Value)} {f : PySem.Addr} {args : PySem.Args} {binds : List (PySem.Str × Value)}
    (B : Below A₀ base outer h₀) (F : Fr h₀ L s.heap m) (X₀ : K.In h₀) (N : News h₀ L s.heap news) (T : Top p loose mean mg mb h₀) (hA : A.frames = some (env :: outer)) (hf : env.frame = some L) (hke : env.scope.kind = .function)
    (ho : K.lookup f = some ⟨oc, od, .func (fnOf name qual params body scope dV kV doc pm an cdv ct), osl⟩) (hcd : codeIn K cdv qual = true) (hroom : A.depth < PySem.recursionLimit)
    (hbind : PySem.BindsTo s (fnOf name qual params body scope dV kV doc pm an cdv ct) args binds) (hloc : ∀ y ∈ binds, scope.names.lookup y.1 = some .local)
    (h : ∀ g L' h₁, Fr h₀ L g m → Fr g L' h₁ (fun y => binds.reverse.lookup y) → News g L' h₁ news → Below A base (env :: outer) g → K.In g → Top p loose mean mg mb g →
      wpN (PySem.model prog w) (A.deeper (envOf qual scope L' f cdv)) (PySem.execs body (envOf qual scope L' f cdv))
        (fun fl s' => LeaveK h₀ L m g R (match fl with | .ret v => v | _ => .none) s')
        (fun e s' => PySem.wpAny (PySem.model prog w) (A.deeper (envOf qual scope L' f cdv)) (PySem.leaving (envOf qual scope L' f cdv) e) (fun _ s'' => R (.error e) s'') (fun e' s'' => R (.error e') s'') s')
        { s with heap := h₁, toks := s.toks + binds.length })
    (hco : scope.isCoroutine = false) (hgen : scope.isGenerator = false) (hk : scope.kind = .function)
    (hcell : ∀ x ∈ scope.names, x.2 ≠ .cell) : codeN (PySem.model prog w) A (.call (.ref f) args) R s := by
  obtain ⟨FG, BG, st, lv⟩ := groundX (R := R) B F N hA hf hke
  have X := X₀.keeps F.keep
  refine codeN_call_function (fd := fnOf name qual params body scope dV kV doc pm an cdv ct) (body := body) hroom (X _ _ ho) rfl hco hgen rfl (codeRec_of X hcd) (hbind _ _ _ _ ?_)
  refine PySem.wpAny_newFunctionEnv hcell hloc (fun h₁ hns hsb => ⟨(T.nolimit.keeps F.keep).fresh _ hsb, codeN_func ?_⟩) hk
  have hk₁ : ∀ b o, s.heap.get? b = some o → h₁.get? b = some o := fun b o e => hsb.extBut b o (Nat.ne_of_lt (PySem.Heap.lt_size e)) (PySem.Heap.get?_push_of_some _ e)
  refine wpN_mono (h _ s.heap.objs.size h₁ FG ⟨hns, fun b o e => hk₁ b o (of_hideAll _ e), Nat.le_of_eq (hideAll_size _ _)⟩
    (fun q hq => ⟨hk₁ _ _ (N q hq).1, Nat.ne_of_lt (PySem.Heap.lt_size (N q hq).1), hideAll_none _ (List.mem_map_of_mem hq)⟩) BG (X₀.keeps st) (T.keeps st)) (fun fl s' hl => lv _ _ hl) fun _ _ y => y
end
end Mine
end
section
open PySem PySem.W PyProof.Rows
set_option maxRecDepth 100000
namespace Mine
section
variable {prog : PySem.Program} {w : World} {A : PySem.Around} {R : PySem.Result → PySem.Shared → Prop} {h : PySem.Heap} {g : Array PySem.GenState} {d : PySem.Drawn} {t : Nat} {os : PySem.OsState} {C : PySem.Addr}
theorem make_coreN {rest : List Value} {kw : List (PySem.Str × Value)} {fI : PySem.Addr} (Y : Makes (PySem.model prog w) h C) (hi : Looks (PySem.model prog w) h (PySem.typeLookup (.ref C) "__init__") (some (.ref fI)))
    (hb : ∀ self, Looks (PySem.model prog w) h (PySem.bindSpecial (.ref fI) self) (.ref fI, [self]))
    (hq : codeN (PySem.model prog w) (A.under (.builtin "type.__call__" ⟨.ref C :: rest, kw⟩)) (.call (.ref fI) ⟨.ref (h.objs.size + 1) :: rest, kw⟩) (InitBack (h.objs.size + 1) R) ⟨(h.push emptyDict).push (instObj C h.objs.size), g, d, t, os⟩) :
    codeN (PySem.model prog w) A (.call (.ref C) ⟨rest, kw⟩) R ⟨h, g, d, t, os⟩ := by
  have Y' := Y
  obtain ⟨⟨oc, od, cd, sl, hC, e1, e2, e4⟩, made, base, self, top, call, typ⟩ := Y
  refine codeN_of_tree rfl (wpN_of ?_)
  show PySem.wpAny _ _ (PySem.callAny (.ref C) _) _ _ _
  refine nd_load hC ?_
  show PySem.wpAny _ _ (PySem.callAny.viaDunder (.ref C) _) _ _ _
  unfold PySem.callAny.viaDunder
  refine PySem.wpAny_bind (call.at ?_)
  dsimp only
  rw [tc_bind]
  refine PySem.wpAny_bind (PySem.wpAny_pure (PySem.wpAny_bind (PySem.wpAny_pure ?_)))
  refine PySem.wpAny_pure (a := PySem.Fin.again (.call (.builtin "type.__call__") ⟨.ref C :: rest, kw⟩)) (And.intro rfl ?_)
  refine codeN_of_tree rfl ?_
  show wpN _ _ (do PySem.checkBuiltinCall "type.__call__" ⟨.ref C :: rest, kw⟩; PySem.again (.builtin "type.__call__" ⟨.ref C :: rest, kw⟩)) _ _ _
  refine wpN_bind (wpN_of (check_slot tc_kind tc_split typ (tc_args _ _ _) ?_))
  refine wpN_pure ⟨PySem.Code.quiet_builtin _ (by decide +kernel), codeN_builtin rfl entry_typeCall ?_⟩
  unfold PySem.Builtin.«type.__call__»
  have hm : Looks (PySem.model prog w) h (PySem.mroOf (.ref C)) cd.mro := ((Looks.ld (part := none) hC).andThen .now).andThen .now
  dsimp only
  refine wpN_ite_false rfl ?_
  refine wpN_bind (wpN_of (hm.at ?_))
  refine wpN_ite_false e4 ?_
  refine wpN_bind (wpN_of (made.at ?_))
  dsimp only
  refine wpN_bind (wpN_pure ?_)
  refine wpN_bind (wpN_of (PySem.wpAny_holding (PySem.wpAny_call ?_)))
  refine new_K Y' hi (.inl rfl) ?_
  have k : ∀ b o, h.get? b = some o → ((h.push emptyDict).push (instObj C h.objs.size)).get? b = some o := fun b o e => PySem.Heap.get?_push_of_some _ (PySem.Heap.get?_push_of_some _ e)
  have hx : ((h.push emptyDict).push (instObj C h.objs.size)).get? (h.objs.size + 1) = some (instObj C h.objs.size) := by heap_get
  have t1 : Looks (PySem.model prog w) ((h.push emptyDict).push (instObj C h.objs.size)) (PySem.typeOf (.ref (h.objs.size + 1))) (.ref C) := (Looks.ld hx).andThen .now
  have s1 := self.keeps k
  have i1 := hi.keeps k
  have b1 := (hb (.ref (h.objs.size + 1))).keeps k
  have tI : Looks (PySem.model prog w) ((h.push emptyDict).push (instObj C h.objs.size)) (PySem.isInstance (.ref (h.objs.size + 1)) (.ref C)) true := t1.andThen s1
  have tS : Looks (PySem.model prog w) ((h.push emptyDict).push (instObj C h.objs.size)) (PySem.specialOf (.ref (h.objs.size + 1)) "__init__") (some (.ref fI)) := t1.andThen i1
  dsimp only
  refine wpN_bind (wpN_of (tI.at ?_))
  refine wpN_ite_false rfl ?_
  refine wpN_bind (wpN_holding ?_)
  unfold PySem.callSpecial?
  refine wpN_bind (wpN_of (tS.at ?_))
  dsimp only
  refine wpN_holding ?_
  refine wpN_bind (wpN_of (b1.at ?_))
  dsimp only
  refine wpN_bind (wpN_call ?_)
  refine codeN_mono hq fun r s' z => ?_
  rcases r with e | (v | _ | _ | _) <;> first | exact z | exact z.elim | skip
  obtain ⟨rfl, z⟩ := z
  dsimp only
  refine wpN_pure ?_
  dsimp only
  refine wpN_ite_false (by decide) ?_
  exact wpN_pure z
end
end Mine
end
section
open PySem PySem.W PyProof.Rows
set_option maxRecDepth 100000
namespace Mine
section
variable {M : PySem.Model} {A : PySem.Around} {E : Value → PySem.Shared → Prop} {s : PySem.Shared} {env : PySem.Env}
theorem wpN_Assign_Name {x : PySem.Str} {pos' pos : PySem.Pos} {value : PySem.Expr} {Q : PySem.Flow → PySem.Shared → Prop}
    (h : wpN M A (PySem.eval value env) (fun v s₁ => wpN M A (PySem.storeName env x v) (fun _ => Q .next) E s₁) E s)
    (hs : PySem.swapsWith value (some (.Name x pos')) pos.line env = pure false := by rfl) :
    wpN M A (PySem.exec (.Assign [.Name x pos'] value pos) env) Q E s := fun Γ p hΓ h1 h2 => by
  simp only [PySem.exec_Assign_Name env x pos' value pos hs, PySem.Sem.wp_bind', PySem.Sem.wp_cmd_standAt, PySem.Sem.wp_bindName, PySem.Sem.wp_pure']
  exact PySem.Sem.wp_mono M Γ _ (fun v _ s₁ h₁ => h₁ Γ _ hΓ h1 h2) (fun _ _ _ h' => h') _ _ (h Γ _ hΓ h1 h2)
theorem wpN_Assign_Attribute {o : PySem.Expr} {attr : PySem.Str} {pos' pos : PySem.Pos} {value : PySem.Expr} {Q : PySem.Flow → PySem.Shared → Prop}
    (h : wpN M A (PySem.eval value env) (fun v s₁ => wpN M A (PySem.eval o env) (fun ov s₂ => wpN M A (PySem.setAttr ov attr v) (fun _ => Q .next) E s₂) E s₁) E s)
    (hs : PySem.swapsWith value (some (.Attribute o attr pos')) pos.line env = pure false := by rfl) :
    wpN M A (PySem.exec (.Assign [.Attribute o attr pos'] value pos) env) Q E s := fun Γ p hΓ h1 h2 => by
  simp only [PySem.plainObj_exec_Assign_Attribute o attr pos' value pos hs, PySem.assign_Attribute, PySem.Sem.wp_bind', PySem.Sem.wp_holding, PySem.Sem.wp_cmd_standAt, PySem.Sem.wp_release, PySem.Sem.wp_pure']
  exact PySem.Sem.wp_mono M Γ _ (fun v p₁ s₁ h₁ => PySem.Sem.wp_mono M Γ _ (fun ov _ s₂ h₂ => h₂ Γ _ hΓ h1 h2) (fun _ _ _ h' => h') _ _ (h₁ Γ p₁ hΓ h1 h2)) (fun _ _ _ h' => h') _ _ (h Γ _ hΓ h1 h2)
theorem wpN_Assign_Tuple {elts : List PySem.Expr} {k : Nat} {tpos pos : PySem.Pos} {value : PySem.Expr} {Q : PySem.Flow → PySem.Shared → Prop}
    (h : wpN M A (PySem.eval value env) (fun v s₁ => wpN M A (PySem.assign (.Tuple elts k tpos) env v) (fun _ => Q .next) E s₁) E s)
    (hs : PySem.swapsWithSole [.Tuple elts k tpos] value pos.line env = pure false := by rfl)
    (hw : PySem.swappedStores [.Tuple elts k tpos] value env = pure none := by rfl) :
    wpN M A (PySem.exec (.Assign [.Tuple elts k tpos] value pos) env) Q E s := by
  rw [PyProof.Rows.exec_Assign]
  refine wpN_bind (wpN_of (PySem.wpAny_standAt ?_))
  rw [hs]
  refine wpN_bind (wpN_pure ?_)
  rw [if_neg (by decide)]
  refine wpN_bind (wpN_mono h (fun v s₁ h₁ => ?_) fun _ _ x => x)
  rw [hw]
  refine wpN_bind (wpN_pure ?_)
  show wpN M A (do PySem.assignAll v [PySem.assign (.Tuple elts k tpos) env]; pure .next) Q E s₁
  exact wpN_bind (wpN_mono h₁ (fun _ _ x => wpN_pure x) fun _ _ x => x)
theorem wpN_Call {func : PySem.Expr} {args : List PySem.Expr} {pos : PySem.Pos} {Q : Value → PySem.Shared → Prop}
    (h : wpN M A (PySem.eval func env) (fun f s₁ => wpN M A (PySem.callWith pos f [] (PySem.backTo pos (PySem.starEach args env)) []) Q E s₁) E s)
    (he : PySem.eval (.Call func args [] pos) env = (do PySem.callWith pos (← PySem.eval func env) [] (PySem.backTo pos (PySem.starEach args env)) (PySem.backToKw pos (PySem.keywordEach [] env))) := by rfl) :
    wpN M A (PySem.eval (.Call func args [] pos) env) Q E s := by
  rw [he]; exact wpN_bind h
theorem wpN_keep {vs : List Value} {m : PySem.Sem Value} {Q : Value → PySem.Shared → Prop} (h : wpN M A m Q E s) : wpN M A (m.keep vs) Q E s :=
  fun Γ p hΓ h1 h2 => by rw [PySem.Sem.wp_keep]; exact h Γ p hΓ h1 h2
theorem wpN_callWith_of {P : PySem.Heap → Prop} {pos : PySem.Pos} {f : Value} {first : List Value} {Q : Value → PySem.Shared → Prop} {args : List (Bool × PySem.Sem Value)} {keywords : List (Option PySem.Str × PySem.Sem Value)} (hplain : (args.any (·.1) || keywords.any (·.1.isNone)) = false)
    (hk : ∀ h, P h → ∃ k, (k = PySem.Keeper.frame ∨ k = PySem.Keeper.machine ∨ k = PySem.Keeper.boundFrame) ∧ Looks M h (PySem.keeperOf f) k)
    (h : wpN M A (PySem.evalArgs f true args keywords) (fun a s₁ => P s₁.heap ∧ wpN M A (PySem.call f (first ++ a.pos) a.kw) Q E s₁) E s) : wpN M A (PySem.callWith pos f first args keywords) Q E s := by
  unfold PySem.callWith
  refine wpN_bind (wpN_holding (wpN_mono h (fun a s₁ h₁ => wpN_bind (wpN_of (PySem.wpAny_standAt ?_))) fun _ _ x => x))
  obtain ⟨k, hk', L⟩ := hk _ h₁.1
  simp only [hplain]
  refine wpN_bind (wpN_of (L.here ?_))
  have tail : ∀ {t : PySem.Sem Value}, wpN M A t Q E s₁ → wpN M A (t >>= fun r => PySem.holding [r] PySem.point >>= fun _ => pure r) Q E s₁ :=
    fun ht => wpN_bind (wpN_mono ht (fun r s₂ hr => wpN_bind (wpN_of (PySem.wpAny_holding (PySem.wpAny_point (wpN_pure hr))))) fun _ _ x => x)
  have marked (mk : Value) : wpN M A (PySem.callMarked mk f (first ++ a.pos) a.kw) Q E s₁ := by unfold PySem.callMarked; exact wpN_keep h₁.2
  rcases hk' with rfl | rfl | rfl <;> dsimp only <;> first | exact tail h₁.2 | (split <;> first | exact tail h₁.2 | exact tail (marked _))
theorem wpN_callWith_type0 {pos : PySem.Pos} {T : String} {Q : Value → PySem.Shared → Prop} (h : wpN M A (PySem.call (.type T) []) Q E s) :
    wpN M A (PySem.callWith pos (.type T) [] (PySem.backTo pos (PySem.starEach [] env)) []) Q E s :=
  wpN_callWith_of (P := fun _ => True) rfl (fun _ _ => ⟨.machine, .inr (.inl rfl), Looks.of_pure rfl⟩) (wpN_of (evalArgs_nil3 ⟨trivial, h⟩))
theorem wpN_callWith_K {K : Frag} {pos : PySem.Pos} {f : Value} {e : PySem.Expr} {rest : List PySem.Expr} {Q : Value → PySem.Shared → Prop} (hk : keepIn K f = true)
    (h : PySem.wpAny M A (PySem.spliced (PySem.backTo pos (PySem.starEach (e :: rest) env))) (fun vs s₁ => K.In s₁.heap ∧ wpN M A (PySem.call f ([] ++ vs)) Q E s₁) E s)
    (he : PySem.starEach (e :: rest) env = (false, PySem.eval e env) :: PySem.starEach rest env := by rfl) (hplain : (PySem.backTo pos (PySem.starEach rest env)).any (·.1) = false := by rfl) :
    wpN M A (PySem.callWith pos f [] (PySem.backTo pos (PySem.starEach (e :: rest) env)) []) Q E s := by
  rw [he] at h ⊢
  exact wpN_callWith_of (by show ((false || (PySem.backTo pos (PySem.starEach rest env)).any (·.1)) || false) = false; rw [hplain]; rfl) (keeps_K hk) (wpN_of (PySem.Calls.evalArgs_plain h))
theorem wpN_spliced_more {e : PySem.Expr} {rest : List PySem.Expr} {pos : PySem.Pos} {Q : List Value → PySem.Shared → Prop}
    (h : wpN M A (PySem.eval e env) (fun v s₁ => wpN M A (PySem.spliced (PySem.backTo pos (PySem.starEach rest env))) (fun vs s₂ => Q (v :: vs) s₂) E s₁) E s)
    (he : PySem.starEach (e :: rest) env = (false, PySem.eval e env) :: PySem.starEach rest env := by rfl) : wpN M A (PySem.spliced (PySem.backTo pos (PySem.starEach (e :: rest) env))) Q E s := by
  rw [he]
  show wpN M A (PySem.spliced ((false, PySem.eval e env) :: PySem.backTo pos (PySem.starEach rest env))) Q E s
  rw [PySem.spliced]
  refine wpN_bind (wpN_mono h (fun v s₁ h₁ => ?_) fun _ _ x => x)
  simp only [Bool.false_eq_true, if_false]
  exact wpN_bind (wpN_pure (wpN_bind (wpN_holding (wpN_mono h₁ (fun vs s₂ h₂ => wpN_pure h₂) fun _ _ x => x))))
theorem wpN_Tuple {elts : List PySem.Expr} {k : Nat} {pos : PySem.Pos} {Q : Value → PySem.Shared → Prop}
    (h : wpN M A (PySem.spliced (PySem.backTo pos (PySem.starEach elts env))) (fun vs s₁ => wpN M A (PySem.newTuple vs) Q E s₁) E s) : wpN M A (PySem.eval (.Tuple elts k pos) env) Q E s := by
  show wpN M A (do PySem.standAt pos; PySem.newTuple (← PySem.spliced (PySem.backTo pos (PySem.starEach elts env)))) Q E s
  exact wpN_bind (wpN_of (PySem.wpAny_standAt (wpN_bind h)))
end
section
variable {prog : PySem.Program} {w : World} {A : PySem.Around} {E : Value → PySem.Shared → Prop} {s : PySem.Shared} {K : Frag} {C L : PySem.Addr} {h₀ : PySem.Heap} {m : PySem.Str → Option Value} {news : List (PySem.Addr × PySem.Obj)} {Q : Value → PySem.Shared → Prop}
theorem call_clsN {pos : List Value} {kw : List (PySem.Str × Value)} {fI : PySem.Addr} (F : Fr h₀ L s.heap m) (X₀ : K.In h₀) (N : News h₀ L s.heap news) (hm : makesIn K C = true) (hi : findIn K (.ref C) "__init__" = some (some (.ref fI))) (hf : isFn K (.ref fI) = true)
    (h : ∀ x dx h', Fr h₀ L h' m → News h₀ L h' ((x, instObj C dx) :: (dx, dictOf [] 0) :: news) → (∀ p ∈ news, p.1 < dx) → dx < x →
      codeN (PySem.model prog w) (A.under (.builtin "type.__call__" ⟨.ref C :: pos, kw⟩)) (.call (.ref fI) ⟨.ref x :: pos, kw⟩) (InitBack x fun r s' => match r with | .ok (.ret v) => Q v s' | .ok _ => False | .error e => E e s') { s with heap := h' }) :
    wpN (PySem.model prog w) A (PySem.call (.ref C) pos kw) Q E s := by
  refine wpN_call ?_
  have X := X₀.keeps F.keep
  obtain ⟨hh, g, d, t, os⟩ := s
  refine make_coreN (makes_of X hm) (looks_findIn X hi) (fun self => bind_fn X self (beq_iff_eq.mp hf)) (h _ hh.objs.size _ ((F.push _).push _) ?_ (fun p hp => PySem.Heap.lt_size (N p hp).1) (Nat.lt_succ_self _))
  have := (N.push F emptyDict).push (F.push _) (instObj C hh.objs.size)
  rwa [PySem.Heap.size_push] at this
end
end Mine
end
section
open PySem PySem.W PySem.Calls PyProof.Rows
namespace Mine
theorem wp_of_wpN_done {M : Model} {A : Around} {Γ : Ctx} {t : Sem Fin} {R : Result → Shared → Prop} {s : Shared} (hin : Γ.In A) (hc : okCode Γ.code = true) (hb : Clean Γ.below)
    (h : wpN M A t (fun fin s' => ∃ f, fin = .done f ∧ R (.ok f) s') (fun e s' => R (.error e) s') s) (p : Pos) :
    PySem.Sem.wp M Γ t (Sem.finPost M Γ R) (fun e _ s' => R (.error e) s') p s := by
  refine Sem.wp_mono M Γ t (fun fin p' s' h' => ?_) (fun _ _ _ h' => h') p s (h Γ p hin hc hb)
  obtain ⟨f, rfl, hf⟩ := h'
  exact hf
theorem thread_endsN {prog : Program} {w : World} {t : Sem Fin} {s : Shared} {R : Result → Shared → Prop} (hreg : s.asleep)
    (h : wpN (model prog w) callerA t (fun fin s' => ∃ f, fin = .done f ∧ (R (.ok f) s' ∧ leftWithCleanup s'.gens = false)) (fun e s' => R (.error e) s' ∧ leftWithCleanup s'.gens = false) s) :
    ∃ n r s' s'', runN (denote table) prog w n s ⟨t, .builtin "claim.caller" {}, default, []⟩ = .halted (outcomeOf r) s' ∧
      schedN (denote table) prog w n (.single s ⟨t, .builtin "claim.caller" {}, default, []⟩) = .halted (outcomeOf r) s' ∧ s'.forget = s''.forget ∧ R r s'' := by
  obtain ⟨n, r, s₁, s₂, hs, hn, hfo, hR⟩ := wp_halts_full (M := model prog w) (R := R) hreg (wp_of_wpN_done (R := fun r s' => R r s' ∧ leftWithCleanup s'.gens = false) caller_in (by decide) Clean.nil h default)
  exact ⟨n, r, s₂, s₁, hn, hs, hfo, hR⟩
theorem callFromN {c : ClaimW} {tree : List Value → Sem Fin} {w : World} {s : Shared} {free : Addr → Prop} {gens : Prop} {kept : Heap → Prop} (hz : s.asleep) (hgens : s.gens = #[])
    (hspec : ∀ args, c.pre args = true → WData.layableAll args = true →
      ∀ ord : List DictEntry → List DictEntry, (∀ l, (ord l).Perm l) →
      ∃ vs s₁, layAllW c.records (classAt s.heap) w.params ord args s = some (vs, s₁) ∧
        wpN (model c.prog w) callerA (tree vs) (fun fin s' => ∃ f, fin = .done f ∧ (c.Ends s args vs s₁ (.ok f) s' ∧ s'.os = s.os ∧ AllBare s'.gens ∧ kept s'.heap))
          (fun e s' => c.Ends s args vs s₁ (.error e) s' ∧ s'.os = s.os ∧ AllBare s'.gens ∧ kept s'.heap) s₁) :
    c.CallFrom (fun vs => ⟨tree vs, .builtin "claim.caller" {}, default, []⟩) w free gens kept s := by
  intro args hpre hlay ord hord
  obtain ⟨vs, s₁, hlaid, hcode⟩ := hspec args hpre hlay ord hord
  have hal := layAllW_rest _ _ _ hlaid
  obtain ⟨k, r, s', s'', hrun, hsched, hfo, hcase, hos, hkp⟩ := thread_endsN (prog := c.prog) (w := w) (t := tree vs) (s := s₁)
    (R := fun r s' => c.Ends s args vs s₁ r s' ∧ s'.os = s.os ∧ kept s'.heap)
    (Shared.asleep_of_life hal.2.2.2 hz)
    (wpN_mono hcode (by
      rintro fin s' ⟨f, e, h1, h2, h3, h4⟩
      exact ⟨f, e, ⟨h1, h2, h4⟩, leftWithCleanup_false_of_bare h3⟩) (by
      rintro e s' ⟨h1, h2, h3, h4⟩
      exact ⟨⟨h1, h2, h4⟩, leftWithCleanup_false_of_bare h3⟩))
  obtain ⟨eh, _, _, eo, _⟩ := Shared.forget_eq hfo
  have hcase := hcase.congr eh
  have hkp : kept s'.heap := by first | exact eh ▸ hkp | (rw [eh] at hkp; exact hkp) | (rw [← eh] at hkp; exact hkp)
  rw [← eo] at hos
  have hlife : s'.heap.life = s.heap.life := (runN_life _ _ _ hrun).trans hal.2.2.2
  refine ⟨vs, s₁, hlaid, k, _, s', hsched, ?_, (fun _ i x hx => by rw [hgens] at hx; simp at hx), hkp, by rw [hlife], Shared.rest_eq hos⟩
  rcases hcase with ⟨v, rfl, d1, d2, d3, d4, d5⟩ | ⟨e, ob, cls, rfl, d1, d2, d3, d4, d5⟩
  · exact .inl ⟨v, rfl, d1, d2, d3, fun b o y _ => d4 b o y, d5⟩
  · exact .inr ⟨e, ob, cls, rfl, d1, d2, d3, d4, fun b o y _ => d5 b o y⟩
theorem open_anyN {r : RowW} {run : Value → List Value → Sem Value} {tree : List Value → Sem Fin} {q : Program} {loose defs kps : List Str} {writes : Bool} {Xt : Shared → Bool} {XP : (Str → Option Value) → Heap → Prop} {α : Type} {Yf : Shared → α} {Ya : World → α} {YP : World → Heap → Prop} {N : Nat}
    (left : LeftO r.prog q loose Xt Yf Ya N) (hY : ∀ w s, Yf s = Ya w → YP w s.heap) (hYk : ∀ w h h', YP w h → (∀ b o, h.get? b = some o → h'.get? b = some o) → YP w h') (hX : ∀ s, Xt s = true → XP (s.heap.nsMap mainGlobals) s.heap) (hXk : ∀ mg h h', XP mg h → (∀ b o, h.get? b = some o → h'.get? b = some o) → XP mg h')
    (hRf : ∀ s, Xt s = true → RecFacts r.records s.heap) (hwr : (!writes || r.records.isEmpty) = true) (ok : (chainsOk q && opensWell r.prog && (frees r && r.within.isEmpty)) = true) (hb : r.prog.bare) (hw : r.promised)
    (ht : ∀ vs (w : World) (s : Shared) mg f (Q : Fin → Shared → Prop) (E : Value → Shared → Prop), s.heap.Ns mainGlobals mg → mg r.name = some f → wpN (model r.prog w) callerA (run f vs) (fun v s' => Q (.done (.ret v)) s') E s → wpN (model r.prog w) callerA (tree vs) Q E s)
    (pin : ∀ w s, s.heap.isNs mainGlobals = true → Ground q loose [] XP w s (s.heap.nsMap mainGlobals) (s.heap.nsMap builtinsNs) s.heap → ∀ n ∈ defs, isTheDefsW r.prog s.heap n)
    (call : ∀ (w : World) (s₀ s₁ : Shared) (mg mb : Str → Option Value), Ground q loose r.records XP w s₀ mg mb s₁.heap → YP w s₁.heap → ∀ (args : List WData) (vs : List Value) (as : List Addr),
      r.claim.pre args = true → WData.layableAll args = true → Laid r.records w s₀ s₁ args vs as → sysModules < s₀.heap.objs.size → ∃ f, mg r.name = some f ∧
        wpN (model r.prog w) callerA (run f vs) (fun v s' => GoodWG r.claim (classAt s₀.heap) (ExcName.means s₀.heap) args s₁ (.ok (.ret v)) s')
          (fun e s' => GoodWG r.claim (classAt s₀.heap) (ExcName.means s₀.heap) args s₁ (.error e) s') s₁) : r.claim.HoldsOpenBy (fun vs => ⟨tree vs, .builtin "claim.caller" {}, default, []⟩) defs kps writes := by
  obtain ⟨ok, k5⟩ := Bool.and_eq_true_iff.mp ok
  obtain ⟨hch, o1⟩ := Bool.and_eq_true_iff.mp ok
  obtain ⟨k5, k6⟩ := Bool.and_eq_true_iff.mp k5
  obtain ⟨hsame, hu, ha, hap, hm⟩ := frees_parts k5
  refine ⟨⟨hb, o1, by show r.makers.map _ = []; rw [hm]; rfl⟩, hw.witness, fun w => ⟨(left.behind hX hch w).1, fun s' hs' => ?_⟩⟩
  obtain ⟨s₀, hf, hg0, s, hT, hz, hgens, hg, G00, y⟩ := (left.behind (XP := fun mg h => XP mg h ∧ RecFacts r.records h) (fun s hs => ⟨hX s hs, hRf s hs⟩) hch w).2 s' hs'
  have G0 : Ground q loose [] XP w s (s.heap.nsMap mainGlobals) (s.heap.nsMap builtinsNs) s.heap := ⟨G00.T, G00.B, G00.D, G00.TE, G00.TD, G00.W, G00.X.1, G00.cls, G00.has, G00.apart, G00.once, G00.K⟩
  have RF := G00.X.2
  have hT' := hT
  refine ⟨s₀, hf, hg0, s, hT, pin w s hg G0, RF.1, RF.2.1, ?_⟩
  have hgens : s.gens = #[] := Array.eq_empty_of_size_eq_zero (beq_iff_eq.mp hgens)
  have G : Ground q loose r.records XP w s _ _ s.heap := RF.ground G0
  refine callFromN (c := r.claim) hz hgens fun args hpre hlay ord hord => ?_
  obtain ⟨⟨vs, s₁⟩, hlaid⟩ := Option.isSome_iff_exists.mp (layAllW_isSome (P := w.params) (ord := ord) G.has args r.args s (pre_splitW hpre).1)
  have keeps := layAllW_keeps _ _ _ hlaid
  have hal := layAllW_rest _ _ _ hlaid
  obtain ⟨as, hrd, hin, hold⟩ := reads_layAllW hord _ _ _ hlaid hlay s₁.heap (fun _ _ e => e)
  have L : Laid r.records w s s₁ args vs as := ⟨⟨ord, hord, hlaid⟩, hrd, hin, hold, keeps, hal.1.trans hgens, hal.2.2.1⟩
  have G₁ := G.keeps hXk keeps
  obtain ⟨f, hf, h⟩ := call w s s₁ _ _ G₁ (hYk _ _ _ (hY w s y) keeps) args vs as hpre hlay L G.low
  have hi := ident_freeW hu ha hap
  have hwi : r.claim.within = [] := List.isEmpty_iff.mp k6
  exact ⟨vs, s₁, hlaid, ht vs w s₁ _ f _ _ G₁.T.g hf (wpN_mono h (fun v s' g => ⟨_, rfl, have z := g.laid (c := r.claim) hsame hwi hi L; ⟨z.1, z.2.1, z.2.2, fun q => ⟨namesKept_of hT' hg kps keeps g.2.1.old, noTable hwr q⟩⟩⟩) fun e s' g => have z := g.laid (c := r.claim) hsame hwi hi L; ⟨z.1, z.2.1, z.2.2, fun q => ⟨namesKept_of hT' hg kps keeps g.2.1.old, noTable hwr q⟩⟩)⟩
abbrev WalkM (q : Program) (loose : List Str) (XP : (Str → Option Value) → Heap → Prop) (YP : World → Heap → Prop) (r : RowW) (d : DefRec) (kwd : List (Str × Expr)) (run : Value → List Value → Sem Value) : Prop :=
  ∀ (w : World) (s₀ s₁ : Shared) (mg mb : Str → Option Value), Ground q loose r.records XP w s₀ mg mb s₁.heap → YP w s₁.heap → ∀ (a : Addr) (o : Obj) (pm cd doc dV kV : Value), s₁.heap.get? a = some o →
    o.data = .func { docDef d.name d.params d.body d.scope pm cd doc with defaults := dV, kwdefaults := kV } → s₁.heap.CodeRec cd d.name → Dflts mg s₁.heap d.params kwd dV kV → mg d.name = some (.ref a) → s₁.gens = #[] →
    ∀ (args : List WData) (vals : List Value) (as : List Addr), r.claim.pre args = true → WData.layableAll args = true → ReadsAllW r.records (classAt s₀.heap) s₁.heap vals args as → WellAll w.params s₁.heap vals args → (∀ a ∈ as, (a == sysModules) = false) →
      wpN (model r.prog w) callerA (run (.ref a) vals) (fun v s' => GoodWG r.claim (classAt s₀.heap) (ExcName.means s₀.heap) args s₁ (.ok (.ret v)) s')
        (fun e s' => GoodWG r.claim (classAt s₀.heap) (ExcName.means s₀.heap) args s₁ (.error e) s') s₁
theorem holds_openN {r : OpenRow} {q : Program} {loose : List Str} {Xt : Shared → Bool} {XP : (Str → Option Value) → Heap → Prop} {α : Type} {Yf : Shared → α} {Ya : World → α} {YP : World → Heap → Prop} {d : DefRec} {kwd : List (Str × Expr)} {N : Nat}
    (left : LeftO r.prog q loose Xt Yf Ya N) (hY : ∀ w s, Yf s = Ya w → YP w s.heap) (hYk : ∀ w h h', YP w h → (∀ b o, h.get? b = some o → h'.get? b = some o) → YP w h')
    (hX : ∀ s, Xt s = true → XP (s.heap.nsMap mainGlobals) s.heap) (hXk : ∀ mg h h', XP mg h → (∀ b o, h.get? b = some o → h'.get? b = some o) → XP mg h')
    (hdef : defOf q r.name = some (d, kwd)) (hp : r.prog.theDef r.name = some (d.params, d.body, d.scope)) (hk : kwWritten? d.params.kwonlyargs d.params.kw_defaults = some kwd) (hRf : ∀ s, Xt s = true → RecFacts r.records s.heap) (hwr : (!r.writes || r.records.isEmpty) = true)
    (k1 : r.wellSaid = true) (ok : (chainsOk q && opensWell r.prog && (frees r.toRowW && r.within.isEmpty)) = true) (hb : r.prog.bare) (hw : r.toRowW.promised)
    (call : WalkM q loose XP YP r.toRowW d kwd fun f vs => PySem.call f vs) : r.Holds := by
  refine ⟨k1, hw, open_anyN (r := r.toRowW) (run := fun f vs => PySem.call f vs) (tree := fun vs => do match ← nsGet mainNs r.name with
      | some f => do ret (← PySem.call f vs)
      | none => unsupported "claim.caller:no-such-global") left hY hYk hX hXk hRf hwr ok hb hw
    (fun vs w s mg f Q E hg hf h => wpN_bind (wpN_of (wpAny_nsGet hg (by rw [hf]; exact wpN_bind (wpN_mono h (fun _ _ x => wpN_pure x) fun _ _ x => x)))))
    (fun w s hg G n hn => ?_) fun w s₀ s₁ mg mb G Y args vs as hpre hlay L low => ?_⟩
  · obtain rfl : n = r.name := by split at hn <;> simp_all
    exact pinned_of_view hg G hdef hp hk
  · obtain ⟨a, o, pm, cd, doc, dV, kV, h1, h2, h3, h4, h5⟩ := G.fn hdef
    exact ⟨.ref a, h1, call w s₀ s₁ mg mb G Y a o pm cd doc dV kV h2 h3 h4 h5 (defOf_name hdef ▸ h1) L.gens args vs as hpre hlay L.reads L.well (L.low low)⟩
end Mine
end
section
open PySem PySem.W PySem.Calls PyProof.Rows
namespace Mine
/-- topRun over the state whose heap is a tree -/
def topRunT (tb : String → Option Builtin) (p : Program) (w : World) (n₀ : Nat) (ann : Option Value) : Nat → SharedT → Thread → Option SharedT
  | 0, _, _ => none
  | n + 1, s, t => match through t with
    | true => some s
    | false => match stepOk n₀ ann t with
      | false => none
      | true => match stepT (denote tb) p w s t with
        | some (s', t') => topRunT tb p w n₀ ann n s' t'
        | none => none
theorem topRunT_of {tb : String → Option Builtin} {p : Program} {w : World} {n₀ : Nat} {ann : Option Value} : ∀ {n : Nat} {s s' : SharedT} {t : Thread}, topRunT tb p w n₀ ann n s t = some s' → topRun tb p w n₀ ann n s.abs t = some s'.abs
  | 0, _, _, _, h => by cases h
  | n + 1, s, s', t, h => by
    unfold topRunT at h
    unfold topRun
    cases ht : through t with
    | true => rw [ht] at h; cases h; rfl
    | false =>
      rw [ht] at h
      cases hk : stepOk n₀ ann t with
      | false => rw [hk] at h; cases h
      | true =>
        rw [hk] at h
        cases hs : stepT (denote tb) p w s t with
        | none => rw [hs] at h; cases h
        | some r => obtain ⟨s₂, t₂⟩ := r; rw [hs] at h; rw [stepT_spec hs]; exact topRunT_of h
/-- the same by the library's quick readings of its own functions -/
noncomputable def topRunQ (p : Program) (w : World) (n₀ : Nat) (ann : Option Value) : Nat → SharedT → Thread → Option SharedT
  | 0, _, _ => none
  | n + 1, s, t => match through t with
    | true => some s
    | false => match PySem.W.Fast.tw6613529449190102663 n₀ ann t with
      | false => none
      | true => match PySem.W.Fast.tw10156331382660048174 (PySem.W.Fast.tw11892475500146522536 PySem.W.Fast.tw14364793385576792824) p w s t with
        | some (s', t') => topRunQ p w n₀ ann n s' t'
        | none => none
theorem topRunQ_eq {p : Program} {w : World} {n₀ : Nat} {ann : Option Value} : ∀ (n : Nat) (s : SharedT) (t : Thread), topRunT treeTable p w n₀ ann n s t = topRunQ p w n₀ ann n s t
  | 0, _, _ => rfl
  | n + 1, s, t => by
    unfold topRunT topRunQ
    rw [← PySem.W.Fast.te6613529449190102663, ← PySem.W.Fast.te10156331382660048174, ← PySem.W.Fast.te11892475500146522536, ← PySem.W.Fast.te14364793385576792824]
    simp only [topRunQ_eq n]
def insL : Nat → List Obj → BT → BT
  | _, [], t => t
  | i, o :: r, t => insL (i + 1) r (t.ins i o)
noncomputable def bootT (P : Params) : BT := insL 0 (boot_heap P).objs.toList .nil
noncomputable def bootS (w : World) (os : OsState) (n : Nat) : SharedT := ⟨bootT w.params, n, (boot_heap w.params).life, #[], boot_drawn, boot_toks, os⟩
end Mine
end
section
open PySem PySem.W PySem.Calls PyProof.Rows
namespace Mine
theorem left_of_run {p q : Program} {loose : List PySem.Str} {Xt : Shared → Bool} {α : Type} {Yf : Shared → α} {Ya : World → α} {N M n : Nat} {ann : Option Value}
    (open_ : ∀ w : World, (fencedOpening treeTable p w N).map (fun s => (s.heap, s.gens, s.drawn, s.toks)) = some (boot_heap w.params, Array.mk [], boot_drawn, boot_toks))
    (h0 : ∀ P, absHeap (bootT P) n (boot_heap P).life = boot_heap P)
    (size : ∀ P, ((boot_heap P).isNs mainGlobals, (boot_heap P).objs.size, (boot_heap P).nsMap mainGlobals "__annotations__") = (true, n, ann)) (le : Nat.ble M N = true)
    (all : ∀ w, (fun os => (topRunQ p w n ann M (bootS w os n) (topStub p)).map (fun s => (staticsOk (importedModules p.main.body) (boot_heap w.params) s.abs.heap && namesBound p s.abs.heap && gensDone s.abs && laidKept (boot_heap w.params) s.abs.heap,
      PySem.W.Fast.tw4187177175401517315 q loose (importedModules p.main.body) Xt true s.abs, Yf s.abs))) = fun _ => some (true, openGood q loose, Ya w)) : LeftO p q loose Xt Yf Ya N true := fun w => by
  obtain ⟨⟨h, gs, d, k, os⟩, e, e'⟩ := Option.map_eq_some_iff.mp (open_ w)
  obtain ⟨rfl, rfl, rfl, rfl⟩ : h = boot_heap w.params ∧ gs = Array.mk [] ∧ d = boot_drawn ∧ k = boot_toks := by simpa using e'
  obtain ⟨z1, z2, z3⟩ : _ ∧ _ ∧ _ := by simpa only [Prod.mk.injEq] using size w.params
  obtain ⟨s, hs, hl⟩ := Option.map_eq_some_iff.mp (congrFun (all w) os)
  obtain ⟨l1, l2, l3⟩ : _ ∧ _ ∧ _ := by simpa only [Prod.mk.injEq] using hl
  rw [← topRunQ_eq] at hs
  have r := topRun_mono (N - M) _ _ _ _ (topRunT_of hs)
  rw [show M + (N - M) = N by have := Nat.le_of_ble_eq_true le; omega] at r
  have eS : (bootS w os n).abs = ⟨boot_heap w.params, Array.mk [], boot_drawn, boot_toks, os⟩ := by
    show Shared.mk (absHeap (bootT w.params) n (boot_heap w.params).life) _ _ _ _ = _
    rw [h0]
    rfl
  rw [eS] at r
  have t : topFrom treeTable p w N ⟨boot_heap w.params, Array.mk [], boot_drawn, boot_toks, os⟩ = some s.abs := by
    unfold topFrom
    dsimp only
    rw [z1, z2, z3, r]
    show (match staticsOk (importedModules p.main.body) (boot_heap w.params) s.abs.heap && namesBound p s.abs.heap && gensDone s.abs && laidKept (boot_heap w.params) s.abs.heap with | true => _ | false => _) = _
    rw [l1]
  rw [← PySem.W.Fast.te4187177175401517315] at l2
  unfold openEnds
  rw [e]
  show (topFrom treeTable p w N _).map _ = _
  rw [t]
  exact congrArg some (Prod.ext l2 l3)
set_option maxRecDepth 100000 in
theorem boot_abs : ∀ P, absHeap (bootT P) 11 (boot_heap P).life = boot_heap P := fun P => by kernel_rfl
set_option maxRecDepth 100000 in
theorem boot_size : ∀ P, ((boot_heap P).isNs mainGlobals, (boot_heap P).objs.size, (boot_heap P).nsMap mainGlobals "__annotations__") = (true, 11, some (.ref 6)) := fun P => by
  rw [PySem.W.Fast.te8920871248978507458]
  kernel_rfl
theorem boot_pw : ∀ w : World, (fencedOpening treeTable PySem.Challenge.pw_xw0346_01 w 16000).map (fun s => (s.heap, s.gens, s.drawn, s.toks)) = some (boot_heap w.params, Array.mk [], boot_drawn, boot_toks) :=
  boot_open (by kernel_rfl) (by decide) (fun s => by kernel_rfl)
/-- the view: the law's own def alone -/
noncomputable def qv : Program := view PySem.Challenge.pw_xw0346_01 [54]
end Mine
end
section
open PySem PySem.W PyProof.Rows
namespace Mine
local macro_rules | `(tactic| o_head $_) => `(tactic| assumption)
theorem kit (h : PySem.Challenge.rw_xw0346_01.row.Holds) : PySem.Challenge.rw_xw0346_01.row.Holds := by k_head
end Mine
end
section
open PySem PySem.W PySem.Calls PyProof.Rows
namespace Mine
/-- the addresses of the written part -/
def asL : List Nat := [2, 3, 15, 17, 18, 20, 21, 22, 24, 25, 27, 28, 29, 31, 32, 34, 35, 36, 38, 39, 41, 42, 43, 45, 46, 48, 49, 50, 52, 53, 55, 56, 57, 64, 66, 67, 69, 70, 71, 72, 73, 74, 77, 84, 85, 86, 89, 96, 97, 98, 108, 109, 111, 112, 114, 115, 116, 118, 119, 121, 122, 123, 125, 126, 128, 129, 130, 132, 133, 135, 136, 137, 138, 139, 140, 141, 144, 146, 147, 149, 150, 151, 153, 154, 156, 157, 158, 160, 161, 163, 164, 172, 174, 175, 177, 178, 179, 182, 183, 184, 186, 187, 189, 190, 191, 193, 194, 196, 197, 198, 200, 201, 203, 204, 205, 207, 208, 210, 211, 212, 214, 215, 217, 218, 219, 221, 222, 224, 225, 226, 228, 229, 231, 232, 233, 235, 236, 238, 239, 240, 242, 243, 245, 246, 247, 249, 250, 252, 253, 254, 255, 256, 257, 258, 268, 269, 271, 272, 274, 275, 276, 278, 279, 281, 282, 283, 285, 286, 288, 289, 290, 292, 293, 295, 296, 297, 299, 300, 302, 303, 304, 306, 307, 309, 310, 311, 313, 314, 316, 317, 318, 320, 321, 323, 324, 325, 327, 328, 330, 331, 332, 334, 335, 337, 338, 339, 341, 342, 344, 345, 346, 348, 349, 351, 352, 353, 355, 356, 358, 359, 360, 362, 363, 365, 366, 367, 369, 370, 372, 373, 374, 376, 377, 379, 380, 381, 383, 384, 386, 387, 388, 389, 390, 391, 392, 402, 404, 405, 407, 408, 409, 410, 412, 413, 415, 416, 417, 419, 420, 422, 423, 424, 426, 427, 429, 430, 431, 433, 434, 436, 437, 438, 440, 441, 443, 444, 445, 446, 447, 448, 449, 459, 461, 462, 464, 465, 466, 468, 469, 471, 472, 473, 475, 476, 478, 479, 480, 482, 483, 485, 486, 487, 489, 490, 492, 493, 494, 496, 497, 499, 500, 501, 503, 504, 506, 507, 508, 510, 511, 513, 514, 515, 517, 518, 520, 521, 522, 524, 525, 527, 528, 529, 531, 532, 534, 535, 536, 537, 538, 539, 540, 550, 552, 553, 555, 556, 557, 559, 560, 562, 563, 564, 566, 567, 569, 570, 571, 573, 574, 576, 577, 578, 580, 581, 583, 584, 585, 587, 588, 590, 591, 592, 594, 595, 597, 598, 599, 601, 602, 604, 605, 606, 608, 609, 611, 612, 613, 614, 615, 616, 617, 627, 629, 630, 632, 633, 634, 636, 637, 639, 640, 641, 643, 644, 646, 647, 648, 650, 651, 653, 654, 655, 657, 658, 660, 661, 662, 664, 665, 667, 668, 669, 670, 671, 672, 673, 683, 685, 686, 688, 689, 690, 692, 693, 695, 696, 697, 699, 700, 702, 703, 704, 706, 707, 709, 710, 711, 713, 714, 716, 717, 718, 720, 721, 723, 724, 725, 726, 727, 728, 729, 739, 741, 742, 744, 745, 746, 748, 749, 751, 752, 753, 755, 756, 758, 759, 760, 762, 763, 765, 766, 767, 768, 769, 770, 771, 781, 783, 784, 786, 787, 788, 790, 791, 793, 794, 795, 796, 798, 799, 801, 802, 803, 805, 806, 808, 809, 810, 812, 813, 815, 816, 817, 819, 820, 822, 823, 824, 826, 827, 829, 830, 831, 833, 834, 836, 837, 838, 840, 841, 843, 844, 845, 847, 848, 850, 851, 852, 854, 855, 857, 858, 859, 861, 862, 864, 865, 866, 868, 869, 871, 872, 873, 875, 876, 878, 879, 880, 882, 883, 885, 886, 887, 888, 890, 891, 893, 894, 895, 897, 898, 900, 901, 902, 904, 905, 907, 908, 909, 911, 912, 914, 915, 916, 918, 919, 921, 922, 923, 925, 926, 928, 929, 930, 932, 933, 935, 936, 937, 939, 940, 942, 943, 944, 946, 947, 949, 950, 951, 953, 954, 956, 957, 958, 959, 960, 961, 962, 972, 973, 976, 977, 978, 980, 981, 983, 984, 985, 987, 988, 990, 991, 992, 994, 995, 997, 998, 999, 1001, 1002, 1004, 1005, 1006, 1008, 1009, 1011, 1012, 1013, 1016, 1017, 1018, 1020, 1021, 1023, 1024, 1025, 1026, 1027, 1028, 1029, 1039, 1041, 1042, 1044, 1045, 1046, 1047, 1048, 1049, 1050, 1053, 1055, 1056, 1058, 1059, 1067, 1069, 1070, 1072, 1073, 1074, 1076, 1077, 1079, 1080, 1081, 1082, 1084, 1085, 1087, 1088, 1089, 1090, 1091, 1092, 1093, 1096, 1098, 1099, 1101, 1102, 1103, 1105, 1106, 1108, 1109, 1110, 1112, 1113, 1115, 1116, 1117, 1119, 1120, 1122, 1123, 1124, 1126, 1127, 1129, 1130, 1131, 1133, 1134, 1136, 1137]
set_option maxRecDepth 100000 in
theorem asL_eq : ∀ P, asL = (Mine.kit.heap_1 P).map (·.1) := fun P => by kernel_rfl
noncomputable def lsv : List PySem.Str := [PySem.Str.ofString "_wall", PySem.Str.ofString "plus", PySem.Str.ofString "distance", PySem.Str.ofString "is_before", PySem.Str.ofString "is_at_most", PySem.Str.ofString "latest", PySem.Str.ofString "StackError", PySem.Str.ofString "SizeError", PySem.Str.ofString "StateError", PySem.Str.ofString "SYN", PySem.Str.ofString "ACK", PySem.Str.ofString "Segment", PySem.Str.ofString "CLOSED", PySem.Str.ofString "LISTEN", PySem.Str.ofString "SYN_SENT", PySem.Str.ofString "SYN_RECEIVED", PySem.Str.ofString "is_synchronized", PySem.Str.ofString "is_old_acknowledgement", PySem.Str.ofString "is_too_far", PySem.Str.ofString "Assembly", PySem.Str.ofString "Receiver", PySem.Str.ofString "AckPolicy", PySem.Str.ofString "Congestion", PySem.Str.ofString "MOST_SHIFT", PySem.Str.ofString "RetransmitClock", PySem.Str.ofString "RttEstimate", PySem.Str.ofString "SendQueue", PySem.Str.ofString "PeerWindow", PySem.Str.ofString "Sender", PySem.Str.ofString "Wheel", PySem.Str.ofString "Limits", PySem.Str.ofString "clock_of", PySem.Str.ofString "Tcb", PySem.Str.ofString "_law_pool", PySem.Str.ofString "_law_take", PySem.Str.ofString "_law_one", PySem.Str.ofString "_law_end", PySem.Str.ofString "_law_row_right"]
theorem look_tree {s : SharedT} : ∀ (l : List Nat) (ys : List (Addr × Obj)), (l.map fun a => (s.tree.get a).bind alive) = (ys.map fun p => some p.2) → (l.all fun a => Nat.blt a s.n) = true → l.map s.abs.heap.get? = ys.map fun p => some p.2
  | [], [], _, _ => rfl
  | [], _ :: _, h, _ => by cases h
  | _ :: _, [], h, _ => by cases h
  | a :: l, y :: ys, h, hb => by
    simp only [List.map_cons, List.cons.injEq] at h
    simp only [List.all_cons, Bool.and_eq_true] at hb
    obtain ⟨h1, h2⟩ := h
    have e : s.abs.heap.get? a = some y.2 := by
      obtain ⟨o, g, ha⟩ := Option.bind_eq_some_iff.mp h1
      exact (abs_get (Nat.le_of_ble_eq_true hb.1) g).trans ha
    rw [List.map_cons, List.map_cons, e, look_tree l ys h2 hb.2]
theorem lookA : ∀ w : World, (fun os => (topRunQ PySem.Challenge.pw_xw0346_01 w 11 (some (.ref 6)) 7700 (bootS w os 11) (topStub PySem.Challenge.pw_xw0346_01)).map (fun s => (staticsOk (importedModules PySem.Challenge.pw_xw0346_01.main.body) (boot_heap w.params) s.abs.heap && namesBound PySem.Challenge.pw_xw0346_01 s.abs.heap && gensDone s.abs && laidKept (boot_heap w.params) s.abs.heap,
    (asL.all fun a => Nat.blt a s.n, asL.map fun a => (s.tree.get a).bind alive)))) = fun _ => some (true, (true, (Mine.kit.heap_1 w.params).map fun p => some p.2)) := fun w => by kernel_rfl
theorem lookB : ∀ w : World, (fun os => (topRunQ PySem.Challenge.pw_xw0346_01 w 11 (some (.ref 6)) 7700 (bootS w os 11) (topStub PySem.Challenge.pw_xw0346_01)).map (fun s => PySem.W.Fast.tw4187177175401517315 qv lsv (importedModules PySem.Challenge.pw_xw0346_01.main.body) (fun s => xlAt qv [] s && recOk [] s) true s.abs)) = fun _ => some (openGood qv lsv) := fun w => by kernel_rfl
theorem left39 : LeftO PySem.Challenge.pw_xw0346_01 qv lsv (fun s => xlAt qv [] s && recOk [] s) (Hook.obs (kHook Mine.kit.heap_1 asL asL_eq)) (Hook.val (kHook Mine.kit.heap_1 asL asL_eq)) 16000 true := by
  refine left_of_run (M := 7700) boot_pw boot_abs boot_size (by decide) (fun w => ?_)
  funext os
  obtain ⟨s, hs, hl⟩ := Option.map_eq_some_iff.mp (congrFun (lookA w) os)
  obtain ⟨s', hs', hb⟩ := Option.map_eq_some_iff.mp (congrFun (lookB w) os)
  rw [hs] at hs'
  obtain rfl : s = s' := Option.some.inj hs'
  obtain ⟨l1, l2, l3⟩ : _ ∧ _ ∧ _ := by simpa only [Prod.mk.injEq] using hl
  rw [hs]
  refine congrArg some (Prod.ext l1 (Prod.ext hb ?_))
  exact look_tree asL _ l3 l2
end Mine
end
section
open PySem PySem.W PyProof.Rows
namespace Mine
set_option maxRecDepth 100000 in
theorem said : PySem.Challenge.rw_xw0346_01.wellSaid = true := by
  rw [PySem.W.Fast.te9446332074065402090]
  kernel_rfl
end Mine
end
section
open PySem PySem.W PyProof.Rows
namespace Mine
local macro_rules | `(tactic| o_law) => `(tactic| refine PySem.W.holds_law Mine.said fun said => ?_)
local macro_rules | `(tactic| k_head) => `(tactic| (
  refine Mine.holds_openN (q := Mine.qv) (loose := Mine.lsv) (Xt := fun s => PySem.W.xlAt Mine.qv [] s && PySem.W.recOk [] s) (XP := PySem.W.XL Mine.qv []) (Yf := PySem.W.Hook.obs (PySem.W.kHook Mine.kit.heap_1 Mine.asL Mine.asL_eq)) (Ya := PySem.W.Hook.val (PySem.W.kHook Mine.kit.heap_1 Mine.asL Mine.asL_eq)) (YP := PySem.W.Hook.says (PySem.W.kHook Mine.kit.heap_1 Mine.asL Mine.asL_eq)) (N := 16000) Mine.left39 (PySem.W.Hook.of _) (PySem.W.Hook.keeps _) (fun s e => PySem.W.xl_of s (Bool.and_eq_true_iff.mp e).1) PySem.W.XL.keeps (by rfl) (by rfl) (by rfl) (fun s e => PySem.W.recFacts_of (Bool.and_eq_true_iff.mp e).2) (by rfl) (by assumption) (by decide +kernel) ⟨rfl, rfl, rfl, rfl, rfl, by decide +kernel⟩ ?hw ?hc))
set_option maxRecDepth 100000 in
set_option maxHeartbeats 8000000 in
open_top hd for PySem.Challenge.rw_xw0346_01
end Mine
end
section
open PySem PySem.W PyProof.Rows
namespace Mine
noncomputable abbrev P0 : PySem.Program := PySem.Challenge.rw_xw0346_01.row.prog
noncomputable abbrev loose0 : List PySem.Str := looseW qv lsv
theorem fmod_lo (z : Int) : 0 ≤ Int.fmod z 2147483647 := by rw [Int.fmod_eq_emod_of_nonneg _ (by decide)]; omega
theorem fmod_hi (z : Int) : Int.fmod z 2147483647 < 2147483647 := by rw [Int.fmod_eq_emod_of_nonneg _ (by decide)]; omega
theorem mulok_fmod (z b : Int) : PySem.IntMulOk (Int.fmod z 2147483647) b := by
  have h1 := fmod_lo z
  have h2 := fmod_hi z
  exact PySem.IntMulOk.of_left (PySem.intBits_le_64 (by omega) (by omega))
theorem getD0 (a b d : Int) : [a, b].getD (Int.toNat 0) d = a := rfl
theorem getD1 (a b d : Int) : [a, b].getD (Int.toNat 1) d = b := rfl
local macro_rules | `(tactic| k_all) => `(tactic| assumption)
set_option maxRecDepth 100000 in
set_option maxHeartbeats 1000000 in
theorem take_ok {w : World} {mean : PySem.ExcName → Option Value} {mg mb : PySem.Str → Option Value} {dp un : Nat} {gd : Option (List PySem.Code)} {cn : PySem.Str} {cs : PySem.Scope} {a : PySem.Addr} {ccd : Value} {cl : List (PySem.Str × PySem.Addr)} {outer : List PySem.Env} {A₀ : PySem.Around} {base h₀ : PySem.Heap}
    {L : PySem.Addr} {m : PySem.Str → Option Value} {s : PySem.Shared} {l : PySem.Addr} {x y top : Int} {t1 t2 t3 : PySem.Tok} {n : Nat} {rest : List (PySem.Addr × PySem.Obj)} {Q E : Value → PySem.Shared → Prop}
    (B : Below A₀ base outer h₀) (F : Fr h₀ L s.heap m) (X : (kit.heap_1 w.params).In h₀) (N : News h₀ L s.heap ((l, listOf #[.int x t1, .int y t2] n) :: rest)) (T : Top qv loose0 mean mg mb h₀)
    (hk : cs.kind = .function) (hrest : ∀ p ∈ rest, p.1 ≠ l) (hx0 : 0 ≤ x) (hy0 : 0 ≤ y) (hy : y < 2147483647) (htop0 : 0 < top) (hpl : ∀ z, PySem.Builtin.divisionGoesByPylong z top = false) (hd0 : dp + 1 < recursionLimit)
    (hret : ∀ (d x' y' : Int) (t t1' t2' : PySem.Tok) (h' : PySem.Heap) (tk' : Nat), 0 ≤ d → d < top → 0 ≤ x' → 0 ≤ y' → y' < 2147483647 → Fr h₀ L h' m → News h₀ L h' ((l, listOf #[.int x' t1', .int y' t2'] n) :: rest) → Q (.int d t) { s with heap := h', toks := tk' }) :
    wpAny (model P0 w) (ktrTop dp un gd cn cs L a ccd cl outer) (call (.ref 1109) [.ref l, .int top t3]) Q E s := by
  have hfill : PySem.Challenge.rw_xw0346_01 = PySem.Challenge.rw_xw0346_01 ∧ kit.heap_1 = kit.heap_1 := by
    k_fill
    exact ⟨rfl, rfl⟩
  clear hfill
  refine wpAny_call ?_
  k_dflt cell_enter
  k_steps
  · refine floordiv_int (Int.ne_of_gt htop0) ?_ (Or.inl (hpl _))
    (try dsimp only)
    k_steps
    exact hret _ _ _ _ _ _ _ _ (Int.fmod_nonneg_of_pos _ htop0) (Int.fmod_lt_of_pos _ htop0) (Int.fdiv_nonneg hx0 (Int.le_of_lt htop0)) hy0 hy (by k_asm) (by k_asm)
  · simp only [getD1]
    refine mul_int ?_ (mulok_fmod _ _)
    (try dsimp only)
    k_steps
    exact hret _ _ _ _ _ _ _ _ (Int.fmod_nonneg_of_pos _ htop0) (Int.fmod_lt_of_pos _ htop0) hx0 (fmod_lo _) (fmod_hi _) (by k_asm) (by k_asm)
end Mine
end
section
open PySem PySem.W PyProof.Rows
namespace Mine
theorem getD_mem {ns : List Int} {d : Int} (h0 : 0 ≤ d) (h1 : d < (ns.length : Int)) : ns.getD d.toNat 0 ∈ ns := by
  have h : d.toNat < ns.length := by omega
  rw [List.getD_eq_getElem?_getD, List.getElem?_eq_getElem h]
  exact List.getElem_mem h
local macro_rules | `(tactic| k_all) => `(tactic| assumption)
set_option maxRecDepth 100000 in
set_option maxHeartbeats 1000000 in
theorem one_ok {w : World} {mean : PySem.ExcName → Option Value} {mg mb : PySem.Str → Option Value} {dp un : Nat} {gd : Option (List PySem.Code)} {cn : PySem.Str} {cs : PySem.Scope} {a : PySem.Addr} {ccd : Value} {cl : List (PySem.Str × PySem.Addr)} {outer : List PySem.Env} {A₀ : PySem.Around} {base h₀ : PySem.Heap}
    {L : PySem.Addr} {m : PySem.Str → Option Value} {s : PySem.Shared} {l tl : PySem.Addr} {x y : Int} {vs : List Value} {ns : List Int} {t1 t2 : PySem.Tok} {n nn : Nat} {rest : List (PySem.Addr × PySem.Obj)} {Q E : Value → PySem.Shared → Prop}
    (B : Below A₀ base outer h₀) (F : Fr h₀ L s.heap m) (X : (kit.heap_1 w.params).In h₀) (N : News h₀ L s.heap ((l, listOf #[.int x t1, .int y t2] n) :: (tl, listOf vs.toArray nn) :: rest)) (T : Top qv loose0 mean mg mb h₀)
    (hk : cs.kind = .function) (hrest : ∀ p ∈ (tl, listOf vs.toArray nn) :: rest, p.1 ≠ l) (hi : IntsAre vs ns) (hn0 : 0 < ns.length) (hn1 : ns.length < 100) (hx0 : 0 ≤ x) (hy0 : 0 ≤ y) (hy : y < 2147483647) (hd0 : dp + 3 < recursionLimit)
    (hret : ∀ (d x' y' : Int) (t t1' t2' : PySem.Tok) (h' : PySem.Heap) (tk' : Nat), d ∈ ns → 0 ≤ x' → 0 ≤ y' → y' < 2147483647 → Fr h₀ L h' m → News h₀ L h' ((l, listOf #[.int x' t1', .int y' t2'] n) :: (tl, listOf vs.toArray nn) :: rest) → Q (.int d t) { s with heap := h', toks := tk' }) :
    wpAny (model P0 w) (ktrTop dp un gd cn cs L a ccd cl outer) (call (.ref 1116) [.ref l, .ref tl]) Q E s := by
  have hfill : PySem.Challenge.rw_xw0346_01 = PySem.Challenge.rw_xw0346_01 ∧ kit.heap_1 = kit.heap_1 := by
    k_fill
    exact ⟨rfl, rfl⟩
  clear hfill
  refine wpAny_call ?_
  k_dflt cell_enter
  k_steps
  refine' take_ok (B := ?k1) (F := ?k2) (X := ?k3) (N := ?k4) (T := ?k5) (hk := ?k6) (hrest := ?k7) (hx0 := hx0) (hy0 := hy0) (hy := hy) (htop0 := ?k8) (hpl := ?k9) (hd0 := ?kd) (hret := ?kR)
  case k1 => k_asm
  case k2 => k_asm
  case k3 => k_asm
  case k4 => k_asm
  case k5 => k_asm
  case k6 => exact rfl
  case k7 => exact hrest
  case k8 => omega
  case k9 => exact fun z => PyProof.noPylong_small (by omega)
  case kd => ktr_room
  intro d x' y' t t1' t2' h' tk' hd0' hd1 hx0' hy0' hy' F1 N1
  (try dsimp only)
  (try k_fold)
  k_steps
  exact hret _ _ _ _ _ _ _ _ (getD_mem hd0' hd1) hx0' hy0' hy' (by k_asm) (by k_asm)
end Mine
end
section
open PySem PySem.W PyProof.Rows
namespace Mine
/-- one entry of a ledger, and the others -/
inductive Pick (p : PySem.Addr × PySem.Obj) : List (PySem.Addr × PySem.Obj) → List (PySem.Addr × PySem.Obj) → Prop
  | head {r} : Pick p (p :: r) r
  | tail {q r r'} : Pick p r r' → Pick p (q :: r) (q :: r')
theorem Pick.mem {p : PySem.Addr × PySem.Obj} : ∀ {news rest : List (PySem.Addr × PySem.Obj)}, Pick p news rest → ∀ q ∈ p :: rest, q ∈ news
  | _, _, .head, _, h => h
  | _, _, .tail t, q, h => by
    rcases List.mem_cons.mp h with rfl | h
    · exact .tail _ (t.mem _ (.head _))
    · rcases List.mem_cons.mp h with rfl | h
      · exact .head _
      · exact .tail _ (t.mem _ (.tail _ h))
theorem Pick.news {h₀ h : PySem.Heap} {L : PySem.Addr} {p : PySem.Addr × PySem.Obj} {news rest : List (PySem.Addr × PySem.Obj)} (P : Pick p news rest) (N : News h₀ L h news) : News h₀ L h (p :: rest) := fun q hq => N q (P.mem q hq)
theorem take_call {w : World} {mean : PySem.ExcName → Option Value} {mg mb : PySem.Str → Option Value} {dp un : Nat} {gd : Option (List PySem.Code)} {cn : PySem.Str} {cs : PySem.Scope} {a : PySem.Addr} {ccd : Value} {cl : List (PySem.Str × PySem.Addr)} {outer : List PySem.Env} {A₀ : PySem.Around} {base h₀ : PySem.Heap}
    {L : PySem.Addr} {m : PySem.Str → Option Value} {s : PySem.Shared} {l : PySem.Addr} {x y top : Int} {t1 t2 t3 : PySem.Tok} {n : Nat} {news rest : List (PySem.Addr × PySem.Obj)} {Q E : Value → PySem.Shared → Prop}
    (B : Below A₀ base outer h₀) (F : Fr h₀ L s.heap m) (X : (kit.heap_1 w.params).In h₀) (N : News h₀ L s.heap news) (P : Pick (l, listOf #[.int x t1, .int y t2] n) news rest) (T : Top qv loose0 mean mg mb h₀)
    (hk : cs.kind = .function) (hrest : ∀ p ∈ rest, p.1 ≠ l) (hx0 : 0 ≤ x) (hy0 : 0 ≤ y) (hy : y < 2147483647) (htop0 : 0 < top) (hpl : ∀ z, PySem.Builtin.divisionGoesByPylong z top = false) (hd0 : dp + 1 < recursionLimit)
    (hret : ∀ (d x' y' : Int) (t t1' t2' : PySem.Tok) (h' : PySem.Heap) (tk' : Nat), 0 ≤ d → d < top → 0 ≤ x' → 0 ≤ y' → y' < 2147483647 → Fr h₀ L h' m → News h₀ L h' ((l, listOf #[.int x' t1', .int y' t2'] n) :: rest) → Q (.int d t) { s with heap := h', toks := tk' }) :
    wpAny (model P0 w) (ktrTop dp un gd cn cs L a ccd cl outer) (call (.ref 1109) [.ref l, .int top t3]) Q E s :=
  take_ok B F X (P.news N) T hk hrest hx0 hy0 hy htop0 hpl hd0 hret
theorem one_call {w : World} {mean : PySem.ExcName → Option Value} {mg mb : PySem.Str → Option Value} {dp un : Nat} {gd : Option (List PySem.Code)} {cn : PySem.Str} {cs : PySem.Scope} {a : PySem.Addr} {ccd : Value} {cl : List (PySem.Str × PySem.Addr)} {outer : List PySem.Env} {A₀ : PySem.Around} {base h₀ : PySem.Heap}
    {L : PySem.Addr} {m : PySem.Str → Option Value} {s : PySem.Shared} {l tl : PySem.Addr} {x y : Int} {vs : List Value} {ns : List Int} {t1 t2 : PySem.Tok} {n nn : Nat} {news news' rest : List (PySem.Addr × PySem.Obj)} {Q E : Value → PySem.Shared → Prop}
    (B : Below A₀ base outer h₀) (F : Fr h₀ L s.heap m) (X : (kit.heap_1 w.params).In h₀) (N : News h₀ L s.heap news) (P : Pick (tl, listOf vs.toArray nn) news news') (P' : Pick (l, listOf #[.int x t1, .int y t2] n) news' rest) (T : Top qv loose0 mean mg mb h₀)
    (hk : cs.kind = .function) (hne : tl ≠ l) (hrest : ∀ p ∈ rest, p.1 ≠ l) (hi : IntsAre vs ns) (hn0 : 0 < ns.length) (hn1 : ns.length < 100) (hx0 : 0 ≤ x) (hy0 : 0 ≤ y) (hy : y < 2147483647) (hd0 : dp + 3 < recursionLimit)
    (hret : ∀ (d x' y' : Int) (t t1' t2' : PySem.Tok) (h' : PySem.Heap) (tk' : Nat), d ∈ ns → 0 ≤ x' → 0 ≤ y' → y' < 2147483647 → Fr h₀ L h' m → News h₀ L h' ((l, listOf #[.int x' t1', .int y' t2'] n) :: rest) → Q (.int d t) { s with heap := h', toks := tk' }) :
    wpAny (model P0 w) (ktrTop dp un gd cn cs L a ccd cl outer) (call (.ref 1116) [.ref l, .ref tl]) Q E s := by
  refine one_ok (rest := rest) (n := n) (nn := nn) (t1 := t1) (t2 := t2) B F X (fun q hq => N q ?_) T hk (fun p hp => ?_) hi hn0 hn1 hx0 hy0 hy hd0 fun d x' y' t t1' t2' h' tk' h1 h2 h3 h4 F' N' => hret d x' y' t t1' t2' h' tk' h1 h2 h3 h4 F' fun q hq => N' q ?_
  · rcases List.mem_cons.mp hq with rfl | hq
    · exact P.mem _ (.tail _ (P'.mem _ (.head _)))
    · rcases List.mem_cons.mp hq with rfl | hq
      · exact P.mem _ (.head _)
      · exact P.mem _ (.tail _ (P'.mem _ (.tail _ hq)))
  · rcases List.mem_cons.mp hp with rfl | hp
    · exact hne
    · exact hrest _ hp
  · rcases List.mem_cons.mp hq with rfl | hq
    · exact .head _
    · exact .tail _ (.tail _ hq)
end Mine
end
section
open PySem PySem.W PyProof.Rows
namespace Mine
def PoolEnd (h₀ : PySem.Heap) (L : PySem.Addr) (m : PySem.Str → Option Value) (s : PySem.Shared) (v : Value) (s₂ : PySem.Shared) : Prop :=
  ∃ (b : PySem.Addr) (x y : Int) (t1 t2 : PySem.Tok) (n : Nat) (h' : PySem.Heap) (tk' : Nat), v = .ref b ∧ s₂ = { s with heap := h', toks := tk' } ∧ 0 ≤ x ∧ 0 ≤ y ∧ y < 2147483647 ∧ Fr h₀ L h' m ∧ News h₀ L h' [(b, listOf #[.int x t1, .int y t2] n)]
theorem PoolEnd.intro {h₀ : PySem.Heap} {L : PySem.Addr} {m : PySem.Str → Option Value} {s s₂ : PySem.Shared} {b : PySem.Addr} {x y : Int} {t1 t2 : PySem.Tok} {n : Nat} {h' : PySem.Heap} {tk' : Nat} {news : List (PySem.Addr × PySem.Obj)}
    (F : Fr h₀ L h' m) (N : News h₀ L h' news) (hs : s₂ = { s with heap := h', toks := tk' }) (hm : (b, listOf #[.int x t1, .int y t2] n) ∈ news) (hx : 0 ≤ x) (hy0 : 0 ≤ y) (hy : y < 2147483647) : PoolEnd h₀ L m s (.ref b) s₂ :=
  ⟨b, x, y, t1, t2, n, h', tk', rfl, hs, hx, hy0, hy, F, fun p hp => by rw [List.mem_singleton.mp hp]; exact N _ hm⟩
theorem pool_join {M : PySem.Model} {A : PySem.Around} {E : Value → PySem.Shared → Prop} {Q : Value → PySem.Shared → Prop} {s : PySem.Shared} {h₀ : PySem.Heap} {L : PySem.Addr} {m : PySem.Str → Option Value} {c : PySem.Sem Value}
    (_F : Fr h₀ L s.heap m) (hc : ∀ _u : Unit, PySem.wpAny M A c (fun v s₂ => PoolEnd h₀ L m s v s₂) E s)
    (hk : ∀ (b : PySem.Addr) (x y : Int) (t1 t2 : PySem.Tok) (n : Nat) (h' : PySem.Heap) (tk' : Nat), 0 ≤ x → 0 ≤ y → y < 2147483647 → Fr h₀ L h' m → News h₀ L h' [(b, listOf #[.int x t1, .int y t2] n)] → Q (.ref b) { s with heap := h', toks := tk' }) : PySem.wpAny M A c Q E s := by
  refine PySem.wpAny_mono (hc ()) (fun v s₂ hq => ?_) fun _ _ h => h
  obtain ⟨b, x, y, t1, t2, n, h', tk', rfl, rfl, hx, hy0, hy, F, N⟩ := hq
  exact hk b x y t1 t2 n h' tk' hx hy0 hy F N
theorem great_nonneg (k : Int) (b : Int) (hb : 0 ≤ b) : 0 ≤ (if -1 - k > k then -1 - k else k) * b := by
  refine Int.mul_nonneg ?_ hb
  split <;> omega
end Mine
end
section
open PySem PySem.W PyProof.Rows
set_option maxRecDepth 100000
namespace Mine
/-- a comprehension whose element is a new empty list: what it holds is not kept -/
theorem comp_lists {prog : PySem.Program} {w : World} {A : PySem.Around} {h₀ : PySem.Heap} {L : PySem.Addr} {m : PySem.Str → Option Value} {env : PySem.Env} {pos : PySem.Pos} {x : PySem.Str} {scope : PySem.Scope} {cl : List (PySem.Str × PySem.Addr)} {s : PySem.Shared} {S : List (PySem.Addr × PySem.Obj) → Prop} {P : Nat → Value → Prop} {Fin : List Value → List (PySem.Addr × PySem.Obj) → Prop} {news : List (PySem.Addr × PySem.Obj)} {n : Nat}
    (hS : S news) (fin : ∀ ys, ys.length = n → Fin ys news) : LCg.CompRest prog w A h₀ L m env (.List [] pos) x scope cl s S P Fin n 0 [] news := by
  have key : ∀ (j i : Nat) (ys : List Value), i + j = n → ys.length = i → LCg.CompRest prog w A h₀ L m env (.List [] pos) x scope cl s S P Fin j i ys news := by
    intro j
    induction j with
    | zero =>
      intro i ys hi hy
      exact LCg.CompRest.zero (fin ys (by omega))
    | succ j ih =>
      intro i ys hi hy
      refine LCg.CompRest.succ ?_
      intro v I oI C oC D m₂ h tk E' hv hC hx F N off ne
      refine List_ (spliced_none (newList_N F N (fun h' F' N' => ?_)))
      exact LCg.CompEnd.intro (tk := tk) F' N' news (fun q hq => List.mem_cons_of_mem _ hq) off hS (ih (i + 1) _ (by omega) (by simp [hy]))
  exact key n 0 [] (by omega) rfl
end Mine
end
section
open PySem PySem.W PyProof.Rows
set_option maxRecDepth 100000
namespace Mine
/-- every object of the first heap stands in the second as it was -/
def Keep (h h' : PySem.Heap) : Prop := ∀ b o, h.get? b = some o → h'.get? b = some o
theorem Keep.fr {h₀ h h' : PySem.Heap} {L : PySem.Addr} {m : PySem.Str → Option Value} (k : Keep h h') (F : Fr h₀ L h m) : Fr h₀ L h' m := by
  obtain ⟨⟨oL, es, ep, hL, r⟩, hk, ha⟩ := F
  exact ⟨⟨oL, es, ep, k _ _ hL, r⟩, fun b o e => k _ _ (hk b o e), ha⟩
theorem Keep.news {h₀ h h' : PySem.Heap} {L : PySem.Addr} {news : List (PySem.Addr × PySem.Obj)} (k : Keep h h') (N : News h₀ L h news) : News h₀ L h' news := fun p hp => ⟨k _ _ (N p hp).1, (N p hp).2⟩
section
variable {prog : PySem.Program} {w : World} {A A₀ : PySem.Around} {E : Value → PySem.Shared → Prop} {s : PySem.Shared} {K : Frag} {C L : PySem.Addr} {h₀ base : PySem.Heap} {m mg mb : PySem.Str → Option Value} {p : PySem.Program} {loose : List PySem.Str} {mean : PySem.ExcName → Option Value}
/-- a class is called, and nothing of what was is changed: it is enough to walk its __init__ over its own two objects -/
theorem pure_cls {env : PySem.Env} {outer : List PySem.Env} {Q : Value → PySem.Shared → Prop} {pos : List Value} {fI : PySem.Addr} {name qual : PySem.Str} {params : PySem.Arguments} {body : List PySem.Stmt} {scope : PySem.Scope} {dV kV doc pm cdv ct oc : Value} {an od : Option PySem.Addr} {osl : Array (Option Value)} {binds : PySem.Addr → List (PySem.Str × Value)}
    (B : Below A₀ base outer h₀) (F : Fr h₀ L s.heap m) (X₀ : K.In h₀) (T : Top p loose mean mg mb h₀) (hA : A.frames = some (env :: outer)) (hf : env.frame = some L) (hke : env.scope.kind = .function)
    (hm : makesIn K C = true) (hi : findIn K (.ref C) "__init__" = some (some (.ref fI))) (hfn : isFn K (.ref fI) = true)
    (ho : K.lookup fI = some ⟨oc, od, .func (fnOf name qual params body scope dV kV doc pm an cdv ct), osl⟩) (hcd : codeIn K cdv qual = true) (hroom : (A.under (.builtin "type.__call__" ⟨.ref C :: pos, []⟩)).depth < PySem.recursionLimit)
    (hbind : ∀ x s', K.In s'.heap → PySem.BindsTo s' (fnOf name qual params body scope dV kV doc pm an cdv ct) ⟨.ref x :: pos, []⟩ (binds x)) (hloc : ∀ x, ∀ y ∈ binds x, scope.names.lookup y.1 = some .local)
    (h : ∀ x dx g L' h₁, dx < x → Fr h₀ L g m → Fr g L' h₁ (fun y => (binds x).reverse.lookup y) → News g L' h₁ [(x, instObj C dx), (dx, dictOf [] 0)] → Below (A.under (.builtin "type.__call__" ⟨.ref C :: pos, []⟩)) base (env :: outer) g → K.In g → Top p loose mean mg mb g →
      PySem.wpAny (PySem.model prog w) ((A.under (.builtin "type.__call__" ⟨.ref C :: pos, []⟩)).deeper (envOf qual scope L' fI cdv)) (PySem.execs body (envOf qual scope L' fI cdv))
        (fun fl s' => LeaveK h₀ L m g (fun r s' => match r with | .ok (.ret v) => v = .none ∧ (Keep g s'.heap → ∃ h' tk', s' = { s with heap := h', toks := tk' }) | _ => False) (match fl with | .ret v => v | _ => .none) s')
        (fun _ _ => False)
        { s with heap := h₁, toks := s.toks + (binds x).length })
    (hco : scope.isCoroutine = false) (hgen : scope.isGenerator = false) (hk : scope.kind = .function) (hcell : ∀ x ∈ scope.names, x.2 ≠ .cell)
    (hret : ∀ x h' tk', Keep s.heap h' → Q (.ref x) { s with heap := h', toks := tk' }) :
    PySem.wpAny (PySem.model prog w) A (PySem.call (.ref C) pos []) Q E s := by
  refine PySem.wpAny_call ?_
  have X := X₀.keeps F.keep
  obtain ⟨hh, gs, d, t, os⟩ := s
  have N := (News.nil (h₀ := h₀) (L := L) (h := hh))
  have F₂ : Fr h₀ L ((hh.push emptyDict).push (instObj C hh.objs.size)) m := (F.push _).push _
  have N₂ : News h₀ L ((hh.push emptyDict).push (instObj C hh.objs.size)) [(hh.objs.size + 1, instObj C hh.objs.size), (hh.objs.size, dictOf [] 0)] := by
    have := (N.push F emptyDict).push (F.push _) (instObj C hh.objs.size)
    rwa [PySem.Heap.size_push] at this
  refine make_core (makes_of X hm) (looks_findIn X hi) (fun self => bind_fn X self (beq_iff_eq.mp hfn)) (.inl rfl) ?_
  have hAu : (A.under (.builtin "type.__call__" ⟨.ref C :: pos, []⟩)).frames = some (env :: outer) := by
    show PySem.pushEnvs (PySem.Code.builtin "type.__call__" ⟨.ref C :: pos, []⟩).envs A.frames = some (env :: outer)
    exact hA
  obtain ⟨FG, BG, st, lv⟩ := groundX (R := fun r s' => match r with | .ok (.ret v) => v = .none ∧ (Keep (hideAll ((hh.push emptyDict).push (instObj C hh.objs.size)) [hh.objs.size + 1, hh.objs.size]) s'.heap → ∃ h' tk', s' = { (⟨hh, gs, d, t, os⟩ : PySem.Shared) with heap := h', toks := tk' }) | _ => False)
    (s := ⟨(hh.push emptyDict).push (instObj C hh.objs.size), gs, d, t, os⟩) B F₂ N₂ hAu hf hke
  have X₂ := X₀.keeps F₂.keep
  refine PySem.codeAny_call_def (fd := fnOf name qual params body scope dV kV doc pm an cdv ct) (body := body) (binds := binds (hh.objs.size + 1)) hroom (X₂ _ _ ho) rfl (T.nolimit.keeps F₂.keep) (codeRec_of X₂ hcd) rfl (hbind _ _ X₂) hcell (hloc _) (fun h₁ hns hk₁ => ?_) hco hgen hk
  refine PySem.wpAny_mono (h (hh.objs.size + 1) hh.objs.size _ _ h₁ (Nat.lt_succ_self _) FG ⟨hns, fun b o e => hk₁ b o (of_hideAll _ e), Nat.le_of_eq (hideAll_size _ _)⟩
    (fun q hq => ⟨hk₁ _ _ (N₂ q hq).1, Nat.ne_of_lt (PySem.Heap.lt_size (N₂ q hq).1), hideAll_none _ (List.mem_map_of_mem hq)⟩) BG (X₀.keeps st) (T.keeps st)) (fun fl s' hl => ?_) fun _ _ y => y.elim
  have r := lv _ _ hl
  obtain ⟨L', m', news', F', _, _⟩ := hl
  obtain ⟨hv, hs⟩ := r
  obtain ⟨h', tk', rfl⟩ := hs F'.keep
  refine ⟨hv, hret _ _ _ fun b o e => F'.keep b o ?_⟩
  have hb := PySem.Heap.lt_size e
  refine hideAll_get _ (PySem.Heap.get?_push_of_some _ (PySem.Heap.get?_push_of_some _ e)) fun hm' => ?_
  simp only [List.map_cons, List.map_nil, List.mem_cons, List.not_mem_nil, or_false] at hm'
  rcases hm' with rfl | rfl
  · exact Nat.lt_irrefl _ (Nat.lt_of_lt_of_le hb (Nat.le_succ _))
  · exact Nat.lt_irrefl _ hb
end
end Mine
end
section
open PySem PySem.W PyProof.Rows
namespace Mine
local macro_rules | `(tactic| k_mem) => `(tactic| first | exact Mine.Pick.head | (refine' Mine.Pick.tail ?_; k_mem))
local macro_rules | `(tactic| walk_at "CompSrc") => `(tactic| (k_here; k_dflt (refine LCg.CompSrc.range (by rfl) (by k_asm) (by k_asm) (by assumption) (by decide) (by first | rfl | exact rangeSize_nat _ _) (by first | exact Nat.le_of_ble_eq_true rfl | decide) ?_; intro g'; refine' Mine.comp_lists trivial (fun ys9 hys9 => ?_))))
set_option maxRecDepth 100000 in
set_option maxHeartbeats 2000000 in
theorem peer_ok {w : World} {mean : PySem.ExcName → Option Value} {mg mb : PySem.Str → Option Value} {dp un : Nat} {gd : Option (List PySem.Code)} {cn : PySem.Str} {cs : PySem.Scope} {a : PySem.Addr} {ccd : Value} {cl : List (PySem.Str × PySem.Addr)} {outer : List PySem.Env} {A₀ : PySem.Around} {base h₀ : PySem.Heap} {L : PySem.Addr} {m : PySem.Str → Option Value} {s : PySem.Shared} {Q E : Value → PySem.Shared → Prop} {a₁ : Int} {u₁ : PySem.Tok}
    (B : Below A₀ base outer h₀) (F : Fr h₀ L s.heap m) (X : (kit.heap_1 w.params).In h₀) (T : Top qv loose0 mean mg mb h₀) (hk : cs.kind = .function) (hd0 : dp + 5 < recursionLimit)
    (hret : ∀ x h' tk', Keep s.heap h' → Q (.ref x) { s with heap := h', toks := tk' }) :
    wpAny (model P0 w) (ktrTop dp un gd cn cs L a ccd cl outer) (PySem.call (.ref 769) [.int a₁ u₁] []) Q E s := by
  have hfill : PySem.Challenge.rw_xw0346_01 = PySem.Challenge.rw_xw0346_01 ∧ kit.heap_1 = kit.heap_1 := by
    k_fill
    exact ⟨rfl, rfl⟩
  clear hfill
  k_dflt (refine' pure_cls B F X T ?hA ?hf ?hke ?k6 ?k7 ?k8 ?k9 ?kc ?kr ?kb ?kl ?_ ?c2 ?c3 ?c4 ?c5 hret; (case hA => exact rfl); (case hf => exact rfl); (case hke => exact hk); (case k6 => k_is); (case k7 => k_is); (case k8 => k_is); (case k9 => k_is); (case kc => k_is); (case kr => ktr_room); (case kb => first | exact fun _ _ _ => BindsTo.of_eq rfl | exact fun _ _ X9 => binds_K X9 rfl (by k_is) rfl rfl rfl); (case kl => exact fun _ => locs rfl); (case c2 => exact rfl); (case c3 => exact rfl); (case c4 => exact rfl); (case c5 => decide); k_whole; intro x1 dx1 g' L' h' l2 FG' F' N' B' X' T'; (k_lt2 l2); (try dsimp only); (try k_fold))
  clear hret
  k_steps
  all_goals exact ⟨rfl, fun _ => ⟨_, _, rfl⟩⟩
set_option maxRecDepth 100000 in
set_option maxHeartbeats 2000000 in
theorem queue_ok {w : World} {mean : PySem.ExcName → Option Value} {mg mb : PySem.Str → Option Value} {dp un : Nat} {gd : Option (List PySem.Code)} {cn : PySem.Str} {cs : PySem.Scope} {a : PySem.Addr} {ccd : Value} {cl : List (PySem.Str × PySem.Addr)} {outer : List PySem.Env} {A₀ : PySem.Around} {base h₀ : PySem.Heap} {L : PySem.Addr} {m : PySem.Str → Option Value} {s : PySem.Shared} {Q E : Value → PySem.Shared → Prop} {a₁ : Int} {u₁ : PySem.Tok}
    (B : Below A₀ base outer h₀) (F : Fr h₀ L s.heap m) (X : (kit.heap_1 w.params).In h₀) (T : Top qv loose0 mean mg mb h₀) (hk : cs.kind = .function) (hd0 : dp + 5 < recursionLimit) (ha : 1 ≤ a₁)
    (hret : ∀ x h' tk', Keep s.heap h' → Q (.ref x) { s with heap := h', toks := tk' }) :
    wpAny (model P0 w) (ktrTop dp un gd cn cs L a ccd cl outer) (PySem.call (.ref 727) [.int a₁ u₁] []) Q E s := by
  have hfill : PySem.Challenge.rw_xw0346_01 = PySem.Challenge.rw_xw0346_01 ∧ kit.heap_1 = kit.heap_1 := by
    k_fill
    exact ⟨rfl, rfl⟩
  clear hfill
  k_dflt (refine' pure_cls B F X T ?hA ?hf ?hke ?k6 ?k7 ?k8 ?k9 ?kc ?kr ?kb ?kl ?_ ?c2 ?c3 ?c4 ?c5 hret; (case hA => exact rfl); (case hf => exact rfl); (case hke => exact hk); (case k6 => k_is); (case k7 => k_is); (case k8 => k_is); (case k9 => k_is); (case kc => k_is); (case kr => ktr_room); (case kb => first | exact fun _ _ _ => BindsTo.of_eq rfl | exact fun _ _ X9 => binds_K X9 rfl (by k_is) rfl rfl rfl); (case kl => exact fun _ => locs rfl); (case c2 => exact rfl); (case c3 => exact rfl); (case c4 => exact rfl); (case c5 => decide); k_whole; intro x1 dx1 g' L' h' l2 FG' F' N' B' X' T'; (k_lt2 l2); (try dsimp only); (try k_fold))
  clear hret
  k_steps
  all_goals exact ⟨rfl, fun _ => ⟨_, _, rfl⟩⟩
set_option maxRecDepth 100000 in
set_option maxHeartbeats 2000000 in
theorem congestion_ok {w : World} {mean : PySem.ExcName → Option Value} {mg mb : PySem.Str → Option Value} {dp un : Nat} {gd : Option (List PySem.Code)} {cn : PySem.Str} {cs : PySem.Scope} {a : PySem.Addr} {ccd : Value} {cl : List (PySem.Str × PySem.Addr)} {outer : List PySem.Env} {A₀ : PySem.Around} {base h₀ : PySem.Heap} {L : PySem.Addr} {m : PySem.Str → Option Value} {s : PySem.Shared} {Q E : Value → PySem.Shared → Prop} {a₁ a₂ a₃ : Int} {u₁ u₂ u₃ : PySem.Tok}
    (B : Below A₀ base outer h₀) (F : Fr h₀ L s.heap m) (X : (kit.heap_1 w.params).In h₀) (T : Top qv loose0 mean mg mb h₀) (hk : cs.kind = .function) (hd0 : dp + 5 < recursionLimit)
    (hret : ∀ x h' tk', Keep s.heap h' → Q (.ref x) { s with heap := h', toks := tk' }) :
    wpAny (model P0 w) (ktrTop dp un gd cn cs L a ccd cl outer) (PySem.call (.ref 538) [.int a₁ u₁, .int a₂ u₂, .int a₃ u₃] []) Q E s := by
  have hfill : PySem.Challenge.rw_xw0346_01 = PySem.Challenge.rw_xw0346_01 ∧ kit.heap_1 = kit.heap_1 := by
    k_fill
    exact ⟨rfl, rfl⟩
  clear hfill
  k_dflt (refine' pure_cls B F X T ?hA ?hf ?hke ?k6 ?k7 ?k8 ?k9 ?kc ?kr ?kb ?kl ?_ ?c2 ?c3 ?c4 ?c5 hret; (case hA => exact rfl); (case hf => exact rfl); (case hke => exact hk); (case k6 => k_is); (case k7 => k_is); (case k8 => k_is); (case k9 => k_is); (case kc => k_is); (case kr => ktr_room); (case kb => first | exact fun _ _ _ => BindsTo.of_eq rfl | exact fun _ _ X9 => binds_K X9 rfl (by k_is) rfl rfl rfl); (case kl => exact fun _ => locs rfl); (case c2 => exact rfl); (case c3 => exact rfl); (case c4 => exact rfl); (case c5 => decide); k_whole; intro x1 dx1 g' L' h' l2 FG' F' N' B' X' T'; (k_lt2 l2); (try dsimp only); (try k_fold))
  clear hret
  k_steps
  all_goals exact ⟨rfl, fun _ => ⟨_, _, rfl⟩⟩
set_option maxRecDepth 100000 in
set_option maxHeartbeats 2000000 in
theorem acks_ok {w : World} {mean : PySem.ExcName → Option Value} {mg mb : PySem.Str → Option Value} {dp un : Nat} {gd : Option (List PySem.Code)} {cn : PySem.Str} {cs : PySem.Scope} {a : PySem.Addr} {ccd : Value} {cl : List (PySem.Str × PySem.Addr)} {outer : List PySem.Env} {A₀ : PySem.Around} {base h₀ : PySem.Heap} {L : PySem.Addr} {m : PySem.Str → Option Value} {s : PySem.Shared} {Q E : Value → PySem.Shared → Prop} {a₁ : Int} {u₁ : PySem.Tok}
    (B : Below A₀ base outer h₀) (F : Fr h₀ L s.heap m) (X : (kit.heap_1 w.params).In h₀) (T : Top qv loose0 mean mg mb h₀) (hk : cs.kind = .function) (hd0 : dp + 5 < recursionLimit)
    (hret : ∀ x h' tk', Keep s.heap h' → Q (.ref x) { s with heap := h', toks := tk' }) :
    wpAny (model P0 w) (ktrTop dp un gd cn cs L a ccd cl outer) (PySem.call (.ref 447) [.int a₁ u₁] []) Q E s := by
  have hfill : PySem.Challenge.rw_xw0346_01 = PySem.Challenge.rw_xw0346_01 ∧ kit.heap_1 = kit.heap_1 := by
    k_fill
    exact ⟨rfl, rfl⟩
  clear hfill
  k_dflt (refine' pure_cls B F X T ?hA ?hf ?hke ?k6 ?k7 ?k8 ?k9 ?kc ?kr ?kb ?kl ?_ ?c2 ?c3 ?c4 ?c5 hret; (case hA => exact rfl); (case hf => exact rfl); (case hke => exact hk); (case k6 => k_is); (case k7 => k_is); (case k8 => k_is); (case k9 => k_is); (case kc => k_is); (case kr => ktr_room); (case kb => first | exact fun _ _ _ => BindsTo.of_eq rfl | exact fun _ _ X9 => binds_K X9 rfl (by k_is) rfl rfl rfl); (case kl => exact fun _ => locs rfl); (case c2 => exact rfl); (case c3 => exact rfl); (case c4 => exact rfl); (case c5 => decide); k_whole; intro x1 dx1 g' L' h' l2 FG' F' N' B' X' T'; (k_lt2 l2); (try dsimp only); (try k_fold))
  clear hret
  k_steps
  all_goals exact ⟨rfl, fun _ => ⟨_, _, rfl⟩⟩
set_option maxRecDepth 100000 in
set_option maxHeartbeats 2000000 in
theorem wheel_ok {w : World} {mean : PySem.ExcName → Option Value} {mg mb : PySem.Str → Option Value} {dp un : Nat} {gd : Option (List PySem.Code)} {cn : PySem.Str} {cs : PySem.Scope} {a : PySem.Addr} {ccd : Value} {cl : List (PySem.Str × PySem.Addr)} {outer : List PySem.Env} {A₀ : PySem.Around} {base h₀ : PySem.Heap} {L : PySem.Addr} {m : PySem.Str → Option Value} {s : PySem.Shared} {Q E : Value → PySem.Shared → Prop} 
    (B : Below A₀ base outer h₀) (F : Fr h₀ L s.heap m) (X : (kit.heap_1 w.params).In h₀) (T : Top qv loose0 mean mg mb h₀) (hk : cs.kind = .function) (hd0 : dp + 5 < recursionLimit)
    (hret : ∀ x h' tk', Keep s.heap h' → Q (.ref x) { s with heap := h', toks := tk' }) :
    wpAny (model P0 w) (ktrTop dp un gd cn cs L a ccd cl outer) (PySem.call (.ref 1027) [] []) Q E s := by
  have hfill : PySem.Challenge.rw_xw0346_01 = PySem.Challenge.rw_xw0346_01 ∧ kit.heap_1 = kit.heap_1 := by
    k_fill
    exact ⟨rfl, rfl⟩
  clear hfill
  k_dflt (refine' pure_cls B F X T ?hA ?hf ?hke ?k6 ?k7 ?k8 ?k9 ?kc ?kr ?kb ?kl ?_ ?c2 ?c3 ?c4 ?c5 hret; (case hA => exact rfl); (case hf => exact rfl); (case hke => exact hk); (case k6 => k_is); (case k7 => k_is); (case k8 => k_is); (case k9 => k_is); (case kc => k_is); (case kr => ktr_room); (case kb => first | exact fun _ _ _ => BindsTo.of_eq rfl | exact fun _ _ X9 => binds_K X9 rfl (by k_is) rfl rfl rfl); (case kl => exact fun _ => locs rfl); (case c2 => exact rfl); (case c3 => exact rfl); (case c4 => exact rfl); (case c5 => decide); k_whole; intro x1 dx1 g' L' h' l2 FG' F' N' B' X' T'; (k_lt2 l2); (try dsimp only); (try k_fold))
  clear hret
  k_steps
  all_goals exact ⟨rfl, fun _ => ⟨_, _, rfl⟩⟩
set_option maxRecDepth 100000 in
set_option maxHeartbeats 2000000 in
theorem assembly_ok {w : World} {mean : PySem.ExcName → Option Value} {mg mb : PySem.Str → Option Value} {dp un : Nat} {gd : Option (List PySem.Code)} {cn : PySem.Str} {cs : PySem.Scope} {a : PySem.Addr} {ccd : Value} {cl : List (PySem.Str × PySem.Addr)} {outer : List PySem.Env} {A₀ : PySem.Around} {base h₀ : PySem.Heap} {L : PySem.Addr} {m : PySem.Str → Option Value} {s : PySem.Shared} {Q E : Value → PySem.Shared → Prop} {a₁ : Int} {u₁ : PySem.Tok}
    (B : Below A₀ base outer h₀) (F : Fr h₀ L s.heap m) (X : (kit.heap_1 w.params).In h₀) (T : Top qv loose0 mean mg mb h₀) (hk : cs.kind = .function) (hd0 : dp + 5 < recursionLimit)
    (hret : ∀ x h' tk', Keep s.heap h' → Q (.ref x) { s with heap := h', toks := tk' }) :
    wpAny (model P0 w) (ktrTop dp un gd cn cs L a ccd cl outer) (PySem.call (.ref 256) [.int a₁ u₁] []) Q E s := by
  have hfill : PySem.Challenge.rw_xw0346_01 = PySem.Challenge.rw_xw0346_01 ∧ kit.heap_1 = kit.heap_1 := by
    k_fill
    exact ⟨rfl, rfl⟩
  clear hfill
  k_dflt (refine' pure_cls B F X T ?hA ?hf ?hke ?k6 ?k7 ?k8 ?k9 ?kc ?kr ?kb ?kl ?_ ?c2 ?c3 ?c4 ?c5 hret; (case hA => exact rfl); (case hf => exact rfl); (case hke => exact hk); (case k6 => k_is); (case k7 => k_is); (case k8 => k_is); (case k9 => k_is); (case kc => k_is); (case kr => ktr_room); (case kb => first | exact fun _ _ _ => BindsTo.of_eq rfl | exact fun _ _ X9 => binds_K X9 rfl (by k_is) rfl rfl rfl); (case kl => exact fun _ => locs rfl); (case c2 => exact rfl); (case c3 => exact rfl); (case c4 => exact rfl); (case c5 => decide); k_whole; intro x1 dx1 g' L' h' l2 FG' F' N' B' X' T'; (k_lt2 l2); (try dsimp only); (try k_fold))
  clear hret
  k_steps
  all_goals exact ⟨rfl, fun _ => ⟨_, _, rfl⟩⟩
set_option maxRecDepth 100000 in
set_option maxHeartbeats 2000000 in
theorem rtt_ok {w : World} {mean : PySem.ExcName → Option Value} {mg mb : PySem.Str → Option Value} {dp un : Nat} {gd : Option (List PySem.Code)} {cn : PySem.Str} {cs : PySem.Scope} {a : PySem.Addr} {ccd : Value} {cl : List (PySem.Str × PySem.Addr)} {outer : List PySem.Env} {A₀ : PySem.Around} {base h₀ : PySem.Heap} {L : PySem.Addr} {m : PySem.Str → Option Value} {s : PySem.Shared} {Q E : Value → PySem.Shared → Prop} {a₁ a₂ a₃ : Int} {u₁ u₂ u₃ : PySem.Tok}
    (B : Below A₀ base outer h₀) (F : Fr h₀ L s.heap m) (X : (kit.heap_1 w.params).In h₀) (T : Top qv loose0 mean mg mb h₀) (hk : cs.kind = .function) (hd0 : dp + 5 < recursionLimit)
    (hret : ∀ x h' tk', Keep s.heap h' → Q (.ref x) { s with heap := h', toks := tk' }) :
    wpAny (model P0 w) (ktrTop dp un gd cn cs L a ccd cl outer) (PySem.call (.ref 671) [.int a₁ u₁, .int a₂ u₂, .int a₃ u₃] []) Q E s := by
  have hfill : PySem.Challenge.rw_xw0346_01 = PySem.Challenge.rw_xw0346_01 ∧ kit.heap_1 = kit.heap_1 := by
    k_fill
    exact ⟨rfl, rfl⟩
  clear hfill
  k_dflt (refine' pure_cls B F X T ?hA ?hf ?hke ?k6 ?k7 ?k8 ?k9 ?kc ?kr ?kb ?kl ?_ ?c2 ?c3 ?c4 ?c5 hret; (case hA => exact rfl); (case hf => exact rfl); (case hke => exact hk); (case k6 => k_is); (case k7 => k_is); (case k8 => k_is); (case k9 => k_is); (case kc => k_is); (case kr => ktr_room); (case kb => first | exact fun _ _ _ => BindsTo.of_eq rfl | exact fun _ _ X9 => binds_K X9 rfl (by k_is) rfl rfl rfl); (case kl => exact fun _ => locs rfl); (case c2 => exact rfl); (case c3 => exact rfl); (case c4 => exact rfl); (case c5 => decide); k_whole; intro x1 dx1 g' L' h' l2 FG' F' N' B' X' T'; (k_lt2 l2); (try dsimp only); (try k_fold))
  clear hret
  k_steps
  all_goals exact ⟨rfl, fun _ => ⟨_, _, rfl⟩⟩
set_option maxRecDepth 100000 in
set_option maxHeartbeats 2000000 in
theorem rclock_ok {w : World} {mean : PySem.ExcName → Option Value} {mg mb : PySem.Str → Option Value} {dp un : Nat} {gd : Option (List PySem.Code)} {cn : PySem.Str} {cs : PySem.Scope} {a : PySem.Addr} {ccd : Value} {cl : List (PySem.Str × PySem.Addr)} {outer : List PySem.Env} {A₀ : PySem.Around} {base h₀ : PySem.Heap} {L : PySem.Addr} {m : PySem.Str → Option Value} {s : PySem.Shared} {Q E : Value → PySem.Shared → Prop} {e₁ : PySem.Addr} {a₂ : Int} {u₂ : PySem.Tok}
    (B : Below A₀ base outer h₀) (F : Fr h₀ L s.heap m) (X : (kit.heap_1 w.params).In h₀) (T : Top qv loose0 mean mg mb h₀) (hk : cs.kind = .function) (hd0 : dp + 5 < recursionLimit)
    (hret : ∀ x h' tk', Keep s.heap h' → Q (.ref x) { s with heap := h', toks := tk' }) :
    wpAny (model P0 w) (ktrTop dp un gd cn cs L a ccd cl outer) (PySem.call (.ref 615) [.ref e₁, .int a₂ u₂] []) Q E s := by
  have hfill : PySem.Challenge.rw_xw0346_01 = PySem.Challenge.rw_xw0346_01 ∧ kit.heap_1 = kit.heap_1 := by
    k_fill
    exact ⟨rfl, rfl⟩
  clear hfill
  k_dflt (refine' pure_cls B F X T ?hA ?hf ?hke ?k6 ?k7 ?k8 ?k9 ?kc ?kr ?kb ?kl ?_ ?c2 ?c3 ?c4 ?c5 hret; (case hA => exact rfl); (case hf => exact rfl); (case hke => exact hk); (case k6 => k_is); (case k7 => k_is); (case k8 => k_is); (case k9 => k_is); (case kc => k_is); (case kr => ktr_room); (case kb => first | exact fun _ _ _ => BindsTo.of_eq rfl | exact fun _ _ X9 => binds_K X9 rfl (by k_is) rfl rfl rfl); (case kl => exact fun _ => locs rfl); (case c2 => exact rfl); (case c3 => exact rfl); (case c4 => exact rfl); (case c5 => decide); k_whole; intro x1 dx1 g' L' h' l2 FG' F' N' B' X' T'; (k_lt2 l2); (try dsimp only); (try k_fold))
  clear hret
  k_steps
  all_goals exact ⟨rfl, fun _ => ⟨_, _, rfl⟩⟩
end Mine
end
section
open PySem PySem.W PyProof.Rows
set_option maxRecDepth 100000
namespace Mine
/-- what the law reads of an end of a connection: four objects, their dicts by what they hold -/
structure EndAt (ring next una greatest : Int) (T dT Li dLi Se dSe Re dRe : PySem.Addr) (esT esL esS esR : List PySem.DictEntry) : Prop where
  state : ∃ v, getL (PySem.Str.ofString "state") esT = some (some v)
  small : esT.length ≤ 100
  limits : getL (PySem.Str.ofString "limits") esT = some (some (.ref Li))
  sender : getL (PySem.Str.ofString "sender") esT = some (some (.ref Se))
  receiver : getL (PySem.Str.ofString "receiver") esT = some (some (.ref Re))
  ringL : ∃ t, getL (PySem.Str.ofString "ring") esL = some (some (.int ring t))
  ringS : ∃ t, getL (PySem.Str.ofString "ring") esS = some (some (.int ring t))
  una : ∃ t, getL (PySem.Str.ofString "una") esS = some (some (.int una t))
  greatest : ∃ t, getL (PySem.Str.ofString "greatest") esS = some (some (.int greatest t))
  noEver : getL (PySem.Str.ofString "ever_sent") esS = some none
  next : ∃ t, getL (PySem.Str.ofString "next") esR = some (some (.int next t))
  order : @LT.lt Nat _ dLi Li ∧ @LT.lt Nat _ Li dT ∧ @LT.lt Nat _ dT T ∧ @LT.lt Nat _ T dSe ∧ @LT.lt Nat _ dSe Se ∧ @LT.lt Nat _ Se dRe ∧ @LT.lt Nat _ dRe Re
abbrev endLed (T dT Li dLi Se dSe Re dRe : PySem.Addr) (esT esL esS esR : List PySem.DictEntry) (nT nL nS nR : Nat) : List (PySem.Addr × PySem.Obj) :=
  [(T, instObj 1091 dT), (dT, dictOf esT nT), (Li, instObj 1048 dLi), (dLi, dictOf esL nL), (Se, instObj 960 dSe), (dSe, dictOf esS nS), (Re, instObj 390 dRe), (dRe, dictOf esR nR)]
theorem news9 {h₀ h : PySem.Heap} {L : PySem.Addr} {news : List (PySem.Addr × PySem.Obj)} {a b c d e f g i j : PySem.Addr × PySem.Obj} (N : News h₀ L h news)
    (h1 : a ∈ news) (h2 : b ∈ news) (h3 : c ∈ news) (h4 : d ∈ news) (h5 : e ∈ news) (h6 : f ∈ news) (h7 : g ∈ news) (h8 : i ∈ news) (h9 : j ∈ news) : News h₀ L h [a, b, c, d, e, f, g, i, j] := by
  intro p hp
  simp only [List.mem_cons, List.not_mem_nil, or_false] at hp
  rcases hp with rfl | rfl | rfl | rfl | rfl | rfl | rfl | rfl | rfl
  · exact N _ h1
  · exact N _ h2
  · exact N _ h3
  · exact N _ h4
  · exact N _ h5
  · exact N _ h6
  · exact N _ h7
  · exact N _ h8
  · exact N _ h9
theorem getL_self {name : PySem.Str} {hsh : Int} {key v : Value} (hk : key.isStr name = true) : ∀ es : List PySem.DictEntry, getL name (putL name hsh key v es) = some (some v)
  | [] => by simp [getL, putL, hk]
  | e :: r => by
    unfold putL
    cases h : e.key.isStr name with
    | true => simp [getL, h]
    | false =>
      have ih := getL_self (name := name) (hsh := hsh) (v := v) hk r
      simp only [Bool.false_eq_true, if_false]
      unfold getL at ih ⊢
      rw [List.find?_cons, h]
      dsimp only
      cases hf : List.find? (fun x => x.key.isStr name) (putL name hsh key v r) with
      | some x => rw [hf] at ih; exact ih
      | none =>
        rw [hf] at ih
        dsimp only at ih
        split at ih <;> cases ih
theorem getL_other {name name' : PySem.Str} {hsh : Int} {key v x : Value} (hk : key.isStr name' = false) (hd : ∀ k : Value, k.isStr name = true → k.isStr name' = false) : ∀ es : List PySem.DictEntry,
    getL name' es = some (some x) → getL name' (putL name hsh key v es) = some (some x)
  | [], h => by simp [getL] at h
  | e :: r, h => by
    unfold putL
    cases h1 : e.key.isStr name with
    | true =>
      have h2 := hd _ h1
      simp only [if_true]
      unfold getL at h ⊢
      rw [List.find?_cons, h2] at h ⊢
      dsimp only at h ⊢
      cases hf : List.find? (fun x => x.key.isStr name') r with
      | some y => rw [hf] at h; exact h
      | none =>
        rw [hf] at h
        dsimp only at h
        split at h <;> cases h
    | false =>
      simp only [Bool.false_eq_true, if_false]
      cases h2 : e.key.isStr name' with
      | true =>
        unfold getL at h ⊢
        rw [List.find?_cons, h2] at h ⊢
        exact h
      | false =>
        have h3 : getL name' r = some (some x) := by
          unfold getL at h ⊢
          rw [List.find?_cons, h2] at h
          dsimp only at h
          cases hf : List.find? (fun x => x.key.isStr name') r with
          | some y => rw [hf] at h; exact h
          | none =>
            rw [hf] at h
            dsimp only at h
            split at h <;> cases h
        have ih := getL_other (name := name) (hsh := hsh) (v := v) hk hd r h3
        unfold getL at ih ⊢
        rw [List.find?_cons, h2]
        dsimp only
        cases hf : List.find? (fun x => x.key.isStr name') (putL name hsh key v r) with
        | some y => rw [hf] at ih; exact ih
        | none =>
          rw [hf] at ih
          dsimp only at ih
          split at ih <;> cases ih
end Mine
end
section
open PySem PySem.W PyProof.Rows
set_option maxRecDepth 100000
namespace Mine
theorem isStr_excl {name name' : PySem.Str} (h : (name == name') = false) (k : Value) (hk : k.isStr name = true) : k.isStr name' = false := by
  cases k with
  | str y t =>
    have h1 : (y == name) = true := hk
    have h2 : y = name := eq_of_beq h1
    show (y == name') = false
    rw [h2]; exact h
  | _ => cases hk
theorem putL_length {name : PySem.Str} {hsh : Int} {key v : Value} : ∀ {es : List PySem.DictEntry} {x : Value}, getL name es = some (some x) → (putL name hsh key v es).length = es.length
  | [], _, h => by simp [getL] at h
  | e :: r, x, h => by
    unfold putL
    cases h1 : e.key.isStr name with
    | true => simp
    | false =>
      have h3 : getL name r = some (some x) := by
        unfold getL at h ⊢
        rw [List.find?_cons, h1] at h
        dsimp only at h
        cases hf : List.find? (fun x => x.key.isStr name) r with
        | some y => rw [hf] at h; exact h
        | none =>
          rw [hf] at h
          dsimp only at h
          split at h <;> cases h
      simp only [Bool.false_eq_true, if_false, List.length_cons]
      rw [putL_length h3]
set_option maxHeartbeats 1000000 in
theorem set_state {w : World} {A : PySem.Around} {h₀ : PySem.Heap} {L : PySem.Addr} {m : PySem.Str → Option Value} {s : PySem.Shared} {v : Value} {Q : Unit → PySem.Shared → Prop} {E : Value → PySem.Shared → Prop} {Tc dT : PySem.Addr} {esT : List PySem.DictEntry} {nT : Nat} {more : List (PySem.Addr × PySem.Obj)}
    (F : Fr h₀ L s.heap m) (X : (kit.heap_1 w.params).In h₀) (N : News h₀ L s.heap ((Tc, instObj 1091 dT) :: (dT, dictOf esT nT) :: more)) (ho : Tc ≠ dT) (hmore : ∀ p ∈ more, p.1 ≠ dT) (hs0 : ∃ v, getL (PySem.Str.ofString "state") esT = some (some v)) (hlen : esT.length ≤ 100)
    (h : ∀ es2 n2 h', es2.length ≤ 100 → (∀ nm x, (PySem.Str.ofString "state" == nm) = false → getL nm esT = some (some x) → getL nm es2 = some (some x)) → getL (PySem.Str.ofString "state") es2 = some (some v) → Fr h₀ L h' m → News h₀ L h' ((Tc, instObj 1091 dT) :: (dT, dictOf es2 n2) :: more) → Q () { s with heap := h', toks := s.toks + 2 }) :
    wpAny (model P0 w) A (PySem.setAttr (.ref Tc) (PySem.Str.ofString "state") v) Q E s := by
  have hfill : PySem.Challenge.rw_xw0346_01 = PySem.Challenge.rw_xw0346_01 ∧ kit.heap_1 = kit.heap_1 := by
    k_fill
    exact ⟨rfl, rfl⟩
  clear hfill
  obtain ⟨v0, hv0⟩ := hs0
  refine' set_dict F X N ?k4 ?k5 ?k6 ?k7 ?k8 ?k9 ?k10 ?k11 ?k12 ?k13 ?_
  case k4 => exact InstAt.of_news N (List.Mem.head _) (List.Mem.tail _ (List.Mem.head _))
  case k5 => exact rfl
  case k6 => k_is
  case k7 => k_is
  case k8 => k_is
  case k9 => k_is
  case k10 => rw [hv0]; rfl
  case k11 => exact rfl
  case k12 => exact Upd.tail ho (Upd.head hmore)
  case k13 => rw [putL_length hv0]; omega
  intro h' F' N'
  exact h _ _ h' (by rw [putL_length hv0]; exact hlen) (fun nm x hne hx => getL_other (by exact hne) (isStr_excl hne) _ hx) (getL_self (by exact beq_self_eq_true _) _) F' N'
def Hold (P : Prop) : Prop := P
theorem execs_hold {M : PySem.Model} {A : PySem.Around} {E : Value → PySem.Shared → Prop} {s : PySem.Shared} {env : PySem.Env} {st : PySem.Stmt} {rest : List PySem.Stmt} {Q : PySem.Flow → PySem.Shared → Prop}
    (h : PySem.wpAny M A (PySem.exec st env) (fun f s' => match f with | .next => Hold (PySem.wpAny M A (PySem.execs rest env) Q E s') | f => Q f s') E s) : PySem.wpAny M A (PySem.execs (st :: rest) env) Q E s :=
  PySem.wpAny_execs_cons (PySem.wpAny_mono h (fun f s' h' => by cases f <;> exact h') fun _ _ x => x)
/-- an expression that comes to the bool b, whatever road it takes; the objects of the ledger stay -/
def BoolEnd (h₀ : PySem.Heap) (L : PySem.Addr) (m : PySem.Str → Option Value) (news : List (PySem.Addr × PySem.Obj)) (s : PySem.Shared) (b : Bool) (v : Value) (s₂ : PySem.Shared) : Prop :=
  v = .bool b ∧ ∃ h' tk', s₂ = { s with heap := h', toks := tk' } ∧ Fr h₀ L h' m ∧ News h₀ L h' news
theorem bool_join {M : PySem.Model} {A : PySem.Around} {E : Value → PySem.Shared → Prop} {Q : Value → PySem.Shared → Prop} {s : PySem.Shared} {h₀ : PySem.Heap} {L : PySem.Addr} {m : PySem.Str → Option Value} {news : List (PySem.Addr × PySem.Obj)} {c : PySem.Sem Value} (b : Bool)
    (_F : Fr h₀ L s.heap m) (_N : News h₀ L s.heap news) (hc : PySem.wpAny M A c (fun v s₂ => BoolEnd h₀ L m news s b v s₂) E s)
    (hk : ∀ h' tk', Fr h₀ L h' m → News h₀ L h' news → Q (.bool b) { s with heap := h', toks := tk' }) : PySem.wpAny M A c Q E s := by
  refine PySem.wpAny_mono hc (fun v s₂ hq => ?_) fun _ _ h => h
  obtain ⟨rfl, h', tk', rfl, F, N⟩ := hq
  exact hk h' tk' F N
def tellB (flags : Int) : Bool := (flags.fdiv 16).fmod 2 == 1 && (flags.fdiv 2).fmod 2 == 0
def dueB (o t : Bool) (ring far near many : Int) : Bool := o && t && (decide (0 - ring.fdiv 2 < far) && decide (far < 0)) && decide (near ≤ many)
def beforeB (a b ring : Int) : Bool := decide (0 < (b - a).fmod ring) && decide (2 * (b - a).fmod ring < ring)
def openB (st : PySem.Str) : Bool := ![PySem.Str.ofString "closed", PySem.Str.ofString "listen", PySem.Str.ofString "syn sent", PySem.Str.ofString "syn received"].any fun x => x == st
def toofarB (oldest greatest ack ring : Int) : Bool := !(beforeB ack oldest ring) && decide ((greatest - oldest).fmod ring < (ack - oldest).fmod ring)
theorem before_t {x y ring : Int} (h : 0 < (y - x).fmod ring) : decide (2 * (y - x).fmod ring < ring) = beforeB x y ring := by simp [beforeB, h]
theorem before_f {x y ring : Int} (h : ¬ 0 < (y - x).fmod ring) : decide (0 < (y - x).fmod ring) = beforeB x y ring := by simp [beforeB, h]
theorem tell_t {f : Int} (h : (f.fdiv 16).fmod 2 = 1) : ((f.fdiv 2).fmod 2 == 0) = tellB f := by simp [tellB, h]
theorem tell_f {f : Int} (h : (f.fdiv 16).fmod 2 ≠ 1) : ((f.fdiv 16).fmod 2 == 1) = tellB f := by simp [tellB, h]
theorem bool_ret {h₀ h' : PySem.Heap} {L : PySem.Addr} {m : PySem.Str → Option Value} {news : List (PySem.Addr × PySem.Obj)} {s : PySem.Shared} {Q : Value → PySem.Shared → Prop} {b b' : Bool} {tk' : Nat}
    (hret : ∀ h' tk', Fr h₀ L h' m → News h₀ L h' news → Q (.bool b) { s with heap := h', toks := tk' }) (e : b' = b) (F : Fr h₀ L h' m) (N : News h₀ L h' news) : Q (.bool b') { s with heap := h', toks := tk' } := by
  subst e
  exact hret _ _ F N
theorem news_tl {h₀ h : PySem.Heap} {L : PySem.Addr} {a : PySem.Addr × PySem.Obj} {r : List (PySem.Addr × PySem.Obj)} (N : News h₀ L h (a :: r)) : News h₀ L h r := fun p hp => N p (List.mem_cons_of_mem _ hp)
theorem far_t {oldest greatest ack ring : Int} (h : beforeB ack oldest ring = true) : (!beforeB ack oldest ring) = toofarB oldest greatest ack ring := by simp [toofarB, h]
theorem far_f {oldest greatest ack ring : Int} (h : beforeB ack oldest ring = false) : decide ((greatest - oldest).fmod ring < (ack - oldest).fmod ring) = toofarB oldest greatest ack ring := by simp [toofarB, h]
noncomputable def oldB (flags : Int) (o b f : Bool) : Bool := decide (PySem.Builtin.bitAnd flags 16 ≠ 0) && decide (PySem.Builtin.bitAnd flags 2 = 0) && o && (b && !f)
theorem old_1 {flags : Int} {o b f : Bool} (h : PySem.Builtin.bitAnd flags 2 ≠ 0) : false = oldB flags o b f := by simp [oldB, h]
theorem old_2 {flags : Int} {o b f : Bool} (h1 : PySem.Builtin.bitAnd flags 16 ≠ 0) (h2 : PySem.Builtin.bitAnd flags 2 = 0) (ho : o = true) (hb : b = true) : (!f) = oldB flags o b f := by simp [oldB, h1, h2, ho, hb]
theorem old_3 {flags : Int} {o b f : Bool} (hb : b = false) : b = oldB flags o b f := by simp [oldB, hb]
theorem old_4 {flags : Int} {o b f : Bool} (ho : o = false) : false = oldB flags o b f := by simp [oldB, ho]
theorem old_5 {flags : Int} {o b f : Bool} (h : PySem.Builtin.bitAnd flags 16 = 0) : false = oldB flags o b f := by simp [oldB, h]
theorem news_d3 {h₀ h : PySem.Heap} {L : PySem.Addr} {a b c : PySem.Addr × PySem.Obj} {r : List (PySem.Addr × PySem.Obj)} (N : News h₀ L h (a :: b :: c :: r)) : News h₀ L h (a :: b :: r) := fun p hp => by
  rcases List.mem_cons.mp hp with rfl | hp
  · exact N _ (.head _)
  · rcases List.mem_cons.mp hp with rfl | hp
    · exact N _ (.tail _ (.head _))
    · exact N _ (.tail _ (.tail _ (.tail _ hp)))
theorem EndAt.stored {ring next una greatest : Int} {Tc dT Li dLi Se dSe Re dRe : PySem.Addr} {esT es2 esL esS esR : List PySem.DictEntry} {v : Value} (h : EndAt ring next una greatest Tc dT Li dLi Se dSe Re dRe esT esL esS esR)
    (hl : es2.length ≤ 100) (ho : ∀ nm x, (PySem.Str.ofString "state" == nm) = false → getL nm esT = some (some x) → getL nm es2 = some (some x)) (hs : getL (PySem.Str.ofString "state") es2 = some (some v)) :
    EndAt ring next una greatest Tc dT Li dLi Se dSe Re dRe es2 esL esS esR :=
  ⟨⟨_, hs⟩, hl, ho _ _ rfl h.limits, ho _ _ rfl h.sender, ho _ _ rfl h.receiver, h.ringL, h.ringS, h.una, h.greatest, h.noEver, h.next, h.order⟩
end Mine
end
section
open PySem PySem.W PyProof.Rows
namespace Mine
local macro_rules | `(tactic| k_mem) => `(tactic| first | exact Mine.Pick.head | (refine' Mine.Pick.tail ?_; k_mem))
local macro_rules | `(tactic| k_room) => `(tactic| ktr_room)
set_option maxRecDepth 100000 in
set_option maxHeartbeats 2000000 in
theorem distance_ok {w : World} {mean : PySem.ExcName → Option Value} {mg mb : PySem.Str → Option Value} {dp un : Nat} {gd : Option (List PySem.Code)} {cn : PySem.Str} {cs : PySem.Scope} {a : PySem.Addr} {ccd : Value} {cl : List (PySem.Str × PySem.Addr)} {outer : List PySem.Env} {A₀ : PySem.Around} {base h₀ : PySem.Heap} {L : PySem.Addr} {m : PySem.Str → Option Value} {s : PySem.Shared} {Q E : Value → PySem.Shared → Prop} {news : List (PySem.Addr × PySem.Obj)} {x y ring : Int} {t1 t2 t3 : PySem.Tok}
    (B : Below A₀ base outer h₀) (F : Fr h₀ L s.heap m) (X : (kit.heap_1 w.params).In h₀) (N : News h₀ L s.heap news) (T : Top qv loose0 mean mg mb h₀) (hk : cs.kind = .function) (hd0 : dp + 1 < recursionLimit) (hr : ring ≠ 0)
    (hret : ∀ t h' tk', Fr h₀ L h' m → News h₀ L h' news → Q (.int ((y - x).fmod ring) t) { s with heap := h', toks := tk' }) :
    wpAny (model P0 w) (ktrTop dp un gd cn cs L a ccd cl outer) (PySem.call (.ref 35) [.int x t1, .int y t2, .int ring t3]) Q E s := by
  have hfill : PySem.Challenge.rw_xw0346_01 = PySem.Challenge.rw_xw0346_01 ∧ kit.heap_1 = kit.heap_1 := by
    k_fill
    exact ⟨rfl, rfl⟩
  clear hfill
  refine wpAny_call ?_
  k_dflt cell_enter
  k_steps
  exact hret _ _ _ (by k_asm) (by k_asm)
local macro_rules | `(tactic| walk_at "call ref") => `(tactic| (k_here; (with_reducible show wpAny _ _ (PySem.call (Value.ref (nat_lit 35)) _ _) _ _ _); k_dflt (refine' Mine.distance_ok (B := ?k1) (F := ?k2) (X := ?k3) (N := ?k4) (T := ?k5) (hk := ?k6) (hd0 := ?kd) (hr := ?kr) (hret := ?_); (case k1 => k_asm); (case k2 => k_asm); (case k3 => k_asm); (case k4 => k_asm); (case k5 => k_asm); (case k6 => first | exact rfl | assumption); (case kd => k_room); (case kr => first | assumption | omega); intro t9 h9 tk9 F9 N9; (try dsimp only); (try k_fold); (try k_sweep))))
set_option maxRecDepth 100000 in
set_option maxHeartbeats 2000000 in
theorem before_ok {w : World} {mean : PySem.ExcName → Option Value} {mg mb : PySem.Str → Option Value} {dp un : Nat} {gd : Option (List PySem.Code)} {cn : PySem.Str} {cs : PySem.Scope} {a : PySem.Addr} {ccd : Value} {cl : List (PySem.Str × PySem.Addr)} {outer : List PySem.Env} {A₀ : PySem.Around} {base h₀ : PySem.Heap} {L : PySem.Addr} {m : PySem.Str → Option Value} {s : PySem.Shared} {Q E : Value → PySem.Shared → Prop} {news : List (PySem.Addr × PySem.Obj)} {x y ring : Int} {t1 t2 t3 : PySem.Tok}
    (B : Below A₀ base outer h₀) (F : Fr h₀ L s.heap m) (X : (kit.heap_1 w.params).In h₀) (N : News h₀ L s.heap news) (T : Top qv loose0 mean mg mb h₀) (hk : cs.kind = .function) (hd0 : dp + 3 < recursionLimit) (hr : ring ≠ 0)
    (hret : ∀ h' tk', Fr h₀ L h' m → News h₀ L h' news → Q (.bool (beforeB x y ring)) { s with heap := h', toks := tk' }) :
    wpAny (model P0 w) (ktrTop dp un gd cn cs L a ccd cl outer) (PySem.call (.ref 42) [.int x t1, .int y t2, .int ring t3]) Q E s := by
  have hfill : PySem.Challenge.rw_xw0346_01 = PySem.Challenge.rw_xw0346_01 ∧ kit.heap_1 = kit.heap_1 := by
    k_fill
    exact ⟨rfl, rfl⟩
  clear hfill
  refine wpAny_call ?_
  k_dflt cell_enter
  k_steps
  · exact bool_ret hret (before_t (by assumption)) (by k_asm) (by k_asm)
  · exact bool_ret hret (before_f (by assumption)) (by k_asm) (by k_asm)
local macro_rules | `(tactic| walk_at "call ref") => `(tactic| (k_here; (with_reducible show wpAny _ _ (PySem.call (Value.ref (nat_lit 42)) _ _) _ _ _); k_dflt (refine' Mine.before_ok (B := ?k1) (F := ?k2) (X := ?k3) (N := ?k4) (T := ?k5) (hk := ?k6) (hd0 := ?kd) (hr := ?kr) (hret := ?_); (case k1 => k_asm); (case k2 => k_asm); (case k3 => k_asm); (case k4 => k_asm); (case k5 => k_asm); (case k6 => first | exact rfl | assumption); (case kd => k_room); (case kr => first | assumption | omega); intro h9 tk9 F9 N9; (try dsimp only); (try k_fold); (try k_sweep))))
set_option maxRecDepth 100000 in
set_option maxHeartbeats 2000000 in
theorem sync_ok {w : World} {mean : PySem.ExcName → Option Value} {mg mb : PySem.Str → Option Value} {dp un : Nat} {gd : Option (List PySem.Code)} {cn : PySem.Str} {cs : PySem.Scope} {a : PySem.Addr} {ccd : Value} {cl : List (PySem.Str × PySem.Addr)} {outer : List PySem.Env} {A₀ : PySem.Around} {base h₀ : PySem.Heap} {L : PySem.Addr} {m : PySem.Str → Option Value} {s : PySem.Shared} {Q E : Value → PySem.Shared → Prop} {news : List (PySem.Addr × PySem.Obj)} {st : PySem.Str} {t1 : PySem.Tok}
    (B : Below A₀ base outer h₀) (F : Fr h₀ L s.heap m) (X : (kit.heap_1 w.params).In h₀) (N : News h₀ L s.heap news) (T : Top qv loose0 mean mg mb h₀) (hk : cs.kind = .function) (hd0 : dp + 1 < recursionLimit)
    (hret : ∀ h' tk', Fr h₀ L h' m → News h₀ L h' news → Q (.bool (openB st)) { s with heap := h', toks := tk' }) :
    wpAny (model P0 w) (ktrTop dp un gd cn cs L a ccd cl outer) (PySem.call (.ref 150) [.str st t1]) Q E s := by
  have hfill : PySem.Challenge.rw_xw0346_01 = PySem.Challenge.rw_xw0346_01 ∧ kit.heap_1 = kit.heap_1 := by
    k_fill
    exact ⟨rfl, rfl⟩
  clear hfill
  refine wpAny_call ?_
  k_dflt cell_enter
  k_steps
  exact bool_ret hret rfl (by k_asm) (by first | k_asm | exact news_tl (by k_asm))
local macro_rules | `(tactic| walk_at "call ref") => `(tactic| (k_here; (with_reducible show wpAny _ _ (PySem.call (Value.ref (nat_lit 150)) _ _) _ _ _); k_dflt (refine' Mine.sync_ok (B := ?k1) (F := ?k2) (X := ?k3) (N := ?k4) (T := ?k5) (hk := ?k6) (hd0 := ?kd) (hret := ?_); (case k1 => k_asm); (case k2 => k_asm); (case k3 => k_asm); (case k4 => k_asm); (case k5 => k_asm); (case k6 => first | exact rfl | assumption); (case kd => k_room); intro h9 tk9 F9 N9; (try dsimp only); (try k_fold); (try k_sweep))))
local macro_rules | `(tactic| k_get) => `(tactic| assumption)
set_option maxRecDepth 100000 in
set_option maxHeartbeats 2000000 in
theorem toofar_ok {w : World} {mean : PySem.ExcName → Option Value} {mg mb : PySem.Str → Option Value} {dp un : Nat} {gd : Option (List PySem.Code)} {cn : PySem.Str} {cs : PySem.Scope} {a : PySem.Addr} {ccd : Value} {cl : List (PySem.Str × PySem.Addr)} {outer : List PySem.Env} {A₀ : PySem.Around} {base h₀ : PySem.Heap} {L : PySem.Addr} {m : PySem.Str → Option Value} {s : PySem.Shared} {Q E : Value → PySem.Shared → Prop} {rest : List (PySem.Addr × PySem.Obj)} {ring awaited oldest greatest ack : Int} {t1 : PySem.Tok}
    {Tc dT Li dLi Se dSe Re dRe : PySem.Addr} {esT esL esS esR : List PySem.DictEntry} {nT nL nS nR : Nat}
    (B : Below A₀ base outer h₀) (F : Fr h₀ L s.heap m) (X : (kit.heap_1 w.params).In h₀) (N : News h₀ L s.heap ((Tc, instObj 1091 dT) :: (dT, dictOf esT nT) :: (Li, instObj 1048 dLi) :: (dLi, dictOf esL nL) :: (Se, instObj 960 dSe) :: (dSe, dictOf esS nS) :: (Re, instObj 390 dRe) :: (dRe, dictOf esR nR) :: rest)) (T : Top qv loose0 mean mg mb h₀) (hk : cs.kind = .function) (hd0 : dp + 6 < recursionLimit)
    (hE : EndAt ring awaited oldest greatest Tc dT Li dLi Se dSe Re dRe esT esL esS esR) (hr : ring ≠ 0)
    (hret : ∀ h' tk', Fr h₀ L h' m → News h₀ L h' ((Tc, instObj 1091 dT) :: (dT, dictOf esT nT) :: (Li, instObj 1048 dLi) :: (dLi, dictOf esL nL) :: (Se, instObj 960 dSe) :: (dSe, dictOf esS nS) :: (Re, instObj 390 dRe) :: (dRe, dictOf esR nR) :: rest) → Q (.bool (toofarB oldest greatest ack ring)) { s with heap := h', toks := tk' }) :
    wpAny (model P0 w) (ktrTop dp un gd cn cs L a ccd cl outer) (PySem.call (.ref 164) [.ref Tc, .int ack t1]) Q E s := by
  have hfill : PySem.Challenge.rw_xw0346_01 = PySem.Challenge.rw_xw0346_01 ∧ kit.heap_1 = kit.heap_1 := by
    k_fill
    exact ⟨rfl, rfl⟩
  clear hfill
  obtain ⟨e0, es0, e1, e2, e3, ⟨u1, e4⟩, ⟨u2, e5⟩, ⟨u3, e6⟩, ⟨u4, e7⟩, e9, ⟨u5, e8⟩, o1, o2, o3, o4, o5, o6, o7⟩ := hE
  refine wpAny_call ?_
  k_dflt cell_enter
  k_steps
  · exact bool_ret hret (far_t (by assumption)) (by k_asm) (by k_asm)
  · exact bool_ret hret (far_f (by assumption)) (by k_asm) (by first | k_asm | exact news_tl (by k_asm))
local macro_rules | `(tactic| walk_at "call ref") => `(tactic| (k_here; (with_reducible show wpAny _ _ (PySem.call (Value.ref (nat_lit 164)) _ _) _ _ _); k_dflt (refine' Mine.toofar_ok (B := ?k1) (F := ?k2) (X := ?k3) (N := ?k4) (T := ?k5) (hk := ?k6) (hd0 := ?kd) (hE := ?kE) (hr := ?kr) (hret := ?_); (case k1 => k_asm); (case k2 => k_asm); (case k3 => k_asm); (case kE => assumption); (case k4 => exact Mine.news_tl (Mine.news_tl (by k_asm))); (case k5 => k_asm); (case k6 => first | exact rfl | assumption); (case kd => k_room); (case kr => first | assumption | omega); intro h9 tk9 F9 N9; (try dsimp only); (try k_fold); (try k_sweep))))
set_option maxRecDepth 100000 in
set_option maxHeartbeats 2000000 in
theorem old_ok {w : World} {mean : PySem.ExcName → Option Value} {mg mb : PySem.Str → Option Value} {dp un : Nat} {gd : Option (List PySem.Code)} {cn : PySem.Str} {cs : PySem.Scope} {a : PySem.Addr} {ccd : Value} {cl : List (PySem.Str × PySem.Addr)} {outer : List PySem.Env} {A₀ : PySem.Around} {base h₀ : PySem.Heap} {L : PySem.Addr} {m : PySem.Str → Option Value} {s : PySem.Shared} {Q E : Value → PySem.Shared → Prop} {rest : List (PySem.Addr × PySem.Obj)} {ring awaited oldest greatest seq ack flags : Int} {st : PySem.Str} {t1 t2 t3 t4 : PySem.Tok}
    {Tc dT Li dLi Se dSe Re dRe Sg dG : PySem.Addr} {esT esL esS esR esG : List PySem.DictEntry} {nT nL nS nR nG : Nat}
    (B : Below A₀ base outer h₀) (F : Fr h₀ L s.heap m) (X : (kit.heap_1 w.params).In h₀) (N : News h₀ L s.heap ((Sg, instObj 139 dG) :: (dG, dictOf esG nG) :: (Tc, instObj 1091 dT) :: (dT, dictOf esT nT) :: (Li, instObj 1048 dLi) :: (dLi, dictOf esL nL) :: (Se, instObj 960 dSe) :: (dSe, dictOf esS nS) :: (Re, instObj 390 dRe) :: (dRe, dictOf esR nR) :: rest)) (T : Top qv loose0 mean mg mb h₀) (hk : cs.kind = .function) (hd0 : dp + 9 < recursionLimit)
    (hE : EndAt ring awaited oldest greatest Tc dT Li dLi Se dSe Re dRe esT esL esS esR) (hr : ring ≠ 0)
    (g1 : getL (PySem.Str.ofString "flags") esG = some (some (.int flags t1))) (g2 : getL (PySem.Str.ofString "seq") esG = some (some (.int seq t2))) (g3 : getL (PySem.Str.ofString "ack") esG = some (some (.int ack t3))) (g4 : getL (PySem.Str.ofString "has") esG = some none) (g5 : getL (PySem.Str.ofString "state") esT = some (some (.str st t4)))
    (hret : ∀ h' tk', Fr h₀ L h' m → News h₀ L h' ((Tc, instObj 1091 dT) :: (dT, dictOf esT nT) :: (Li, instObj 1048 dLi) :: (dLi, dictOf esL nL) :: (Se, instObj 960 dSe) :: (dSe, dictOf esS nS) :: (Re, instObj 390 dRe) :: (dRe, dictOf esR nR) :: rest) → Q (.bool (oldB flags (openB st) (beforeB seq awaited ring) (toofarB oldest greatest ack ring))) { s with heap := h', toks := tk' }) :
    wpAny (model P0 w) (ktrTop dp un gd cn cs L a ccd cl outer) (PySem.call (.ref 157) [.ref Tc, .ref Sg]) Q E s := by
  have hfill : PySem.Challenge.rw_xw0346_01 = PySem.Challenge.rw_xw0346_01 ∧ kit.heap_1 = kit.heap_1 := by
    k_fill
    exact ⟨rfl, rfl⟩
  clear hfill
  obtain ⟨e0, es0, e1, e2, e3, ⟨u1, e4⟩, ⟨u2, e5⟩, ⟨u3, e6⟩, ⟨u4, e7⟩, e9, ⟨u5, e8⟩, o1, o2, o3, o4, o5, o6, o7⟩ := id hE
  refine wpAny_call ?_
  k_dflt cell_enter
  k_steps
  all_goals first
    | exact bool_ret hret (old_2 (by assumption) (by assumption) (by assumption) (by assumption)) (by k_asm) (by first | k_asm | exact news_tl (by k_asm) | exact news_tl (news_tl (by k_asm)))
    | exact bool_ret hret (old_3 (by assumption)) (by k_asm) (by first | k_asm | exact news_tl (by k_asm) | exact news_tl (news_tl (by k_asm)))
    | exact bool_ret hret (old_1 (by assumption)) (by k_asm) (by first | k_asm | exact news_tl (by k_asm) | exact news_tl (news_tl (by k_asm)))
    | exact bool_ret hret (old_4 (by assumption)) (by k_asm) (by first | k_asm | exact news_tl (by k_asm) | exact news_tl (news_tl (by k_asm)))
    | exact bool_ret hret (old_5 (by assumption)) (by k_asm) (by first | k_asm | exact news_tl (by k_asm) | exact news_tl (news_tl (by k_asm)))
end Mine
end
section
open PySem PySem.W PyProof.Rows
namespace Mine
theorem ring_dist (a n r : Int) (hr : 0 ≤ r) : ((a + n).fmod r - a).fmod r = n.fmod r := by
  rw [Int.fmod_eq_emod_of_nonneg _ hr, Int.fmod_eq_emod_of_nonneg _ hr, Int.fmod_eq_emod_of_nonneg _ hr, Int.sub_emod, Int.emod_emod, ← Int.sub_emod]
  rw [show a + n - a = n from by omega]
theorem ring_gap (a n r : Int) (hr : 0 ≤ r) : (a - (a + n).fmod r).fmod r = (-n).fmod r := by
  rw [Int.fmod_eq_emod_of_nonneg _ hr, Int.fmod_eq_emod_of_nonneg _ hr, Int.fmod_eq_emod_of_nonneg _ hr, Int.sub_emod, Int.emod_emod, ← Int.sub_emod]
  rw [show a - (a + n) = -n from by omega]
theorem fmod_small {n r : Int} (h0 : 0 ≤ n) (h1 : n < r) : n.fmod r = n := by
  rw [Int.fmod_eq_emod_of_nonneg _ (by omega)]
  exact Int.emod_eq_of_lt h0 h1
theorem fmod_neg_small {n r : Int} (h0 : n < 0) (h1 : -r < n) : n.fmod r = n + r := by
  rw [Int.fmod_eq_emod_of_nonneg _ (by omega)]
  rw [show n % r = (n + r) % r from by rw [Int.add_emod_right]]
  exact Int.emod_eq_of_lt (by omega) (by omega)
theorem before_law {a n r : Int} (hr : 64 ≤ r) (he : r % 2 = 0) (h1 : -r < 2 * n) (h2 : 2 * n ≤ r) : beforeB ((a + n).fmod r) a r = (decide (0 - r.fdiv 2 < n) && decide (n < 0)) := by
  unfold beforeB
  rw [ring_gap a n r (by omega), Int.fdiv_eq_ediv_of_nonneg r (by decide)]
  rcases Int.lt_trichotomy n 0 with h | h | h
  · rw [fmod_small (by omega) (by omega)]
    have q1 : 0 < -n := by omega
    have q2 : 2 * -n < r := by omega
    have q3 : -(r / 2) < n := by omega
    simp [q1, q2, q3, h]
  · subst h
    rw [show (-0 : Int) = 0 from rfl, fmod_small (by omega) (by omega)]
    simp
  · rw [fmod_neg_small (by omega) (by omega)]
    have q2 : ¬ 2 * (-n + r) < r := by omega
    have q3 : ¬ n < 0 := by omega
    simp [q2, q3]
theorem far_law {a n many r : Int} (hr : 64 ≤ r) (he : r % 2 = 0) (h1 : -r < 2 * n) (h2 : 2 * n ≤ r) (hm0 : 0 ≤ many) (hm1 : many ≤ 20) : (!toofarB a ((a + many).fmod r) ((a + n).fmod r) r) = decide (n ≤ many) := by
  unfold toofarB
  rw [before_law hr he h1 h2, ring_dist a n r (by omega), ring_dist a many r (by omega), fmod_small hm0 (by omega : many < r), Int.fdiv_eq_ediv_of_nonneg r (by decide)]
  rcases Int.lt_or_le n 0 with h | h
  · have q3 : -(r / 2) < n := by omega
    have q4 : n ≤ many := by omega
    simp [q3, h, q4]
  · rw [fmod_small h (by omega)]
    have q3 : ¬ n < 0 := by omega
    have q5 : decide (many < n) = !decide (n ≤ many) := by
      by_cases hq : n ≤ many
      · have : ¬ many < n := by omega
        simp [hq, this]
      · have : many < n := by omega
        simp [hq, this]
    simp [q3, q5]
set_option maxRecDepth 10000 in
theorem flags_all : ∀ k : Fin 64, (decide (PySem.Builtin.bitAnd (k.val : Int) 16 ≠ 0) = (((k.val : Int).fdiv 16).fmod 2 == 1)) ∧ (decide (PySem.Builtin.bitAnd (k.val : Int) 2 = 0) = (((k.val : Int).fdiv 2).fmod 2 == 0)) := by decide +kernel
theorem flags_law {f : Int} (h0 : 0 ≤ f) (h1 : f < 64) : (decide (PySem.Builtin.bitAnd f 16 ≠ 0) && decide (PySem.Builtin.bitAnd f 2 = 0)) = tellB f := by
  have h := flags_all ⟨f.toNat, by omega⟩
  have e : ((f.toNat : Nat) : Int) = f := by omega
  rw [e] at h
  unfold tellB
  rw [h.1, h.2]
theorem row_law {st : PySem.Str} {flags awaited oldest far near many r : Int} (hr : 64 ≤ r) (he : r % 2 = 0) (hf0 : 0 ≤ flags) (hf1 : flags < 64) (h1 : -r < 2 * far) (h2 : 2 * far ≤ r) (h3 : -r < 2 * near) (h4 : 2 * near ≤ r) (hm0 : 0 ≤ many) (hm1 : many ≤ 20) :
    oldB flags (openB st) (beforeB ((awaited + far).fmod r) awaited r) (toofarB oldest ((oldest + many).fmod r) ((oldest + near).fmod r) r) = dueB (openB st) (tellB flags) r far near many := by
  unfold oldB dueB
  rw [flags_law hf0 hf1, before_law hr he h1 h2, far_law hr he h3 h4 hm0 hm1]
  cases openB st <;> cases tellB flags <;> simp [Bool.and_assoc]
end Mine
end
section
open PySem PySem.W PyProof.Rows
namespace Mine
local macro_rules | `(tactic| k_mem) => `(tactic| first | exact Mine.Pick.head | (refine' Mine.Pick.tail ?_; k_mem))
local macro_rules | `(tactic| k_room) => `(tactic| ktr_room)
local macro_rules | `(tactic| k_all) => `(tactic| assumption)
local macro_rules | `(tactic| k_get) => `(tactic| assumption)
local macro_rules | `(tactic| walk_at "call ref") => `(tactic| (k_here; (with_reducible show wpAny _ _ (PySem.call (Value.ref (nat_lit 157)) _ _) _ _ _); k_dflt (refine' Mine.old_ok (B := ?k1) (F := ?k2) (X := ?k3) (N := ?k4) (T := ?k5) (hk := ?k6) (hd0 := ?kd) (hE := ?kE) (hr := ?kr) (g1 := ?g1) (g2 := ?g2) (g3 := ?g3) (g4 := ?g4) (g5 := ?g5) (hret := ?_); (case k1 => k_asm); (case k2 => k_asm); (case k3 => k_asm); (case kE => assumption); (case k4 => first | k_asm | exact Mine.news_d3 (by k_asm)); (case k5 => k_asm); (case k6 => first | exact rfl | assumption); (case kd => k_room); (case kr => first | assumption | omega); (case g1 => k_get); (case g2 => k_get); (case g3 => k_get); (case g4 => k_get); (case g5 => k_get); intro h9 tk9 F9 N9; (try dsimp only); (try k_fold); (try k_sweep))))
theorem due_1 {o t : Bool} {ring far near many : Int} (ho : o = true) (ht : t = true) (h1 : 0 - ring.fdiv 2 < far) (h2 : far < 0) : decide (near ≤ many) = dueB o t ring far near many := by
  simp only [dueB, ho, ht, decide_eq_true h1, decide_eq_true h2, Bool.and_self, Bool.true_and]
theorem far_low {ring far : Int} (h : -ring < 2 * far) (he : ring % 2 = 0) : 0 - ring.fdiv 2 < far := by
  rw [Int.fdiv_eq_ediv_of_nonneg ring (by decide)]
  omega
theorem row_end {b b' : Bool} {S : PySem.Shared} {Q : Value → PySem.Shared → Prop} (e : b = b') (h : Q (.bool true) S) : Q (.bool (b == b')) S := by
  subst e
  rw [beq_self_eq_true]
  exact h
/-- what the caller of a row must bear: the row answers True, the end stands as before, its state is another -/
def RowRet (h₀ : PySem.Heap) (L : PySem.Addr) (m : PySem.Str → Option Value) (ring awaited oldest greatest : Int) (Tc dT Li dLi Se dSe Re dRe : PySem.Addr) (esL esS esR : List PySem.DictEntry) (nL nS nR : Nat) (rest : List (PySem.Addr × PySem.Obj)) (s : PySem.Shared) (Q : Value → PySem.Shared → Prop) : Prop :=
  ∀ esT nT h' tk', EndAt ring awaited oldest greatest Tc dT Li dLi Se dSe Re dRe esT esL esS esR → Fr h₀ L h' m →
    News h₀ L h' ((Tc, instObj 1091 dT) :: (dT, dictOf esT nT) :: (Li, instObj 1048 dLi) :: (dLi, dictOf esL nL) :: (Se, instObj 960 dSe) :: (dSe, dictOf esS nS) :: (Re, instObj 390 dRe) :: (dRe, dictOf esR nR) :: rest) → Q (.bool true) { s with heap := h', toks := tk' }
set_option maxRecDepth 100000 in
set_option maxHeartbeats 2000000 in
theorem row_ok {w : World} {mean : PySem.ExcName → Option Value} {mg mb : PySem.Str → Option Value} {cn : PySem.Str} {cs : PySem.Scope} {a : PySem.Addr} {ccd : Value} {base h₀ : PySem.Heap}
    {L : PySem.Addr} {m : PySem.Str → Option Value} {s : PySem.Shared} {ring awaited oldest greatest far near many flags : Int} {st : PySem.Str} {t1 t2 t3 t4 t5 : PySem.Tok} {rest : List (PySem.Addr × PySem.Obj)} {Q E : Value → PySem.Shared → Prop}
    {Tc dT Li dLi Se dSe Re dRe : PySem.Addr} {esT esL esS esR : List PySem.DictEntry} {nT nL nS nR : Nat}
    (B : Below callerA base [] h₀) (F : Fr h₀ L s.heap m) (X : (kit.heap_1 w.params).In h₀) (T : Top qv loose0 mean mg mb h₀)
    (N : News h₀ L s.heap ((Tc, instObj 1091 dT) :: (dT, dictOf esT nT) :: (Li, instObj 1048 dLi) :: (dLi, dictOf esL nL) :: (Se, instObj 960 dSe) :: (dSe, dictOf esS nS) :: (Re, instObj 390 dRe) :: (dRe, dictOf esR nR) :: rest))
    (hE : EndAt ring awaited oldest greatest Tc dT Li dLi Se dSe Re dRe esT esL esS esR) (hrest : ∀ p ∈ rest, p.1 ≠ dT)
    (hk : cs.kind = .function) (hr0 : 64 ≤ ring) (hr1 : ring ≤ 4294967296) (ha0 : 0 ≤ awaited) (ha1 : awaited < ring) (ho0 : 0 ≤ oldest) (ho1 : oldest < ring) (hm0 : 0 ≤ many) (hm1 : many ≤ 20) (hg : greatest = (oldest + many).fmod ring) (hre : ring % 2 = 0) (hf0 : 0 ≤ flags) (hf1 : flags < 64) (hfa : -ring < 2 * far) (hfb : 2 * far ≤ ring) (hna : -ring < 2 * near) (hnb : 2 * near ≤ ring)
    (hret : RowRet h₀ L m ring awaited oldest greatest Tc dT Li dLi Se dSe Re dRe esL esS esR nL nS nR rest s Q) :
    wpAny (model P0 w) (callerA.deeper (envOf cn cs L a ccd)) (PySem.call (.ref 1130) [.ref Tc, .str st t1, .int flags t2, .int far t3, .int near t4, .int many t5]) Q E s := by
  have hfill : PySem.Challenge.rw_xw0346_01 = PySem.Challenge.rw_xw0346_01 ∧ kit.heap_1 = kit.heap_1 := by
    k_fill
    exact ⟨rfl, rfl⟩
  clear hfill
  obtain ⟨e0, es0, e1, e2, e3, ⟨u1, e4⟩, ⟨u2, e5⟩, ⟨u3, e6⟩, ⟨u4, e7⟩, e9, ⟨u5, e8⟩, o1, o2, o3, o4, o5, o6, o7⟩ := id hE
  refine wpAny_call ?_
  k_dflt cell_enter
  refine execs_hold ?_
  k_steps
  unfold Hold
  refine execs_hold ?_
  k_steps
  refine set_state (by k_asm) (by k_asm) (by k_asm) (Nat.ne_of_gt o3) (by k_all) e0 es0 ?_
  intro es2 n2 h2 hlen2 hoth2 hself2 F2 N2
  have hE2 := hE.stored hlen2 hoth2 hself2
  have f1 := hoth2 _ _ rfl e1
  have f2 := hoth2 _ _ rfl e2
  have f3 := hoth2 _ _ rfl e3
  (try dsimp only)
  (try k_sweep)
  show Hold _
  unfold Hold
  refine execs_hold (PySem.wpAny_Assign_Name (bool_join (openB st) (by k_asm) (by k_asm) ?_ ?_))
  · k_steps
    all_goals first
      | exact ⟨rfl, _, _, rfl, by k_asm, by first | k_asm | exact news_tl (by k_asm)⟩
  intro h4 tk4 F4 N4
  (try k_fold)
  k_steps
  unfold Hold
  refine execs_hold (PySem.wpAny_Assign_Name (bool_join (tellB flags) (by k_asm) (by k_asm) ?_ ?_))
  · k_steps
    all_goals refine ⟨?_, _, _, rfl, by k_asm, by k_asm⟩
    all_goals (simp only [Value.bool.injEq])
    all_goals first
      | exact tell_t (by assumption)
      | exact tell_f (by assumption)
  intro h5 tk5 F5 N5
  (try k_fold)
  k_steps
  unfold Hold
  refine execs_hold (PySem.wpAny_Assign_Name (bool_join (dueB (openB st) (tellB flags) ring far near many) (by k_asm) (by k_asm) ?_ ?_))
  · k_steps
    all_goals refine ⟨?_, _, _, rfl, by k_asm, by k_asm⟩
    all_goals (simp only [Value.bool.injEq])
    all_goals first
      | exact due_1 (by assumption) (by assumption) (far_low hfa hre) (by assumption)
      | (simp_all only [dueB, Bool.true_and, Bool.false_and, decide_true, decide_false, Bool.and_false, Bool.and_true]; done)
  intro h6 tk6 F6 N6
  (try k_fold)
  k_steps
  unfold Hold
  refine execs_hold ?_
  k_steps
  unfold Hold
  k_steps
  unfold RowRet at hret
  exact row_end (by rw [hg]; exact row_law hr0 hre hf0 hf1 hfa hfb hna hnb hm0 hm1) (hret _ _ _ _ hE2 (by k_asm) (by k_asm))
end Mine
end
section
open PySem PySem.W PyProof.Rows
namespace Mine
local macro_rules | `(tactic| k_mem) => `(tactic| first | exact Mine.Pick.head | (refine' Mine.Pick.tail ?_; k_mem))
local macro_rules | `(tactic| k_room) => `(tactic| ktr_room)
local macro_rules | `(tactic| walk_at "CompSrc") => `(tactic| (k_here; k_dflt (refine LCg.CompSrc.range (by rfl) (by k_asm) (by k_asm) (by assumption) (by decide) (by first | rfl | exact rangeSize_nat _ _) (by first | exact Nat.le_of_ble_eq_true rfl | decide) ?_; intro g'; refine' Mine.comp_lists trivial (fun ys9 hys9 => ?_))))
local macro_rules | `(tactic| walk_at "call ref") => `(tactic| (k_here; (with_reducible show wpAny _ _ (PySem.call (Value.ref (nat_lit 769)) _ _) _ _ _); k_dflt (refine' Mine.peer_ok (B := ?k1) (F := ?k2) (X := ?k3) (T := ?k5) (hk := ?k6) (hd0 := ?kd) (hret := ?_); (case k1 => k_asm); (case k2 => k_asm); (case k3 => k_asm); (case k5 => k_asm); (case k6 => exact rfl); (case kd => ktr_room); intro x9 h9 tk9 k9; (have F9 := Mine.Keep.fr k9 (by k_asm)); (have N9 := Mine.Keep.news k9 (by k_asm)); clear k9; (try dsimp only at F9 N9); (try dsimp only); (try k_fold); (try k_sweep))))
local macro_rules | `(tactic| walk_at "call ref") => `(tactic| (k_here; (with_reducible show wpAny _ _ (PySem.call (Value.ref (nat_lit 727)) _ _) _ _ _); k_dflt (refine' Mine.queue_ok (B := ?k1) (F := ?k2) (X := ?k3) (T := ?k5) (hk := ?k6) (hd0 := ?kd) (ha := by first | decide | omega) (hret := ?_); (case k1 => k_asm); (case k2 => k_asm); (case k3 => k_asm); (case k5 => k_asm); (case k6 => exact rfl); (case kd => ktr_room); intro x9 h9 tk9 k9; (have F9 := Mine.Keep.fr k9 (by k_asm)); (have N9 := Mine.Keep.news k9 (by k_asm)); clear k9; (try dsimp only at F9 N9); (try dsimp only); (try k_fold); (try k_sweep))))
local macro_rules | `(tactic| walk_at "call ref") => `(tactic| (k_here; (with_reducible show wpAny _ _ (PySem.call (Value.ref (nat_lit 538)) _ _) _ _ _); k_dflt (refine' Mine.congestion_ok (B := ?k1) (F := ?k2) (X := ?k3) (T := ?k5) (hk := ?k6) (hd0 := ?kd) (hret := ?_); (case k1 => k_asm); (case k2 => k_asm); (case k3 => k_asm); (case k5 => k_asm); (case k6 => exact rfl); (case kd => ktr_room); intro x9 h9 tk9 k9; (have F9 := Mine.Keep.fr k9 (by k_asm)); (have N9 := Mine.Keep.news k9 (by k_asm)); clear k9; (try dsimp only at F9 N9); (try dsimp only); (try k_fold); (try k_sweep))))
local macro_rules | `(tactic| walk_at "call ref") => `(tactic| (k_here; (with_reducible show wpAny _ _ (PySem.call (Value.ref (nat_lit 447)) _ _) _ _ _); k_dflt (refine' Mine.acks_ok (B := ?k1) (F := ?k2) (X := ?k3) (T := ?k5) (hk := ?k6) (hd0 := ?kd) (hret := ?_); (case k1 => k_asm); (case k2 => k_asm); (case k3 => k_asm); (case k5 => k_asm); (case k6 => exact rfl); (case kd => ktr_room); intro x9 h9 tk9 k9; (have F9 := Mine.Keep.fr k9 (by k_asm)); (have N9 := Mine.Keep.news k9 (by k_asm)); clear k9; (try dsimp only at F9 N9); (try dsimp only); (try k_fold); (try k_sweep))))
local macro_rules | `(tactic| walk_at "call ref") => `(tactic| (k_here; (with_reducible show wpAny _ _ (PySem.call (Value.ref (nat_lit 1027)) _ _) _ _ _); k_dflt (refine' Mine.wheel_ok (B := ?k1) (F := ?k2) (X := ?k3) (T := ?k5) (hk := ?k6) (hd0 := ?kd) (hret := ?_); (case k1 => k_asm); (case k2 => k_asm); (case k3 => k_asm); (case k5 => k_asm); (case k6 => exact rfl); (case kd => ktr_room); intro x9 h9 tk9 k9; (have F9 := Mine.Keep.fr k9 (by k_asm)); (have N9 := Mine.Keep.news k9 (by k_asm)); clear k9; (try dsimp only at F9 N9); (try dsimp only); (try k_fold); (try k_sweep))))
local macro_rules | `(tactic| walk_at "call ref") => `(tactic| (k_here; (with_reducible show wpAny _ _ (PySem.call (Value.ref (nat_lit 256)) _ _) _ _ _); k_dflt (refine' Mine.assembly_ok (B := ?k1) (F := ?k2) (X := ?k3) (T := ?k5) (hk := ?k6) (hd0 := ?kd) (hret := ?_); (case k1 => k_asm); (case k2 => k_asm); (case k3 => k_asm); (case k5 => k_asm); (case k6 => exact rfl); (case kd => ktr_room); intro x9 h9 tk9 k9; (have F9 := Mine.Keep.fr k9 (by k_asm)); (have N9 := Mine.Keep.news k9 (by k_asm)); clear k9; (try dsimp only at F9 N9); (try dsimp only); (try k_fold); (try k_sweep))))
local macro_rules | `(tactic| walk_at "call ref") => `(tactic| (k_here; (with_reducible show wpAny _ _ (PySem.call (Value.ref (nat_lit 671)) _ _) _ _ _); k_dflt (refine' Mine.rtt_ok (B := ?k1) (F := ?k2) (X := ?k3) (T := ?k5) (hk := ?k6) (hd0 := ?kd) (hret := ?_); (case k1 => k_asm); (case k2 => k_asm); (case k3 => k_asm); (case k5 => k_asm); (case k6 => exact rfl); (case kd => ktr_room); intro x9 h9 tk9 k9; (have F9 := Mine.Keep.fr k9 (by k_asm)); (have N9 := Mine.Keep.news k9 (by k_asm)); clear k9; (try dsimp only at F9 N9); (try dsimp only); (try k_fold); (try k_sweep))))
local macro_rules | `(tactic| walk_at "call ref") => `(tactic| (k_here; (with_reducible show wpAny _ _ (PySem.call (Value.ref (nat_lit 615)) _ _) _ _ _); k_dflt (refine' Mine.rclock_ok (B := ?k1) (F := ?k2) (X := ?k3) (T := ?k5) (hk := ?k6) (hd0 := ?kd) (hret := ?_); (case k1 => k_asm); (case k2 => k_asm); (case k3 => k_asm); (case k5 => k_asm); (case k6 => exact rfl); (case kd => ktr_room); intro x9 h9 tk9 k9; (have F9 := Mine.Keep.fr k9 (by k_asm)); (have N9 := Mine.Keep.news k9 (by k_asm)); clear k9; (try dsimp only at F9 N9); (try dsimp only); (try k_fold); (try k_sweep))))
theorem next_is {a ring : Int} (h0 : 0 ≤ a) (h1 : a < ring) : ((a - 1).fmod ring + 1).fmod ring = a := by
  have hr : 0 ≤ ring := by omega
  rw [Int.fmod_eq_emod_of_nonneg _ hr, Int.fmod_eq_emod_of_nonneg _ hr, Int.emod_add_emod]
  rw [show a - 1 + 1 = a from by omega]
  exact Int.emod_eq_of_lt h0 h1
def EndRet (ring awaited oldest many : Int) (src : PySem.Addr × PySem.Obj) (h₀ : PySem.Heap) (L : PySem.Addr) (m : PySem.Str → Option Value) (s : PySem.Shared) (Q : Value → PySem.Shared → Prop) : Prop :=
  ∀ (Tc dT Li dLi Se dSe Re dRe : PySem.Addr) (esT esL esS esR : List PySem.DictEntry) (nT nL nS nR : Nat) (h' : PySem.Heap) (tk' : Nat), EndAt ring awaited oldest ((oldest + many).fmod ring) Tc dT Li dLi Se dSe Re dRe esT esL esS esR → @LT.lt Nat _ src.1 dLi → Fr h₀ L h' m →
      News h₀ L h' [(Tc, instObj 1091 dT), (dT, dictOf esT nT), (Li, instObj 1048 dLi), (dLi, dictOf esL nL), (Se, instObj 960 dSe), (dSe, dictOf esS nS), (Re, instObj 390 dRe), (dRe, dictOf esR nR), src] → Q (.ref Tc) { s with heap := h', toks := tk' }
set_option maxRecDepth 100000 in
set_option maxHeartbeats 4000000 in
theorem end_okN {w : World} {mean : PySem.ExcName → Option Value} {mg mb : PySem.Str → Option Value} {cn : PySem.Str} {cs : PySem.Scope} {a : PySem.Addr} {ccd : Value} {base h₀ : PySem.Heap}
    {L : PySem.Addr} {m : PySem.Str → Option Value} {s : PySem.Shared} {ring awaited oldest many : Int} {t1 t2 t3 t4 : PySem.Tok} {src : PySem.Addr × PySem.Obj} {Q E : Value → PySem.Shared → Prop}
    (B : Below callerA base [] h₀) (F : Fr h₀ L s.heap m) (X : (kit.heap_1 w.params).In h₀) (N : News h₀ L s.heap [src]) (T : Top qv loose0 mean mg mb h₀)
    (hk : cs.kind = .function) (hr0 : 64 ≤ ring) (hr1 : ring ≤ 4294967296) (ha0 : 0 ≤ awaited) (ha1 : awaited < ring) (ho0 : 0 ≤ oldest) (ho1 : oldest < ring) (hm0 : 0 ≤ many) (hm1 : many ≤ 20)
    (hret : EndRet ring awaited oldest many src h₀ L m s Q) :
    wpN (model P0 w) (callerA.deeper (envOf cn cs L a ccd)) (PySem.call (.ref 1123) [.int ring t1, .int awaited t2, .int oldest t3, .int many t4]) Q E s := by
  have hfill : PySem.Challenge.rw_xw0346_01 = PySem.Challenge.rw_xw0346_01 ∧ kit.heap_1 = kit.heap_1 := by
    k_fill
    exact ⟨rfl, rfl⟩
  clear hfill
  refine wpN_call ?_
  k_dflt (refine' code_defN ?k1 ?k2 ?k3 ?k4 ?k5 ?kA ?kF ?kK ?k6 ?k7 ?k8 ?k9 ?kB ?_ ?c2 ?c3 ?c4 ?c5; (case kA => exact rfl); (case kF => exact rfl); (case kK => assumption); (case k1 => k_asm); (case k2 => k_asm); (case k3 => k_asm); (case k4 => k_asm); (case k5 => k_asm); (case k6 => k_is); (case k7 => k_is); (case k8 => ktr_room); (case k9 => exact BindsTo.of_eq rfl); (case c5 => decide); (case kB => exact locs rfl); (case c2 => exact rfl); (case c3 => exact rfl); (case c4 => exact rfl); k_whole; intro g' L' h' FG' F' N' B' X' T'; (try dsimp only); (try k_lift B'))
  refine wpN_execs_cons (wpN_of ?_)
  k_fold
  k_steps
  refine wpN_execs_cons (wpN_Assign_Tuple (wpN_Tuple (wpN_spliced_more (wpN_Call (wpN_of ?_)))))
  k_fold
  k_steps
  refine wpN_callWith_K (K := kit.heap_1 w.params) (by k_is) ?_
  k_fold
  k_steps
  k_dflt (refine' call_clsN ?k1 ?k2 ?k3 ?k4 ?k5 ?k6 ?_; (case k1 => k_asm); (case k2 => k_asm); (case k3 => k_asm); (case k4 => k_is); (case k5 => k_is); (case k6 => k_is); k_whole; intro x' d' h' F' N' l1 l2; (try k_lt l1); (try k_lt2 l2); (try k_sweep); (refine' code_defN ?k1 ?k2 ?k3 ?k4 ?k5 ?kA ?kF ?kK ?k6 ?k7 ?k8 ?k9 ?kB ?_ ?c2 ?c3 ?c4 ?c5; (case kA => exact rfl); (case kF => exact rfl); (case kK => exact rfl); (case k1 => k_asm); (case k2 => k_asm); (case k3 => k_asm); (case k4 => k_asm); (case k5 => k_asm); (case k6 => k_is); (case k7 => k_is); (case k8 => ktr_room); (case k9 => first | exact BindsTo.of_eq rfl | exact binds_K (by k_in) rfl (by k_is) rfl rfl rfl); (case c5 => decide); (case kB => exact locs rfl); (case c2 => exact rfl); (case c3 => exact rfl); (case c4 => exact rfl); k_whole; intro g' L' h' FG' F' N' B' X' T'; (try dsimp only); (try k_lift B')))
  refine wpN_execs_cons (wpN_of ?_)
  k_fold
  k_steps
  refine wpN_execs_cons (wpN_of ?_)
  k_fold
  k_steps
  refine wpN_execs_cons (wpN_of ?_)
  k_fold
  k_steps
  refine wpN_execs_cons (wpN_of ?_)
  k_fold
  k_steps
  refine wpN_execs_cons (wpN_Assign_Attribute (wpN_Call (wpN_of ?_)))
  k_fold
  k_steps
  refine wpN_callWith_type0 (call_bytearrayN ?_)
  intro h9 k9
  (have F9 := Mine.Keep.fr k9 (by k_asm))
  (have N9 := Mine.Keep.news k9 (by k_asm))
  clear k9
  (try dsimp only at F9 N9)
  (try dsimp only)
  refine wpN_of ?_
  (try k_fold)
  k_steps
  refine wpN_of ?_
  (try k_fold)
  k_steps
  refine wpN_of ?_
  (try k_fold)
  k_steps
  refine wpN_of ?_
  (try k_fold)
  k_steps
  refine wpN_of ?_
  (try k_fold)
  k_steps
  refine wpN_of ?_
  (try k_fold)
  k_steps
  refine wpN_of ?_
  (try k_fold)
  k_steps
  have e1 := next_is ha0 ha1
  unfold EndRet at hret
  refine hret _ _ _ _ _ _ _ _ _ _ _ _ _ _ _ _ _ _ ?hE ?hs (by k_asm) (news9 (by k_asm) (by k_mem) (by k_mem) (by k_mem) (by k_mem) (by k_mem) (by k_mem) (by k_mem) (by k_mem) (by k_mem))
  case hs => (first | assumption | exact And.left (by assumption) | exact And.left (And.right (by assumption)) | exact And.left (And.right (And.right (by assumption))) | exact And.left (And.right (And.right (And.right (by assumption)))))
  case hE =>
    refine ⟨?q0, ?qs, by k_get, by k_get, by k_get, ?q1, ?q2, ?q3, ?q4, by k_get, ?q5, ?q6⟩
    case q0 => exact ⟨_, by k_get⟩
    case qs => exact Nat.le_of_ble_eq_true rfl
    case q1 => exact ⟨_, by k_get⟩
    case q2 => exact ⟨_, by k_get⟩
    case q3 => exact ⟨_, by k_get⟩
    case q4 => exact ⟨_, by k_get⟩
    case q5 => exact ⟨_, Eq.trans (by k_get) (by rw [e1])⟩
    case q6 => refine ⟨?_, ?_, ?_, ?_, ?_, ?_, ?_⟩ <;> (first | assumption | exact And.left (by assumption) | exact And.left (And.right (by assumption)) | exact And.left (And.right (And.right (by assumption))) | exact And.left (And.right (And.right (And.right (by assumption)))))
end Mine
end
section
open PySem PySem.W PySem.Calls PyProof.Rows
namespace Mine
theorem call_fullN {prog : Program} {w : World} {A : Around} {R : Result → Shared → Prop} {s : Shared} {name : PySem.Str} {params : Arguments} {body : List Stmt} {scope : Scope}
    {dV kV pm cd doc : Value} {a : Addr} {o : Obj} {args : Args} {binds : List (PySem.Str × Value)}
    (hroom : A.depth < recursionLimit) (ho : s.heap.get? a = some o) (hdata : o.data = .func { docDef name params body scope pm cd doc with defaults := dV, kwdefaults := kV }) (hlim : s.heap.NoLimit) (hcd : s.heap.CodeRec cd name)
    (hbind : BindsTo s { docDef name params body scope pm cd doc with defaults := dV, kwdefaults := kV } args binds)
    (hloc : ∀ x ∈ binds, scope.names.lookup x.1 = some .local)
    (h : ∀ h₁, Fr s.heap s.heap.objs.size h₁ (fun x => binds.reverse.lookup x) →
      wpN (model prog w) (A.deeper (envOf name scope s.heap.objs.size a cd)) (execs body (envOf name scope s.heap.objs.size a cd))
        (fun f s' => R (.ok (.ret (match f with | .ret v => v | _ => .none))) s')
        (fun e s' => wpAny (model prog w) (A.deeper (envOf name scope s.heap.objs.size a cd)) (leaving (envOf name scope s.heap.objs.size a cd) e)
          (fun _ s'' => R (.error e) s'') (fun e' s'' => R (.error e') s'') s')
        { s with heap := h₁, toks := s.toks + binds.length })
    (hco : scope.isCoroutine = false := by rfl) (hgen : scope.isGenerator = false := by rfl) (hk : scope.kind = .function := by rfl)
    (hcell : ∀ x ∈ scope.names, x.2 ≠ .cell := by decide) :
    codeN (model prog w) A (.call (.ref a) args) R s := by
  refine codeN_call_function (body := body) hroom ho hdata hco hgen rfl hcd (hbind _ _ _ _ ?_)
  refine wpAny_newFunctionEnv hcell hloc (fun h₁ hns hsb => ⟨hlim.fresh _ hsb, codeN_func ?_⟩) hk
  exact h h₁ ⟨hns, fun b o e => hsb.extBut b o (Nat.ne_of_lt (Heap.lt_size e)) (Heap.get?_push_of_some _ e), Nat.le_refl _⟩
theorem enter_callN {M : Model} {A : Around} {s : Shared} {f : Value} {pos : List Value} {kw : List (PySem.Str × Value)} {c : ClaimW} {cl : PySem.Str → Option Addr} {mean : ExcName → Option Value} {args : List WData} {s₁ : Shared}
    (h : codeN M A (.call f ⟨pos, kw⟩) (GoodWG c cl mean args s₁) s) : wpN M A (PySem.call f pos kw) (fun v s' => GoodWG c cl mean args s₁ (.ok (.ret v)) s') (fun e s' => GoodWG c cl mean args s₁ (.error e) s') s :=
  wpN_call (codeN_mono h fun res s' g => by rcases g.1 with ⟨v, _, _, rfl, _⟩ | ⟨e, _, _, rfl, _⟩ <;> exact g)
end Mine
end
section
open PySem PySem.W PySem.Calls PyProof.Rows
namespace Mine
section
variable {prog : Program} {w : World} {A : Around} {E : Value → Shared → Prop} {s : Shared} {env : Env} {h₀ : Heap} {x : PySem.Str} {body : List Stmt} {Q : Flow → Shared → Prop}
/-- a loop over any walked thing, by an invariant over the frame and the ledger -/
theorem loop_walk {I : Addr} {fp wr : List Addr} {n : Nat} {P : Nat → Value → Prop} {St : Nat → Heap → Prop} {m₀ : PySem.Str → Option Value} {news : List (Addr × Obj)} (J : Nat → (PySem.Str → Option Value) → List (Addr × Obj) → Prop)
    (W : Walks prog w A I fp wr n P St) (hLf : env.locals ∉ fp) (hwr : ∀ b ∈ wr, h₀.get? b = none) (hnw : ∀ p ∈ news, p.1 ∉ wr) (hst : St 0 s.heap) (F : Fr h₀ env.locals s.heap m₀) (N : News h₀ env.locals s.heap news) (hj : J 0 m₀ news)
    (hfo : ∀ i m nx, J i m nx → ∀ q ∈ nx, q.1 ∉ wr → q.1 ∉ fp) (hall : ∀ b ∈ wr, ∀ i h, St i h → ∃ o, h.get? b = some o) (hwf : ∀ b ∈ wr, b ∈ fp)
    (turn : ∀ i v m₁ news₁ h tk own, i < n → P i v → J i m₁ news₁ → OwnOff own (news₁.map (·.1)) → Fr h₀ env.locals h (fun y => if y = x then some v else m₁ y) → News h₀ env.locals h (news₁ ++ own) →
      wpAny (model prog w) A (execs body env) (InvPostG h₀ env.locals (J (i + 1)) own { s with heap := h, toks := tk } Q) E { s with heap := h, toks := tk })
    (done : ∀ m₁ news₁ h tk, J n m₁ news₁ → Fr h₀ env.locals h m₁ → News h₀ env.locals h news₁ → Q .next { s with heap := h, toks := tk }) :
    LoopAtV prog w A h₀ env x body Q E (.ref I) s := by
  refine ⟨_, _, _, n, _, _, m₀, news, J, rfl, W, hLf, hwr, hnw, hst, F, N, hj, ?_, ?_⟩
  · rintro i v m₁ news₁ s₁ own ⟨h, tk, rfl⟩ hin hP hJ hoff hown _ hfp hst' F₁ N₁
    have hsep : OwnOff own (news₁.map (·.1)) := by
      intro p hp b hb e
      obtain ⟨q, hq, rfl⟩ := List.mem_map.mp hb
      exact hfo i m₁ news₁ hJ q hq (hoff q hq) (e ▸ hown p hp)
    have N₂ : News h₀ env.locals h (news₁ ++ own) := fun p hp => N₁ p ((List.mem_append.mp hp).elim (fun h => List.mem_append.mpr (.inr h)) fun h => List.mem_append.mpr (.inl h))
    refine wpAny_mono (turn i v m₁ news₁ h tk own hin hP hJ hsep F₁ N₂) (fun f s₂ p => ?_) fun _ _ e => e
    have fin : InvEndG h₀ env.locals (J (i + 1)) own { s with heap := h, toks := tk } s₂ → LoopStepU h₀ env.locals wr own (J (i + 1)) { s with heap := h, toks := tk } .next s₂ := by
      rintro ⟨h', tk', m', news', nx, e, F', N', hn, ho, ha, hm⟩
      refine ⟨rfl, h', tk', m', nx, e, F', fun p hp => N' p ((List.mem_append.mp hp).elim (ho p) (hn p)), fun p hp hq => ?_, hm⟩
      obtain ⟨o, hg⟩ := hall p.1 hq (i + 1) h hst'
      exact ha _ (hfp p.1 (hwf _ hq) (hwr _ hq) o hg) p.1 (List.mem_map.mpr ⟨p, hp, rfl⟩) rfl
    cases f with
    | ret v => exact .ret p
    | brk => exact .brk p
    | next => exact .next (fin p)
    | cont => exact .cont (fin p)
  · rintro h' tk m' news' F' N' _ hJ
    exact done m' news' h' tk hJ F' N'
end
end Mine
end
section
open PySem PySem.W PySem.Calls PyProof.Rows
namespace Mine
section
variable {prog : Program} {w : World} {A : Around} {E : Value → Shared → Prop} {s : Shared} {env : Env} {h₀ : Heap} {x : PySem.Str} {body : List Stmt} {Q : Flow → Shared → Prop}
theorem loop_list {l : Addr} {items : List Value} {nn : Nat} {m₀ : PySem.Str → Option Value} {news0 news : List (Addr × Obj)} (J : Nat → (PySem.Str → Option Value) → List (Addr × Obj) → Prop)
    (hh : A.handled = none) (hmem : (l, listOf items.toArray nn) ∈ news0) (hL : env.locals ≠ l) (F : Fr h₀ env.locals s.heap m₀) (N : News h₀ env.locals s.heap news0) (hsub : ∀ p ∈ news, p ∈ news0) (hj : J 0 m₀ news)
    (hfo : ∀ i m nx, J i m nx → ∀ q ∈ nx, q.1 ≠ l)
    (turn : ∀ i v m₁ news₁ h tk own, items[i]? = some v → J i m₁ news₁ → OwnOff own (news₁.map (·.1)) → Fr h₀ env.locals h (fun y => if y = x then some v else m₁ y) → News h₀ env.locals h (news₁ ++ own) →
      wpAny (model prog w) A (execs body env) (InvPostG h₀ env.locals (J (i + 1)) own { s with heap := h, toks := tk } Q) E { s with heap := h, toks := tk })
    (done : ∀ m₁ news₁ h tk, J items.length m₁ news₁ → Fr h₀ env.locals h m₁ → News h₀ env.locals h news₁ → Q .next { s with heap := h, toks := tk }) :
    wpAny (model prog w) A (pyIter (.ref l)) (fun it s₂ => LoopAtV prog w A h₀ env x body Q E it s₂) E s := by
  have hol : s.heap.get? l = some (listOf items.toArray nn) := (N _ hmem).1
  have hls : s.heap.IsList l items.toArray := ⟨_, hol, rfl, nn, rfl⟩
  have hne : l ≠ s.heap.objs.size := Nat.ne_of_lt (Heap.lt_size hol)
  refine wpAny_pyIter_list hls ?_
  have W := Walks.list (prog := prog) (w := w) hh s.heap.objs.size l hne items.toArray
  refine loop_walk (s := { s with heap := _ }) J W ?_ ?_ ?_ ⟨⟨_, Heap.get?_push_size _ rfl, rfl, rfl⟩, hls.at fun o e => Heap.get?_push_of_some _ e⟩ (F.push _) (fun p hp => ⟨Heap.get?_push_of_some _ (N p (hsub p hp)).1, (N p (hsub p hp)).2⟩) hj ?_ ?_ W.sub ?_ ?_
  · intro hm
    rcases List.mem_cons.mp hm with e | hm
    · exact absurd F.ns.lt (e ▸ Nat.lt_irrefl _)
    · exact hL (List.mem_singleton.mp hm)
  · intro b hb
    rw [List.mem_singleton.mp hb]
    exact next_is_new F
  · intro p hp hI
    exact absurd (Heap.lt_size (N p (hsub p hp)).1) ((List.mem_singleton.mp hI) ▸ Nat.lt_irrefl _)
  · intro i m nx hJ q hq hwr hfp
    rcases List.mem_cons.mp hfp with e | hm
    · exact hwr (List.mem_singleton.mpr e)
    · exact hfo i m nx hJ q hq (List.mem_singleton.mp hm)
  · intro b hb i h hst
    rw [List.mem_singleton.mp hb]
    obtain ⟨⟨oI, hoI, _⟩, _⟩ := hst
    exact ⟨oI, hoI⟩
  · intro i v m₁ news₁ h tk own _ hP hJ ho F₁ N₁
    exact turn i v m₁ news₁ h tk own (by simpa using hP) hJ ho F₁ N₁
  · intro m₁ news₁ h tk hJ F₁ N₁
    exact done m₁ news₁ h tk (by simpa using hJ) F₁ N₁
theorem loop_range {r : Addr} {b : Int} {n : Nat} {t u v : PySem.Tok} {m₀ : PySem.Str → Option Value} {news0 news : List (Addr × Obj)} (J : Nat → (PySem.Str → Option Value) → List (Addr × Obj) → Prop)
    (hh : A.handled = none) (hr : IsRange s.heap r 0 b 1 t u v) (hsmall : Builtin.Range.small 0 b 1 = true) (hn : Builtin.Range.rangeSize 0 b 1 = (n : Int)) (F : Fr h₀ env.locals s.heap m₀) (N : News h₀ env.locals s.heap news0) (hsub : ∀ p ∈ news, p ∈ news0) (hj : J 0 m₀ news)
    (turn : ∀ i v m₁ news₁ h tk own, i < n → J i m₁ news₁ → OwnOff own (news₁.map (·.1)) → Fr h₀ env.locals h (fun y => if y = x then some v else m₁ y) → News h₀ env.locals h (news₁ ++ own) →
      wpAny (model prog w) A (execs body env) (InvPostG h₀ env.locals (J (i + 1)) own { s with heap := h, toks := tk } Q) E { s with heap := h, toks := tk })
    (done : ∀ m₁ news₁ h tk, J n m₁ news₁ → Fr h₀ env.locals h m₁ → News h₀ env.locals h news₁ → Q .next { s with heap := h, toks := tk }) :
    wpAny (model prog w) A (pyIter (.ref r)) (fun it s₂ => LoopAtV prog w A h₀ env x body Q E it s₂) E s := by
  refine wpAny_pyIter_range hr hsmall ?_
  have W := Walks.range (prog := prog) (w := w) hh s.heap.objs.size 0 1 n
  refine loop_walk (s := { s with heap := _ }) J W ?_ ?_ ?_ ?_ (F.push _) (fun p hp => ⟨Heap.get?_push_of_some _ (N p (hsub p hp)).1, (N p (hsub p hp)).2⟩) hj ?_ ?_ W.sub ?_ ?_
  · intro hm
    exact absurd F.ns.lt ((List.mem_singleton.mp hm) ▸ Nat.lt_irrefl _)
  · intro b hb
    rw [List.mem_singleton.mp hb]
    exact next_is_new F
  · intro p hp hI
    exact absurd (Heap.lt_size (N p (hsub p hp)).1) ((List.mem_singleton.mp hI) ▸ Nat.lt_irrefl _)
  · rw [hn]
    exact Heap.get?_push_size _ rfl
  · intro i m nx hJ q hq hwr hfp
    exact hwr hfp
  · intro b hb i h hst
    rw [List.mem_singleton.mp hb]
    exact ⟨_, hst⟩
  · intro i v m₁ news₁ h tk own hi _ hJ ho F₁ N₁
    exact turn i v m₁ news₁ h tk own hi hJ ho F₁ N₁
  · intro m₁ news₁ h tk hJ F₁ N₁
    exact done m₁ news₁ h tk hJ F₁ N₁
end
end Mine
end
section
open PySem PySem.W PySem.Calls PyProof.Rows
namespace Mine
theorem fr_ps {h₀ h : Heap} {L : Addr} {m : PySem.Str → Option Value} {x : PySem.Str} {v : Value} {ps : List (PySem.Str × Value)} (hk : ∀ p ∈ ps, m p.1 = some p.2) (F : Fr h₀ L h (fun y => if y = x then some v else m y)) :
    Fr h₀ L h (fun y => if y = x then some v else kstB m ps y) := by
  have e : (fun y => if y = x then some v else kstB m ps y) = (fun y => if y = x then some v else m y) := by
    funext y
    rw [kstB_eq hk fun _ => rfl]
  rw [e]
  exact F
/-- between two turns of the last loop: the end stands, the source is two ints, some names hold what they held -/
def LoopJ (ps : List (PySem.Str × Value)) (ring awaited oldest greatest : Int) (Tc dT Li dLi Se dSe Re dRe b : PySem.Addr) (esL esS esR : List PySem.DictEntry) (nL nS nR : Nat) (tl : List (PySem.Addr × PySem.Obj)) (_i : Nat) (m : PySem.Str → Option Value) (nx : List (PySem.Addr × PySem.Obj)) : Prop :=
  ∃ (x y : Int) (t1 t2 : PySem.Tok) (n : Nat) (esT : List PySem.DictEntry) (nT : Nat), 0 ≤ x ∧ 0 ≤ y ∧ y < 2147483647 ∧ EndAt ring awaited oldest greatest Tc dT Li dLi Se dSe Re dRe esT esL esS esR ∧ (∀ p ∈ ps, m p.1 = some p.2) ∧
    nx = (b, listOf #[.int x t1, .int y t2] n) :: (Tc, instObj 1091 dT) :: (dT, dictOf esT nT) :: (Li, instObj 1048 dLi) :: (dLi, dictOf esL nL) :: (Se, instObj 960 dSe) :: (dSe, dictOf esS nS) :: (Re, instObj 390 dRe) :: (dRe, dictOf esR nR) :: tl
theorem hold_any {α : Type} {M : Model} {A : Around} {t : Sem α} {Q : α → Shared → Prop} {E : Value → Shared → Prop} {s : Shared} (h : wpAny M A t (fun v s' => Hold (Q v s')) E s) : wpAny M A t Q E s := h
theorem own_two {own tl : List (PySem.Addr × PySem.Obj)} {adr : List PySem.Addr} (h1 : OwnOff own adr) (h2 : OwnOff tl adr) : OwnOff (tl ++ own) adr := by
  intro p hp b hb
  rcases List.mem_append.mp hp with hp | hp
  · exact h2 p hp b hb
  · exact h1 p hp b hb
theorem flags_ok {d z : Int} (h : d ∈ ([16, 16, 17, 24, z] : List Int)) (h0 : 0 ≤ z) (h1 : z < 64) : 0 ≤ d ∧ d < 64 := by
  simp only [List.mem_cons, List.not_mem_nil, or_false] at h
  omega
theorem far_ok {d z half ring : Int} (h : d ∈ ([-1, -2, -1 - z, 0, 9, half] : List Int)) (h0 : 0 ≤ z) (h1 : z < half - 1) (hr : 64 ≤ ring) (hh : 2 * half = ring) : -ring < 2 * d ∧ 2 * d ≤ ring := by
  simp only [List.mem_cons, List.not_mem_nil, or_false] at h
  omega
theorem near_ok {d z many ring : Int} (h : d ∈ ([0, many, many + 1, -1 - z] : List Int)) (h0 : 0 ≤ z) (h1 : z < 9) (hm0 : 0 ≤ many) (hm1 : many ≤ 20) (hr : 64 ≤ ring) : -ring < 2 * d ∧ 2 * d ≤ ring := by
  simp only [List.mem_cons, List.not_mem_nil, or_false] at h
  omega
theorem noPylong_mid {x y : Int} (h : y.natAbs < 4611686018427387904) : Builtin.divisionGoesByPylong x y = false := by
  refine PyProof.noPylong_of_log2 ?_
  by_cases h0 : y.natAbs = 0
  · rw [h0]; decide +kernel
  · have h62 : y.natAbs.log2 < 62 := (Nat.log2_lt h0).mpr h
    omega
theorem half_more {r : Int} (h : 64 ≤ r) (he : r % 2 = 0) : 2 * r.fdiv 2 = r ∧ 32 ≤ r.fdiv 2 := by
  rw [Int.fdiv_eq_ediv_of_nonneg r (by decide)]
  omega
section
variable {prog : Program} {w : World} {A : Around} {E : Value → Shared → Prop} {s : Shared} {env : Env} {h₀ : Heap} {x : PySem.Str} {body : List Stmt} {Q : Flow → Shared → Prop}
variable {ring awaited oldest greatest : Int} {Tc dT Li dLi Se dSe Re dRe b : PySem.Addr} {esT esL esS esR : List PySem.DictEntry} {nT nL nS nR n0 : Nat} {x0 y0 : Int} {v1 v2 : PySem.Tok}
theorem loop_states {l : Addr} {items : List Value} {nn : Nat} {q1 q2 q3 q4 : Addr × Obj} {m₀ : PySem.Str → Option Value} (ps : List (PySem.Str × Value)) (hh : A.handled = none) (hL : env.locals ≠ l) (F : Fr h₀ env.locals s.heap m₀)
    (N : News h₀ env.locals s.heap [(l, listOf items.toArray nn), q1, q2, (Tc, instObj 1091 dT), (dT, dictOf esT nT), (Li, instObj 1048 dLi), (dLi, dictOf esL nL), (Se, instObj 960 dSe), (dSe, dictOf esS nS), (Re, instObj 390 dRe), (dRe, dictOf esR nR), q3, q4, (b, listOf #[.int x0 v1, .int y0 v2] n0)])
    (hE : EndAt ring awaited oldest greatest Tc dT Li dLi Se dSe Re dRe esT esL esS esR) (hx : 0 ≤ x0) (hy0 : 0 ≤ y0) (hy : y0 < 2147483647) (hps : ∀ p ∈ ps, m₀ p.1 = some p.2) (hstr : ∀ v ∈ items, ∃ st t, v = .str st t) (hne : ∀ a ∈ [b, Tc, dT, Li, dLi, Se, dSe, Re, dRe], a ≠ l)
    (turn : ∀ i st t (u : PySem.Str → Option Value) (x' y' : Int) t1 t2 n esT nT h tk own, 0 ≤ x' → 0 ≤ y' → y' < 2147483647 → EndAt ring awaited oldest greatest Tc dT Li dLi Se dSe Re dRe esT esL esS esR → OwnOff own [b, Tc, dT, Li, dLi, Se, dSe, Re, dRe] →
      Fr h₀ env.locals h (fun y => if y = x then some (.str st t) else kstB u ps y) →
      News h₀ env.locals h ((b, listOf #[.int x' t1, .int y' t2] n) :: (Tc, instObj 1091 dT) :: (dT, dictOf esT nT) :: (Li, instObj 1048 dLi) :: (dLi, dictOf esL nL) :: (Se, instObj 960 dSe) :: (dSe, dictOf esS nS) :: (Re, instObj 390 dRe) :: (dRe, dictOf esR nR) :: own) →
      wpAny (model prog w) A (execs body env) (InvPostG h₀ env.locals (LoopJ ps ring awaited oldest greatest Tc dT Li dLi Se dSe Re dRe b esL esS esR nL nS nR [] (i + 1)) own { s with heap := h, toks := tk } Q) E { s with heap := h, toks := tk })
    (done : ∀ m₁ nx h tk, Fr h₀ env.locals h m₁ → News h₀ env.locals h nx → Q .next { s with heap := h, toks := tk }) :
    wpAny (model prog w) A (pyIter (.ref l)) (fun it s₂ => LoopAtV prog w A h₀ env x body Q E it s₂) E s := by
  refine loop_list (news := (b, listOf #[.int x0 v1, .int y0 v2] n0) :: (Tc, instObj 1091 dT) :: (dT, dictOf esT nT) :: (Li, instObj 1048 dLi) :: (dLi, dictOf esL nL) :: (Se, instObj 960 dSe) :: (dSe, dictOf esS nS) :: (Re, instObj 390 dRe) :: (dRe, dictOf esR nR) :: [])
    (LoopJ ps ring awaited oldest greatest Tc dT Li dLi Se dSe Re dRe b esL esS esR nL nS nR []) hh (.head _) hL F N ?_ ⟨x0, y0, v1, v2, n0, esT, nT, hx, hy0, hy, hE, hps, rfl⟩ ?_ ?_ ?_
  · intro p hp
    simp only [List.mem_cons] at hp ⊢
    rcases hp with h | h | h | h | h | h | h | h | h | h <;> simp [h]
  · rintro i m nx ⟨x', y', t1, t2, n, esT', nT', _, _, _, _, _, rfl⟩ q hq
    refine hne q.1 ?_
    exact (List.mem_map_of_mem (f := Prod.fst) hq)
  · rintro i v m₁ nx h tk own hv ⟨x', y', t1, t2, n, esT', nT', h1, h2, h3, h4, h5, rfl⟩ hoff F₁ N₁
    obtain ⟨st, t, rfl⟩ := hstr v (List.mem_of_getElem? hv)
    exact turn i st t m₁ x' y' t1 t2 n esT' nT' h tk own h1 h2 h3 h4 hoff (fr_ps h5 F₁) N₁
  · rintro m₁ nx h tk _ F₁ N₁
    exact done m₁ nx h tk F₁ N₁
theorem loop_turns {r : Addr} {bb : Int} {nr : Nat} {tt uu vv : PySem.Tok} {m₀ : PySem.Str → Option Value} {news0 tl : List (Addr × Obj)} (ps : List (PySem.Str × Value)) (hh : A.handled = none) (hr : IsRange s.heap r 0 bb 1 tt uu vv) (hsmall : Builtin.Range.small 0 bb 1 = true) (hn : Builtin.Range.rangeSize 0 bb 1 = (nr : Int)) (F : Fr h₀ env.locals s.heap m₀)
    (N : News h₀ env.locals s.heap news0)
    (hsub : ∀ p ∈ (b, listOf #[.int x0 v1, .int y0 v2] n0) :: (Tc, instObj 1091 dT) :: (dT, dictOf esT nT) :: (Li, instObj 1048 dLi) :: (dLi, dictOf esL nL) :: (Se, instObj 960 dSe) :: (dSe, dictOf esS nS) :: (Re, instObj 390 dRe) :: (dRe, dictOf esR nR) :: tl, p ∈ news0)
    (hE : EndAt ring awaited oldest greatest Tc dT Li dLi Se dSe Re dRe esT esL esS esR) (hx : 0 ≤ x0) (hy0 : 0 ≤ y0) (hy : y0 < 2147483647) (hps : ∀ p ∈ ps, m₀ p.1 = some p.2) (htl : OwnOff tl [b, Tc, dT, Li, dLi, Se, dSe, Re, dRe])
    (turn : ∀ i v (u : PySem.Str → Option Value) (x' y' : Int) t1 t2 n esT nT h tk own, 0 ≤ x' → 0 ≤ y' → y' < 2147483647 → EndAt ring awaited oldest greatest Tc dT Li dLi Se dSe Re dRe esT esL esS esR → OwnOff (tl ++ own) [b, Tc, dT, Li, dLi, Se, dSe, Re, dRe] → OwnOff own ([b, Tc, dT, Li, dLi, Se, dSe, Re, dRe] ++ tl.map (·.1)) →
      Fr h₀ env.locals h (fun y => if y = x then some v else kstB u ps y) →
      News h₀ env.locals h ((b, listOf #[.int x' t1, .int y' t2] n) :: (Tc, instObj 1091 dT) :: (dT, dictOf esT nT) :: (Li, instObj 1048 dLi) :: (dLi, dictOf esL nL) :: (Se, instObj 960 dSe) :: (dSe, dictOf esS nS) :: (Re, instObj 390 dRe) :: (dRe, dictOf esR nR) :: (tl ++ own)) →
      wpAny (model prog w) A (execs body env) (InvPostG h₀ env.locals (LoopJ ps ring awaited oldest greatest Tc dT Li dLi Se dSe Re dRe b esL esS esR nL nS nR tl (i + 1)) own { s with heap := h, toks := tk } Q) E { s with heap := h, toks := tk })
    (done : ∀ m₁ (x' y' : Int) t1 t2 n esT nT h tk, 0 ≤ x' → 0 ≤ y' → y' < 2147483647 → EndAt ring awaited oldest greatest Tc dT Li dLi Se dSe Re dRe esT esL esS esR → (∀ p ∈ ps, m₁ p.1 = some p.2) → Fr h₀ env.locals h m₁ →
      News h₀ env.locals h ((b, listOf #[.int x' t1, .int y' t2] n) :: (Tc, instObj 1091 dT) :: (dT, dictOf esT nT) :: (Li, instObj 1048 dLi) :: (dLi, dictOf esL nL) :: (Se, instObj 960 dSe) :: (dSe, dictOf esS nS) :: (Re, instObj 390 dRe) :: (dRe, dictOf esR nR) :: tl) → Q .next { s with heap := h, toks := tk }) :
    wpAny (model prog w) A (pyIter (.ref r)) (fun it s₂ => LoopAtV prog w A h₀ env x body Q E it s₂) E s := by
  refine loop_range (news := (b, listOf #[.int x0 v1, .int y0 v2] n0) :: (Tc, instObj 1091 dT) :: (dT, dictOf esT nT) :: (Li, instObj 1048 dLi) :: (dLi, dictOf esL nL) :: (Se, instObj 960 dSe) :: (dSe, dictOf esS nS) :: (Re, instObj 390 dRe) :: (dRe, dictOf esR nR) :: tl)
    (LoopJ ps ring awaited oldest greatest Tc dT Li dLi Se dSe Re dRe b esL esS esR nL nS nR tl) hh hr hsmall hn F N hsub ⟨x0, y0, v1, v2, n0, esT, nT, hx, hy0, hy, hE, hps, rfl⟩ ?_ ?_
  · rintro i v m₁ nx h tk own hi ⟨x', y', t1, t2, n, esT', nT', h1, h2, h3, h4, h5, rfl⟩ hoff F₁ N₁
    refine turn i v m₁ x' y' t1 t2 n esT' nT' h tk own h1 h2 h3 h4 (own_two (fun p hp a ha => hoff p hp a ?_) htl) (fun p hp a ha => hoff p hp a ha) (fr_ps h5 F₁) N₁
    simp only [List.map_cons]
    simp only [List.mem_cons, List.not_mem_nil, or_false] at ha ⊢
    rcases ha with h | h | h | h | h | h | h | h | h <;> simp [h]
  · rintro m₁ nx h tk ⟨x', y', t1, t2, n, esT', nT', h1, h2, h3, h4, h5, rfl⟩ F₁ N₁
    exact done m₁ x' y' t1 t2 n esT' nT' h tk h1 h2 h3 h4 h5 F₁ N₁
theorem loopJ_end {ps : List (PySem.Str × Value)} {L : Addr} {tl own news' : List (Addr × Obj)} {i : Nat} {m' : PySem.Str → Option Value} {s₁ : Shared} {h' : Heap} {tk : Nat} (F : Fr h₀ L h' m') (N : News h₀ L h' news') (hE : EndAt ring awaited oldest greatest Tc dT Li dLi Se dSe Re dRe esT esL esS esR) (hx : 0 ≤ x0) (hy0 : 0 ≤ y0) (hy : y0 < 2147483647)
    (hn : ∀ p ∈ (b, listOf #[.int x0 v1, .int y0 v2] n0) :: (Tc, instObj 1091 dT) :: (dT, dictOf esT nT) :: (Li, instObj 1048 dLi) :: (dLi, dictOf esL nL) :: (Se, instObj 960 dSe) :: (dSe, dictOf esS nS) :: (Re, instObj 390 dRe) :: (dRe, dictOf esR nR) :: (tl ++ own), p ∈ news')
    (hoff : OwnOff own ([b, Tc, dT, Li, dLi, Se, dSe, Re, dRe] ++ tl.map (·.1))) (hps : ∀ p ∈ ps, m' p.1 = some p.2) :
    InvEndG h₀ L (LoopJ ps ring awaited oldest greatest Tc dT Li dLi Se dSe Re dRe b esL esS esR nL nS nR tl i) own s₁ { s₁ with heap := h', toks := tk } := by
  refine InvEndG.intro F N ⟨x0, y0, v1, v2, n0, esT, nT, hx, hy0, hy, hE, hps, rfl⟩ hoff (fun p hp => hn p ?_) (fun p hp => hn p ?_)
  · have e : (b, listOf #[.int x0 v1, .int y0 v2] n0) :: (Tc, instObj 1091 dT) :: (dT, dictOf esT nT) :: (Li, instObj 1048 dLi) :: (dLi, dictOf esL nL) :: (Se, instObj 960 dSe) :: (dSe, dictOf esS nS) :: (Re, instObj 390 dRe) :: (dRe, dictOf esR nR) :: (tl ++ own) =
        ((b, listOf #[.int x0 v1, .int y0 v2] n0) :: (Tc, instObj 1091 dT) :: (dT, dictOf esT nT) :: (Li, instObj 1048 dLi) :: (dLi, dictOf esL nL) :: (Se, instObj 960 dSe) :: (dSe, dictOf esS nS) :: (Re, instObj 390 dRe) :: (dRe, dictOf esR nR) :: tl) ++ own := rfl
    rw [e]
    exact List.mem_append.mpr (.inl hp)
  · iterate 9 refine List.mem_cons.mpr (.inr ?_)
    exact List.mem_append.mpr (.inr hp)
end
end Mine
end
section
open PySem PySem.W PySem.Calls PyProof.Rows
namespace Mine
theorem law_good {l : OpenLaw} {cl : PySem.Str → Option Addr} {mean : ExcName → Option Value} {args : List WData} {s₁ s' : Shared} {L : Addr} {m : PySem.Str → Option Value} (F : Fr s₁.heap L s'.heap m) (hg : s'.gens = #[]) (hos : s'.os = s₁.os) :
    GoodWG l.row.toRowW.claim cl mean args s₁ (.ok (.ret (.bool true))) s' :=
  GoodW.toG (goodW_bool F hg (fun _ => rfl) (postW_of (X := true) rfl (by
    show WTm.value [] (.eq .res (.lit (.bool true))) _ = _
    rw [w_eq_bool (w_res rfl) w_lit]
    rfl) rfl) hos)
theorem rot8_mem {x a b c d e f g i : PySem.Addr × PySem.Obj} {r : List (PySem.Addr × PySem.Obj)} : ∀ p ∈ x :: a :: b :: c :: d :: e :: f :: g :: i :: r, p ∈ a :: b :: c :: d :: e :: f :: g :: i :: x :: r := fun p hp => by
  simp only [List.mem_cons] at hp ⊢
  rcases hp with h | h | h | h | h | h | h | h | h | h <;> simp [h]
end Mine
end
section
open PySem PySem.W PyProof.Rows
namespace Mine
local macro_rules | `(tactic| k_mem) => `(tactic| first | exact Mine.Pick.head | (refine' Mine.Pick.tail ?_; k_mem))
local macro_rules | `(tactic| walk_at "call ref") => `(tactic| (k_here; (with_reducible show wpAny _ _ (PySem.call (Value.ref (nat_lit 1109)) _) _ _ _); k_dflt (refine' Mine.take_call (B := ?k1) (F := ?k2) (X := ?k3) (N := ?k4) (P := ?kP) (T := ?k5) (hk := ?k6) (hrest := ?k7) (hx0 := ?kx) (hy0 := ?ky) (hy := ?kz) (htop0 := ?k8) (hpl := ?k9) (hd0 := ?kd) (hret := ?_); (case k1 => k_asm); (case k2 => k_asm); (case k3 => k_asm); (case k4 => k_asm); (case kP => k_mem); (case k5 => k_asm); (case k6 => exact rfl); (case k7 => k_all); (case kx => first | assumption | omega); (case ky => first | assumption | omega); (case kz => first | assumption | omega); (case k8 => omega); (case k9 => first | exact fun z => PyProof.noPylong_small (by omega) | exact fun z => Mine.noPylong_mid (by omega)); (case kd => ktr_room); intro d9 x9 y9 t9 u9 v9 h9 tk9 hd9 he9 hx9 hy9 hz9 F9 N9; (try dsimp only); (try k_fold); (try k_sweep))))
local macro_rules | `(tactic| walk_at "call ref") => `(tactic| (k_here; (with_reducible show wpAny _ _ (PySem.call (Value.ref (nat_lit 1116)) _) _ _ _); k_dflt (refine' Mine.one_call (B := ?k1) (F := ?k2) (X := ?k3) (N := ?k4) (P := ?kP) (P' := ?kP2) (T := ?k5) (hk := ?k6) (hne := ?kne) (hrest := ?k7) (hi := ?ki) (hn0 := ?kn0) (hn1 := ?kn1) (hx0 := ?kx) (hy0 := ?ky) (hy := ?kz) (hd0 := ?kd) (hret := ?_); (case k1 => k_asm); (case k2 => k_asm); (case k3 => k_asm); (case k4 => k_asm); (case kP => k_mem); (case kP2 => k_mem); (case k5 => k_asm); (case k6 => exact rfl); (case kne => k_ne); (case k7 => k_all); (case ki => repeat constructor); (case kn0 => first | decide | exact Nat.le_of_ble_eq_true rfl); (case kn1 => first | decide | exact Nat.le_of_ble_eq_true rfl); (case kx => first | assumption | omega); (case ky => first | assumption | omega); (case kz => first | assumption | omega); (case kd => ktr_room); intro d9 x9 y9 t9 u9 v9 h9 tk9 hd9 hx9 hy9 hz9 F9 N9; (try dsimp only); (try k_fold); (try k_sweep))))
local macro_rules | `(tactic| walk_at "call ref") => `(tactic| (k_here; (with_reducible show wpAny _ _ (PySem.call (Value.ref (nat_lit 1102)) _) _ _ _); k_dflt (refine' Mine.pool_join (_F := ?k1) ?_ ?_; (case k1 => k_asm); (intro mk9; k_fold; refine wpAny_call ?_; k_enter); rotate_left; (intro b9 x9 y9 t9 u9 n9 h9 tk9 hx9 hy9 hz9 F9 N9; (try dsimp only); (try k_fold); (try k_sweep)); rotate_right)))
local macro_rules | `(tactic| k_room) => `(tactic| ktr_room)
theorem news_rot8 {h₀ h : PySem.Heap} {L : PySem.Addr} {x a b c d e f g i : PySem.Addr × PySem.Obj} {r : List (PySem.Addr × PySem.Obj)} (N : News h₀ L h (x :: a :: b :: c :: d :: e :: f :: g :: i :: r)) : News h₀ L h (a :: b :: c :: d :: e :: f :: g :: i :: x :: r) := fun p hp => N p (by
  simp only [List.mem_cons] at hp ⊢
  rcases hp with h | h | h | h | h | h | h | h | h | h <;> simp [h])
theorem ring_facts {d : Int} (h : d ∈ ([64, 256, 2 ^ Int.toNat 32] : List Int)) : 64 ≤ d ∧ d ≤ 4294967296 ∧ d % 2 = 0 := by
  simp only [List.mem_cons, List.not_mem_nil, or_false, Int.reduceToNat, Int.reducePow] at h
  omega
theorem le20 {d : Int} (h : d < 21) : d ≤ 20 := by omega
theorem fm_facts {a o r g : Int} {Tc dT Li dLi Se dSe Re dRe : PySem.Addr} {esT esL esS esR : List PySem.DictEntry} (_h : EndAt r (Int.fmod a r) (Int.fmod o r) g Tc dT Li dLi Se dSe Re dRe esT esL esS esR) (hr : 64 ≤ r) :
    0 ≤ a.fmod r ∧ a.fmod r < r ∧ 0 ≤ o.fmod r ∧ o.fmod r < r :=
  ⟨Int.fmod_nonneg_of_pos _ (by omega), Int.fmod_lt_of_pos _ (by omega), Int.fmod_nonneg_of_pos _ (by omega), Int.fmod_lt_of_pos _ (by omega)⟩
theorem half_facts {r : Int} (h : 64 ≤ r) (he : r % 2 = 0) : -r < 2 * (1 - r.fdiv 2) ∧ 2 * (1 - r.fdiv 2) ≤ r ∧ -r < 2 * r.fdiv 2 ∧ 2 * r.fdiv 2 ≤ r := by
  rw [Int.fdiv_eq_ediv_of_nonneg r (by decide)]
  omega
theorem noIndex {ns : List Int} (h : decide (ns = []) = false) (h2 : 0 < -(ns.length : Int) ∨ (ns.length : Int) ≤ 0) : False := by
  cases ns with
  | nil => simp at h
  | cons a r => simp only [List.length_cons] at h2; omega
theorem fr_loc {h₀ h : PySem.Heap} {L a : PySem.Addr} {m : PySem.Str → Option Value} {cn : PySem.Str} {cs : PySem.Scope} {cd : Value} (F : Fr h₀ (envOf cn cs L a cd).locals h m) : Fr h₀ L h m := F
theorem news_loc {h₀ h : PySem.Heap} {L a : PySem.Addr} {news : List (PySem.Addr × PySem.Obj)} {cn : PySem.Str} {cs : PySem.Scope} {cd : Value} (N : News h₀ (envOf cn cs L a cd).locals h news) : News h₀ L h news := N
theorem news_rot8b {h₀ h : PySem.Heap} {L : PySem.Addr} {x y a b c d e f g i : PySem.Addr × PySem.Obj} {r : List (PySem.Addr × PySem.Obj)} (N : News h₀ L h (x :: y :: a :: b :: c :: d :: e :: f :: g :: i :: r)) : News h₀ L h (a :: b :: c :: d :: e :: f :: g :: i :: x :: y :: r) := fun p hp => N p (by
  simp only [List.mem_cons] at hp ⊢
  rcases hp with h | h | h | h | h | h | h | h | h | h | h <;> simp [h])
theorem RowRet.intro {h₀ : PySem.Heap} {L : PySem.Addr} {m : PySem.Str → Option Value} {ring awaited oldest greatest : Int} {Tc dT Li dLi Se dSe Re dRe : PySem.Addr} {esL esS esR : List PySem.DictEntry} {nL nS nR : Nat} {rest : List (PySem.Addr × PySem.Obj)} {s : PySem.Shared} {Q : Value → PySem.Shared → Prop}
    (h : ∀ esT nT h' tk', EndAt ring awaited oldest greatest Tc dT Li dLi Se dSe Re dRe esT esL esS esR → Fr h₀ L h' m →
    News h₀ L h' ((Tc, instObj 1091 dT) :: (dT, dictOf esT nT) :: (Li, instObj 1048 dLi) :: (dLi, dictOf esL nL) :: (Se, instObj 960 dSe) :: (dSe, dictOf esS nS) :: (Re, instObj 390 dRe) :: (dRe, dictOf esR nR) :: rest) → Q (.bool true) { s with heap := h', toks := tk' }) : RowRet h₀ L m ring awaited oldest greatest Tc dT Li dLi Se dSe Re dRe esL esS esR nL nS nR rest s Q := h
local macro_rules | `(tactic| walk_at "call ref") => `(tactic| (k_here; (with_reducible show wpAny _ _ (PySem.call (Value.ref (nat_lit 1130)) _) _ _ _); k_dflt (refine' Mine.row_ok (B := ?k1) (F := ?k2) (X := ?k3) (T := ?k5) (N := ?k4) (hE := ?kE) (hrest := ?k7) (hk := ?k6) (hr0 := ?h1) (hr1 := ?h2) (ha0 := ?h3) (ha1 := ?h4) (ho0 := ?h5) (ho1 := ?h6) (hm0 := ?h7) (hm1 := ?h8) (hg := rfl) (hre := ?h9) (hf0 := ?f0) (hf1 := ?f1) (hfa := ?f2) (hfb := ?f3) (hna := ?f4) (hnb := ?f5) (hret := ?_); (case kE => assumption); (case k1 => k_asm); (case k2 => first | k_asm | exact Mine.fr_loc (by assumption)); (case k3 => k_asm); (case k4 => first | k_asm | exact Mine.news_rot8 (by assumption) | exact Mine.news_rot8 (Mine.news_loc (by assumption)) | exact Mine.news_rot8b (Mine.news_loc (by assumption)) | exact Mine.news_loc (by assumption)); (case k5 => k_asm); (case k6 => exact rfl); (case k7 => k_all); (case h1 => assumption); (case h2 => assumption); (case h3 => assumption); (case h4 => assumption); (case h5 => assumption); (case h6 => assumption); (case h7 => assumption); (case h8 => assumption); (case h9 => assumption); (case f0 => first | decide | assumption | exact (Mine.flags_ok (by assumption) (by assumption) (by assumption)).1); (case f1 => first | decide | assumption | exact (Mine.flags_ok (by assumption) (by assumption) (by assumption)).2); (case f2 => first | assumption | decide | exact (Mine.far_ok (by assumption) (by assumption) (by assumption) (by assumption) (by assumption)).1 | omega); (case f3 => first | assumption | decide | exact (Mine.far_ok (by assumption) (by assumption) (by assumption) (by assumption) (by assumption)).2 | omega); (case f4 => first | assumption | decide | exact (Mine.near_ok (by assumption) (by assumption) (by assumption) (by assumption) (by assumption) (by assumption)).1 | omega); (case f5 => first | assumption | decide | exact (Mine.near_ok (by assumption) (by assumption) (by assumption) (by assumption) (by assumption) (by assumption)).2 | omega); refine Mine.RowRet.intro ?_; intro esT9 nT9 h9 tk9 hE9 F9 N9; (try dsimp only); (try k_fold); (try k_sweep))))
set_option maxRecDepth 100000 in
set_option maxHeartbeats 8000000 in
theorem law_walk : PySem.Challenge.rw_xw0346_01.Holds := by
  refine Mine.hd ?_
  k_fill
  intro w s₀ s₁ mg mb G Y fa o pm cd doc dV kV ho hdd hcd hD hmg hg args vals as hpre hlay hrd hwl hlo
  have KX := kIn_of Y
  have X := (Ground.X G).1
  have V := (Ground.X G).2
  try w_nolog (first | (have GL := glob_more (Ground.glob G (by decide +kernel) (by decide +kernel)) V) | (have GL := glob_more (Ground.glob G (by decide +kernel)) V))
  refine Ground.open G ?_
  intro T B D TE TW
  try (refine guard_noD D (by decide +kernel) ?_; clear D)
  obtain ⟨_, _, M⟩ := bmod_of_top T
  have TA := at_of_top T
  try (obtain ⟨_, _, he, B0⟩ := based_of_top T rfl hmg ho hdd; have he' : cd = _ := he; subst he'; clear he)
  clear hmg
  wrow_args hpre hlay hrd hwl hlo
  refine enter_callN ?_
  w_top on
  have K0 := below_caller (Top.heap T)
  have he := Dflts.none hD rfl
  subst he
  refine call_fullN (by decide) ho hdd (Top.nolimit T) hcd (BindsTo.of_eq rfl) (locs rfl) fun h₁ F => ?_
  w_binds F
  have N0 := (News.nil : News _ _ _ []).at F
  clear hdd TA
  k_drop
  refine wpN_execs_cons (wpN_of ?_)
  k_fold
  k_steps
  · refine PoolEnd.intro (by k_asm) (by k_asm) rfl (List.Mem.head _) ?_ (Int.fmod_nonneg_of_pos _ (by decide)) (Int.fmod_lt_of_pos _ (by decide))
    first | exact great_nonneg _ _ (by first | decide | omega | (split <;> decide))
  · exact (noIndex (by assumption) (by assumption)).elim
  · refine PoolEnd.intro (by k_asm) (by k_asm) rfl (List.Mem.head _) ?_ (Int.fmod_nonneg_of_pos _ (by decide)) (Int.fmod_lt_of_pos _ (by decide))
    first | exact great_nonneg _ _ (by first | decide | omega | (split <;> decide))
  refine wpN_execs_cons (wpN_of ?_)
  (try k_fold)
  k_steps
  obtain ⟨r1, r2, r3⟩ := ring_facts (by assumption)
  obtain ⟨g1, g2, g3, g4⟩ := half_facts r1 r3
  obtain ⟨g5, g6⟩ := half_more r1 r3
  refine wpN_execs_cons (wpN_of ?_)
  (try k_fold)
  k_steps
  rename News _ _ _ _ => Nx
  replace Nx := news_tl Nx
  refine wpN_execs_cons (wpN_Assign_Name (wpN_Call (wpN_of ?_)))
  (try k_fold)
  k_steps
  refine wpN_callWith_K (K := kit.heap_1 w.params) (by k_is) ?_
  (try k_fold)
  k_steps
  have m1 := le20 (by assumption)
  refine end_okN (B := by k_asm) (F := by k_asm) (X := by k_asm) (N := by k_asm) (T := by k_asm) (hk := rfl) (hr0 := r1) (hr1 := r2) (ha0 := Int.fmod_nonneg_of_pos _ (by omega)) (ha1 := Int.fmod_lt_of_pos _ (by omega)) (ho0 := Int.fmod_nonneg_of_pos _ (by omega)) (ho1 := Int.fmod_lt_of_pos _ (by omega)) (hm0 := by assumption) (hm1 := m1) ?_
  unfold EndRet
  intro Tc dT Li dLi Se dSe Re dRe esT esL esS esR nT nL nS nR h8 tk8 hE8 hs8 F8 N8
  obtain ⟨p0, p1, p2, p3⟩ := fm_facts hE8 r1
  obtain ⟨e0, es0, e1, e2, e3, ⟨u1, e4⟩, ⟨u2, e5⟩, ⟨u3, e6⟩, ⟨u4, e7⟩, e9, ⟨u5, e8⟩, o1, o2, o3, o4, o5, o6, o7⟩ := id hE8
  clear e0 es0 e1 e2 e3 e4 e5 e6 e7 e8 e9
  dsimp only at hs8
  refine wpN_of ?_
  (try k_fold)
  k_steps
  refine wpN_of ?_
  (try k_fold)
  refine execs_hold ?_
  k_steps
  show Hold _
  unfold Hold
  (try dsimp only)
  (try k_sweep)
  refine execs_hold ?_
  k_steps
  show Hold _
  unfold Hold
  (try dsimp only)
  (try k_sweep)
  refine execs_hold ?_
  k_steps
  show Hold _
  unfold Hold
  refine execs_hold ?_
  refine For_invV T.heap rfl rfl ?_
  refine hold_any ?_
  (try k_fold)
  k_steps
  show Hold _
  unfold Hold
  (try dsimp only)
  rename Fr _ _ _ _ => FL
  rename News _ _ _ _ => NL
  refine loop_states [(PySem.Str.ofString "source", ?q1), (PySem.Str.ofString "half", ?q2), (PySem.Str.ofString "many", ?q3), (PySem.Str.ofString "tcb", ?q4)] rfl (NL _ (.head _)).2.1.symm FL NL (by assumption) (by assumption) (by assumption) (by assumption) ?hps ?hstr ?hne ?turn ?done
  case hps => exact List.forall_mem_cons.mpr ⟨by with_unfolding_all rfl, List.forall_mem_cons.mpr ⟨by with_unfolding_all rfl, List.forall_mem_cons.mpr ⟨by with_unfolding_all rfl, List.forall_mem_cons.mpr ⟨by with_unfolding_all rfl, List.forall_mem_nil _⟩⟩⟩⟩
  case hstr => iterate 11 refine List.forall_mem_cons.mpr ⟨⟨_, _, rfl⟩, ?_⟩
               exact List.forall_mem_nil _
  case hne => iterate 9 refine List.forall_mem_cons.mpr ⟨by k_ne, ?_⟩
              exact List.forall_mem_nil _
  case done =>
    intro mZ nxZ hZ tkZ FZ NZ
    (try dsimp only)
    (try k_fold)
    k_steps
    dsimp only
    (try k_sweep)
    k_steps
    exact Mine.law_good FZ hg rfl
  case turn =>
    intro iS stS tS uS xS yS tS1 tS2 nnS esTS nTS hS tkS ownS hxS hyS hzS hES hoffS FS NS
    dsimp only [kstB] at FS
    (try k_fold)
    refine execs_hold ?_
    refine For_invV T.heap rfl rfl ?_
    refine hold_any ?_
    (try k_fold)
    k_steps
    show Hold _
    unfold Hold
    (try dsimp only)
    rename Fr _ _ _ _ => FL2
    rename News _ _ _ _ => NL2
    refine loop_turns [(PySem.Str.ofString "state", ?z0), (PySem.Str.ofString "source", ?z1), (PySem.Str.ofString "half", ?z2), (PySem.Str.ofString "many", ?z3), (PySem.Str.ofString "tcb", ?z4)] rfl (by assumption) (by decide) (nr := 3) rfl FL2 NL2 (fun p hp => hp) hES hxS hyS hzS ?hps2 hoffS ?turn2 ?done2
    case hps2 => exact List.forall_mem_cons.mpr ⟨by with_unfolding_all rfl, List.forall_mem_cons.mpr ⟨by with_unfolding_all rfl, List.forall_mem_cons.mpr ⟨by with_unfolding_all rfl, List.forall_mem_cons.mpr ⟨by with_unfolding_all rfl, List.forall_mem_cons.mpr ⟨by with_unfolding_all rfl, List.forall_mem_nil _⟩⟩⟩⟩⟩
    case done2 =>
      intro mT xT yT tT1 tT2 nnT esTT nTT hT tkT hxT hyT hzT hET hpsT FT NT
      show wpAny _ _ (execs [] _) _ _ _
      refine wpAny_execs_nil ?_
      show InvEndG _ _ _ _ _ _
      refine loopJ_end FT NT hET hxT hyT hzT (fun p hp => hp) ?_ ?_
      · exact hoffS
      · exact (List.forall_mem_cons.mp hpsT).2
    case turn2 =>
      intro iT vT uT xT yT tT1 tT2 nnT esTT nTT hT tkT ownT hxT hyT hzT hET hoffT hoffT2 FT NT
      dsimp only [kstB] at FT
      (try k_fold)
      refine execs_hold ?_
      k_steps
      show Hold _
      unfold Hold
      (try dsimp only)
      (try k_sweep)
      refine execs_hold ?_
      k_steps
      show Hold _
      unfold Hold
      (try dsimp only)
      (try k_sweep)
      refine execs_hold ?_
      k_steps
      show Hold _
      unfold Hold
      (try dsimp only)
      (try k_sweep)
      k_steps
      show InvEndG _ _ _ _ _ _
      rename Fr _ _ _ _ => FL3
      rename News _ _ _ _ => NL3
      refine loopJ_end FL3 NL3 (by assumption) (by assumption) (by assumption) (by assumption) rot8_mem hoffT2 ?_
      exact List.forall_mem_cons.mpr ⟨by with_unfolding_all rfl, List.forall_mem_cons.mpr ⟨by with_unfolding_all rfl, List.forall_mem_cons.mpr ⟨by with_unfolding_all rfl, List.forall_mem_cons.mpr ⟨by with_unfolding_all rfl, List.forall_mem_cons.mpr ⟨by with_unfolding_all rfl, List.forall_mem_nil _⟩⟩⟩⟩⟩
end Mine
end
theorem PySem.Challenge.cw_xw0346_01_holds : PySem.Challenge.rw_xw0346_01.Holds :=
  Mine.law_walk

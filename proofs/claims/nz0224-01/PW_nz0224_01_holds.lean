import PyProof.Rows.All
import Wide.All
import OpenK.AllK
import Wide.FinOn
import PySem.Challenge.RW_nz0224_01
set_option Elab.async false
set_option linter.all false
section M1
open PySem PySem.W PyProof.Rows PySem.Calls PySem.Spec
set_option maxRecDepth 100000
set_option maxHeartbeats 8000000
namespace Mine

/-! what a tree does to the class and the dict of the objects that stand: nothing -/
noncomputable def DSame (h h' : Heap) : Prop := ∀ b o, h.get? b = some o → ∃ o', h'.get? b = some o' ∧ o'.cls = o.cls ∧ o'.dict = o.dict
theorem DSame.refl (h : Heap) : DSame h h := fun _ o e => ⟨o, e, rfl, rfl⟩
theorem DSame.trans {h h₁ h₂ : Heap} (x : DSame h h₁) (y : DSame h₁ h₂) : DSame h h₂ := fun b o e =>
  let ⟨o₁, e₁, c₁, d₁⟩ := x b o e
  let ⟨o₂, e₂, c₂, d₂⟩ := y b o₁ e₁
  ⟨o₂, e₂, c₂.trans c₁, d₂.trans d₁⟩
theorem DSame.of_keeps {h h' : Heap} (k : ∀ b o, h.get? b = some o → h'.get? b = some o) : DSame h h' := fun b o e => ⟨o, k b o e, rfl, rfl⟩

noncomputable def FKeep (f : Obj → Obj) : Prop := ∀ o : Obj, (f o).cls = o.cls ∧ (f o).dict = o.dict ∧ (o.isFreed = false → (f o).isFreed = false)
theorem FKeep.update {f : Obj → Obj} (hf : FKeep f) (h : Heap) (a : Addr) : DSame h (h.update a f) := fun b o e => by
  by_cases q : a = b
  · subst q
    refine ⟨f o, ?_, (hf o).1, (hf o).2.1⟩
    have nf : o.isFreed = false := by
      unfold Heap.get? at e
      split at e
      · cases e
      · rename_i o' hn
        cases hh : o.isFreed with
        | false => rfl
        | true =>
          exfalso
          cases o with
          | mk c d dt sl => cases dt <;> simp [Obj.isFreed] at hh <;> exact hn _ _ _ e
    exact Heap.get?_update_self f e ((hf o).2.2 nf)
  · exact ⟨o, (Heap.get?_update_other _ _ q).trans e, rfl, rfl⟩
theorem fkeep_mapFields (g : Array Value → Array Value) : FKeep (Obj.mapFields g) := fun o => by
  cases o with
  | mk c d dt sl => cases dt <;> exact ⟨rfl, rfl, fun h => by first | rfl | exact h⟩
theorem fkeep_slots (g : Obj → Array (Option Value)) : FKeep (fun o => { o with slots := g o }) := fun o => ⟨rfl, rfl, fun h => by cases o with | mk c d dt sl => cases dt <;> exact h⟩

inductive KD {α : Type} : Sem α → Prop
  | pure (a : α) : KD (.pure a)
  | raise (e : Value) : KD (.raise e)
  | unsupported (w : String) : KD (.unsupported w)
  | rule {t : String} {k : Unit → Sem α} : (∀ x, KD (k x)) → KD (.rule t k)
  | at {p : Pos} {k : Unit → Sem α} : (∀ x, KD (k x)) → KD (.at p k)
  | point {l : List Value} {k : Unit → Sem α} : (∀ x, KD (k x)) → KD (.point l k)
  | load {a : Addr} {q : Option Value} {k : Obj → Sem α} : (∀ x, KD (k x)) → KD (.load a q k)
  | update {a : Addr} {q : Option Value} {f : Obj → Obj} {k : Unit → Sem α} : FKeep f → (∀ x, KD (k x)) → KD (.update a q f k)
  | alloc {o : Obj} {k : Addr → Sem α} : (∀ x, KD (k x)) → KD (.alloc o k)
  | fresh {k : Tok → Sem α} : (∀ x, KD (k x)) → KD (.fresh k)
  | ask {k : Setting → Sem α} : (∀ x, KD (k x)) → KD (.ask k)
  | stack {k : List (Code × Pos) → Sem α} : (∀ x, KD (k x)) → KD (.stack k)

theorem KD.bind {α β : Type} {m : Sem α} {f : α → Sem β} (hm : KD m) (hf : ∀ a, KD (f a)) : KD (m.bind f) := by
  induction hm with
  | pure a => exact hf a
  | raise e => exact .raise e
  | unsupported w => exact .unsupported w
  | rule _ ih => exact .rule ih
  | «at» _ ih => exact .at ih
  | point _ ih => exact .point ih
  | load _ ih => exact .load ih
  | update h _ ih => exact .update h ih
  | alloc _ ih => exact .alloc ih
  | fresh _ ih => exact .fresh ih
  | ask _ ih => exact .ask ih
  | stack _ ih => exact .stack ih
theorem KD.bind' {α β : Type} {m : Sem α} {f : α → Sem β} (hm : KD m) (hf : ∀ a, KD (f a)) : KD (m >>= f) := KD.bind hm hf
theorem KD.ret {α : Type} (a : α) : KD (Pure.pure a : Sem α) := KD.pure a

theorem KD.wp {α : Type} {M : Model} {Γ : PySem.Ctx} {t : Sem α} (h : KD t) {Q : α → Pos → Shared → Prop} {E : Value → Pos → Shared → Prop} :
    ∀ {p : Pos} {s : Shared}, Sem.wp M Γ t Q E p s → Sem.wp M Γ t (fun a p' s' => Q a p' s' ∧ DSame s.heap s'.heap) (fun e p' s' => E e p' s' ∧ DSame s.heap s'.heap) p s := by
  have up : ∀ {s s₁ : Shared} {t : Sem α} {p : Pos}, DSame s.heap s₁.heap → Sem.wp M Γ t (fun a p' s' => Q a p' s' ∧ DSame s₁.heap s'.heap) (fun e p' s' => E e p' s' ∧ DSame s₁.heap s'.heap) p s₁ →
      Sem.wp M Γ t (fun a p' s' => Q a p' s' ∧ DSame s.heap s'.heap) (fun e p' s' => E e p' s' ∧ DSame s.heap s'.heap) p s₁ := fun d x =>
    Sem.wp_mono M Γ _ (fun _ _ _ q => ⟨q.1, d.trans q.2⟩) (fun _ _ _ q => ⟨q.1, d.trans q.2⟩) _ _ x
  induction h with
  | pure a => intro p s x; exact ⟨x, .refl _⟩
  | raise e => intro p s x; exact ⟨x, .refl _⟩
  | unsupported w => intro p s x; exact x
  | rule _ ih => intro p s x; exact ih () x
  | «at» _ ih => intro p s x; exact ih () x
  | point _ ih => intro p s x; exact ih () x
  | load _ ih => intro p s x; exact x.imp fun o q => ⟨q.1, ih o q.2⟩
  | update hf _ ih => intro p s x; exact ⟨x.1, up (hf.update _ _) (ih () x.2)⟩
  | alloc _ ih => intro p s x; exact up (s := s) (s₁ := { s with heap := s.heap.push _ }) (.of_keeps fun b o e => Heap.get?_push_of_some _ e) (ih _ x)
  | fresh _ ih => intro p s x; exact ih _ (s := { s with toks := s.toks + 1 }) x
  | ask _ ih => intro p s x; exact ih _ x
  | stack _ ih => intro p s x; exact ih _ x
theorem KD.any {α : Type} {M : Model} {A : Around} {t : Sem α} (h : KD t) {Q : α → Shared → Prop} {E : Value → Shared → Prop} {s : Shared} (x : wpAny M A t Q E s) :
    wpAny M A t (fun a s' => Q a s' ∧ DSame s.heap s'.heap) (fun e s' => E e s' ∧ DSame s.heap s'.heap) s := fun Γ p hΓ => KD.wp h (x Γ p hΓ)

theorem kd_load (a : Addr) : KD (load a) := .load fun o => .pure o
theorem kd_fieldsOf (v : Value) : KD (fieldsOf v) := by
  unfold fieldsOf
  split
  · refine .bind' (kd_load _) fun o => ?_
    repeat (first | exact .ret _ | exact .unsupported _ | split)
  · exact .unsupported _
theorem kd_field (v : Value) (i : Nat) : KD (field v i) := by
  unfold field
  refine .bind' (kd_fieldsOf v) fun o => ?_
  split
  · exact .ret _
  · exact .unsupported _
theorem kd_setField (v : Value) (i : Nat) (x : Value) : KD (setField v i x) := by
  unfold setField
  split
  · unfold updateField
    refine .bind' (kd_load _) fun o => ?_
    split
    · split
      · exact .update (fkeep_mapFields _) fun _ => .pure _
      · exact .unsupported _
    · exact .unsupported _
  · exact .unsupported _
theorem kd_setFlight (e : Value) (f : Option Addr) : KD (setFlight e f) := by
  unfold setFlight
  refine .bind' (kd_field _ _) fun tb => ?_
  split
  · exact kd_setField _ _ _
  · exact .ret _
theorem kd_stack : KD stack := .stack fun x => .pure x
theorem kd_keptBack (env : Env) (i : Bool) (l : List Env) : KD (keptBack env i l) := by
  unfold keptBack
  split
  · split
    · exact .ret _
    · unfold underTheClaimsCaller
      refine .bind' ?_ fun _ => .ret _
      refine .bind' kd_stack fun _ => .ret _
  · exact .ret _
theorem kd_readyFrames : ∀ l : List Env, KD (readyFrames l)
  | [] => .ret _
  | env :: outer => by
    unfold readyFrames
    split
    · refine .bind' (kd_load _) fun o => ?_
      split
      · exact .ret _
      · refine .bind' ?_ fun i => .bind' (kd_keptBack _ _ _) fun b => .bind' ?_ fun _ => kd_readyFrames outer
        · unfold behindIsImport
          split
          · exact .ret _
          · split
            · exact .ret _
            · exact .bind' (kd_field _ _) fun _ => .ret _
        · exact .update (fkeep_slots _) fun _ => .pure _
    · exact .unsupported _
theorem kd_frameOf (env : Env) : KD (PySem.frameOf env) := by
  unfold PySem.frameOf frameEnvs
  refine .bind' (.bind' kd_stack fun _ => .ret _) fun l => ?_
  refine .bind' ?_ fun o => ?_
  · unfold frameObject
    split
    · exact .ret _
    · exact .bind' (kd_readyFrames _) fun _ => .ret _
  · split
    · exact .ret _
    · exact .unsupported _
theorem kd_entryPlaceOf (f : Addr) (b : Bool) : KD (entryPlaceOf f b) := by
  unfold entryPlaceOf
  refine .bind' kd_stack fun _ => ?_
  split <;> exact .ret _
theorem kd_newFields (ty : String) (vs : List Value) : KD (newFields ty vs) := by
  unfold newFields newObj newObjAsIs
  dsimp only
  split
  · exact .unsupported _
  · exact .bind' (.alloc fun _ => .pure _) fun _ => .ret _
theorem kd_noteFrame (e : Value) (env : Env) : KD (noteFrame e env) := by
  unfold noteFrame
  split
  · refine .bind' (kd_field _ _) fun head => ?_
    have last : ∀ f, KD (do setField e 1 (← EntryCells.newEntry head (← PySem.frameOf env) .none (rawInt f) .none (← entryPlaceOf f (head != .none)))) := fun f => by
      refine .bind' (kd_frameOf _) fun fr => .bind' (kd_entryPlaceOf _ _) fun pl => .bind' ?_ fun t => kd_setField _ _ _
      unfold EntryCells.newEntry
      exact kd_newFields _ _
    split
    · refine .bind' (kd_field _ _) fun x => ?_
      split
      · exact .ret _
      · exact .bind' (kd_setField _ _ _) fun _ => last _
    · exact last _
  · exact .unsupported _
theorem kd_leaving (env : Env) (e : Value) : KD (leaving env e) := by
  unfold leaving
  exact .bind' (kd_noteFrame _ _) fun _ => kd_setFlight _ _
end Mine
end M1
section M2
open PySem PySem.W PyProof.Rows PySem.Calls PySem.Spec
set_option maxRecDepth 100000
set_option maxHeartbeats 8000000
namespace Mine
noncomputable abbrev veMro : List Value := [.type "ValueError", .type "Exception", .type "BaseException", .type "object"]
noncomputable abbrev excObj (C t : Addr) (d : Option Addr) : Obj := { cls := .ref C, dict := d, data := .fields #[.ref t, .none, .none, .none, .bool false, .none] }
noncomputable abbrev tupObj (vs : List Value) : Obj := { cls := .type "tuple", data := .seq vs.toArray }

section
variable {prog : Program} {w : World} {A : Around} {R : Result → Shared → Prop} {s : Shared}
variable {nm q : Str} {C D N : Addr} {bs : List Value} {sn : List Str} {sub : List Value} {ab : Bool} {col : Option Bool} {dd : Option Addr} {k0 k1 k2 k3 k5 : Option Value} {h₀ : Heap} {L : Addr} {m : Str → Option Value} {news : List (Addr × Obj)}

theorem exc_new {rest : List Value} {h : Heap} {g : Array GenState} {d : Drawn} {t : Nat} {os : OsState} (hC : h.get? C = some (excClassObj nm q C N bs (.ref D :: veMro) true sn sub ab col dd k0 k1 k2 k3 k5 "ValueError.__new__"))
    (hq : R (.ok (.ret (.ref (h.objs.size + 1)))) ⟨(h.push (tupObj rest)).push (excObj C h.objs.size none), g, d, t, os⟩) (hrest : rest.length ≤ sizeLine) :
    codeAny (model prog w) A (.builtin "ValueError.__new__" ⟨.ref C :: rest, []⟩) R ⟨h, g, d, t, os⟩ := by
  have F := PySem.F.excBase_ValueError
  have hends := F.ends
  have hcB : (Value.ref C :: .ref D :: veMro).contains (.type "ValueError") = true := by simp
  have hcA : (Value.ref C :: .ref D :: veMro).contains (.type "AttributeError") = false := by simp
  have hcN : (Value.ref C :: .ref D :: veMro).contains (.type "NameError") = false := by simp
  refine codeAny_builtinAt F.entry ?_
  unfold Builtin.«BaseException.__new__»
  refine PySem.wpAt_bind ?_
  show PySem.wpAt _ _ _ (stack >>= _) _ _ _
  refine PySem.wpAt_bind (PySem.wpAt_stack fun p below => PySem.wpAt_of_wpAny ?_)
  wp_walk
  refine PySem.wpAt_of_wpAny ?_
  rw [F.owner]
  repeat (first | with_reducible refine wpAny_madeHere_exc F.canon hC ?_ | with_reducible refine wpAny_loadPart_at hC ?_ | (with_reducible refine wpAny_isSubtype_exc hC ?_; first | rw [hcB] | rw [hcA] | rw [hcN]) | wp_step)
  show R _ _
  rw [Heap.size_push]
  exact hq

theorem exc_check_new {M : Model} {E : Value → Shared → Prop} {rest : List Value} {h : Heap} {g : Array GenState} {d : Drawn} {t : Nat} {os : OsState} {Q : Unit → Shared → Prop} (hC : h.get? C = some (excClassObj nm q C N bs (.ref D :: veMro) true sn sub ab col dd k0 k1 k2 k3 k5 "ValueError.__new__"))
    (hq : Q () ⟨h, g, d, t, os⟩) : wpAny M A (checkBuiltinCall "ValueError.__new__" ⟨.ref C :: rest, []⟩) Q E ⟨h, g, d, t, os⟩ := by
  have F := PySem.F.excBase_ValueError
  have hcont : (Value.ref C :: .ref D :: veMro).contains (.type "ValueError") = true := by simp
  have hstar := F.noStar
  simp only [checkBuiltinCall, F.newKind, F.newSplit, F.newRow]
  repeat (first | refine wpAny_loadPart_at hC ?_ | (refine wpAny_isSubtype_exc hC ?_; rw [hcont]) | refine wpAny_staticBase_exc hC ?_ | refine wpAny_madeBy_exc hC ?_ | simp only [bne_self_eq_false, Bool.false_eq_true, if_false] | wp_step)
  exact hq

theorem exc_check_init {M : Model} {E : Value → Shared → Prop} {e : Addr} {oe : Obj} {rest : List Value} {h : Heap} {g : Array GenState} {d : Drawn} {t : Nat} {os : OsState} {Q : Unit → Shared → Prop}
    (hC : h.get? C = some (excClassObj nm q C N bs (.ref D :: veMro) true sn sub ab col dd k0 k1 k2 k3 k5 "ValueError.__new__")) (he : h.get? e = some oe) (hcls : oe.cls = .ref C) (hq : Q () ⟨h, g, d, t, os⟩) :
    wpAny M A (checkBuiltinCall "ValueError.__init__" ⟨.ref e :: rest, []⟩) Q E ⟨h, g, d, t, os⟩ := by
  have F := PySem.F.excBase_ValueError
  have hcB : (Value.ref C :: .ref D :: veMro).contains (.type "ValueError") = true := by simp
  have hshort := F.noStar
  simp only [checkBuiltinCall, F.initKind, F.initSplit, F.initRow]
  repeat (first | (with_reducible refine wpAny_loadPart_at he ?_; rw [hcls]) | with_reducible refine wpAny_loadPart_at hC ?_ | (with_reducible refine wpAny_isSubtype_exc hC ?_; rw [hcB]) | wp_step)
  refine wpAny_onRaise ?_
  rw [show ∀ (a b : String) (n : Nat), Bind.check ⟨.positional, "*", "ValueError", .self, [⟨"args", .varPos, false⟩]⟩ a b n (List.map (fun x => x.fst) ({ pos := Value.ref e :: rest } : Args).kw) = pure () from
    fun a b n => check_star_args _ _ _ _ _ _]
  exact wpAny_pure hq

/-- the call of a class of exceptions whose __init__ is the text's own: the new object, then __init__ upon it -/
theorem exc_make {fI : Addr} {rest : List Value} {K : Frag} (F : Fr h₀ L s.heap m) (N0 : News h₀ L s.heap news) (X : K.In s.heap) (hC : s.heap.get? C = some (excClassObj nm q C N bs (.ref D :: veMro) true sn sub ab col dd k0 k1 k2 k3 k5 "ValueError.__new__"))
    (hi : findIn K (.ref C) "__init__" = some (some (.ref fI))) (hf : typeIn K (.ref fI) = some (.type "function")) (hrest : rest.length ≤ sizeLine)
    (hq : ∀ e t h', Fr h₀ L h' m → News h₀ L h' ((e, excObj C t none) :: (t, tupObj rest) :: news) → (∀ p ∈ news, p.1 < t) → t < e →
      codeAny (model prog w) (A.under (.builtin "type.__call__" ⟨.ref C :: rest, []⟩)) (.call (.ref fI) ⟨.ref e :: rest, []⟩) (InitBack e R) { s with heap := h' }) :
    codeAny (model prog w) A (.call (.ref C) ⟨rest, []⟩) R s := by
  obtain ⟨h, g, d, t, os⟩ := s
  have f1 := tc_lookup
  have f2 := tc_bind (.ref C)
  have hT : (⟨h, g, d, t, os⟩ : Shared).TypeIs (.ref C) "type" := ⟨_, hC, rfl⟩
  refine codeAny_of_tree ?_
  show wpAny _ _ (callAny (.ref C) _) _ _ _
  repeat (any_goals (first | assumption | with_reducible refine wpAny_loadPart_at hC ?_ | wp_step))
  refine ⟨rfl, ?_⟩
  refine codeAny_call_builtin_at (Code.quiet_builtin _ (by decide +kernel)) entry_typeCall (wpAny_check_type_call_sub hC ?_)
  repeat (first | with_reducible refine wpAny_loadPart_at hC ?_ | with_reducible refine wpAny_madeBy_exc hC ?_ | wp_step)
  refine codeAny_call_builtin_code (Code.quiet_builtin _ PySem.F.excBase_ValueError.quiet) (exc_check_new hC ?_)
  refine exc_new hC ?_ hrest
  show wpAny _ _ _ _ _ _
  have k : ∀ b o, h.get? b = some o → ((h.push (tupObj rest)).push (excObj C h.objs.size none)).get? b = some o := fun b o e => Heap.get?_push_of_some _ (Heap.get?_push_of_some _ e)
  have hC₁ := k _ _ hC
  have hget : ((h.push (tupObj rest)).push (excObj C h.objs.size none)).get? (h.objs.size + 1) = some (excObj C h.objs.size none) := by heap_get
  have hcC : (Value.ref C :: .ref D :: veMro).contains (.ref C) = true := by simp
  have X₁ := X.keeps k
  have t1 : Looks (model prog w) ((h.push (tupObj rest)).push (excObj C h.objs.size none)) (typeOf (.ref (h.objs.size + 1))) (.ref C) := (Looks.ld hget).andThen .now
  have i1 := looks_findIn (M := model prog w) X₁ hi
  have b1 := bind_fn (M := model prog w) X₁ (.ref (h.objs.size + 1)) hf
  have N1 : News h₀ L ((h.push (tupObj rest)).push (excObj C h.objs.size none)) ((h.objs.size + 1, excObj C h.objs.size none) :: (h.objs.size, tupObj rest) :: news) := by
    have := (N0.push F (tupObj rest)).push (F.push _) (excObj C h.objs.size none)
    rwa [Heap.size_push] at this
  have z := hq (h.objs.size + 1) h.objs.size _ ((F.push _).push _) N1 (fun p hp => Heap.lt_size (N0 p hp).1) (Nat.lt_succ_self _)
  unfold isInstance callSpecial? specialOf
  repeat (first | with_reducible refine wpAny_call ?_ | lk)
  rw [hcC]
  simp only [Bool.not_true, Bool.false_eq_true, if_false]
  refine wpAny_bind (wpAny_holding (wpAny_bind (wpAny_bind (t1.here (i1.here ?_)))))
  refine wpAny_holding (wpAny_bind (b1.here (wpAny_bind (wpAny_call ?_))))
  refine codeAny_mono z fun r s' z => ?_
  rcases r with e | (v | _ | _ | _) <;> first | exact z | exact z.elim | skip
  obtain ⟨rfl, z⟩ := z
  exact wpAny_pure (wpAny_pure z)
end
end Mine
end M2
section M3
open PySem PySem.W PyProof.Rows PySem.Calls PySem.Spec
set_option maxRecDepth 100000
set_option maxHeartbeats 8000000
set_option autoImplicit false
namespace Mine
open PySem.Builtin.ObjectAttr
theorem ve_type : typeOf (.type "ValueError") = pure (.type "type") := by first | rfl | kernel_rfl
theorem ve_stub : Manifest.isStub "ValueError" = false := by decide +kernel
theorem ve_find (K : Frag) : findCls K (.type "ValueError") (.type "type") "__init__" = some (.val (.builtin "ValueError.__init__")) := by with_unfolding_all rfl
section
variable {prog : Program} {w : World} {A : Around} {R : Result → Shared → Prop} {s : Shared} {K : Frag} {x C D L : Addr} {h₀ : Heap} {m : Str → Option Value} {rest : List (Addr × Obj)} {name : Str} {v : Value} {tk : Tok} {cd : ClassData}

theorem refuse_ve (self : Value) : refuseLoop self "__setattr__" veMro = pure () := by
  unfold refuseLoop
  kernel_rfl

theorem osaE_open {ox : Obj} {od : Option Obj} (X : K.In s.heap) (I : InstAt s.heap x ox C od) (hc : clsIn K C = some cd) (hm : cd.mro = .ref C :: .ref D :: veMro) (ht : takerIn K C name = some none)
    (h : ∀ b, wpAny (model prog w) A.in1 (storeInOwnDict (.ref x) (.ref C) (.str name tk) name v b)
      (fun fin s' => match fin with | .done f => R (.ok f) s' | .again c' => c'.quiet = true ∧ codeAny (model prog w) A c' R s') (fun e s' => R (.error e) s') s) :
    codeAny (model prog w) A (.call (.builtin "object.__setattr__") ⟨[.ref x, .str name tk, v], []⟩) R s := by
  have SF := PySem.F.store_object
  have sub : Looks (model prog w) s.heap (isInstance (.ref x) (.type "object")) true := I.type.andThen (looks_mroIn X (by unfold mroIn; rw [hc, Option.bind_some, hm, if_neg (by simp)]; simp))
  refine codeAny_call_builtin SF.slot.plain SF.entry (@check_slot (model prog w) _ _ s "object.__setattr__" "object" "__setattr__" (.ref x) [.str name tk, v] [] _ SF.kind SF.split sub (SF.args (.ref x) (.str name tk) v) ?_)
  obtain ⟨attr, ha, hr⟩ := Option.bind_eq_some_iff.mp ht
  have hmro : Looks (model prog w) s.heap (mroOf (.ref C)) cd.mro := (looks_clsIn X hc).andThen .now
  have L3 : Looks (model prog w) s.heap (storeTaker? attr) none := by
    cases attr with
    | none => exact .now
    | some a =>
      obtain ⟨b, hb, e⟩ := Option.map_eq_some_iff.mp hr
      refine (looks_takesIn X hb).andThen ?_
      cases b <;> first | exact .now | cases e
  rw [osa_eq, refuse_eq]
  refine wpAny_bind (wpAny_bind (I.type.here (wpAny_bind (hmro.here ?_))))
  rw [hm, refuseLoop_ref, refuseLoop_ref, refuse_ve]
  refine wpAny_pure (wpAny_bind (I.type.here (wpAny_bind ((looks_findIn X ha).here (wpAny_bind (L3.here ?_))))))
  exact h _

theorem store_in {dx : Addr} {es : List DictEntry} {n : Nat} {A : Around} {Q : Fin → Shared → Prop} {E : Value → Shared → Prop} (F : Fr h₀ L s.heap m) (N : News h₀ L s.heap ((dx, dictOf es n) :: rest)) (hne : ∀ p ∈ rest, p.1 ≠ dx)
    (hl : (getL name es).isSome = true) (hz : es.length ≤ 1000)
    (h : ∀ h' hs tk', Fr h₀ L h' m → News h₀ L h' ((dx, dictOf (putL name hs (.str name tk') v es) (putN name es n)) :: rest) → Q (.done (.ret .none)) { s with heap := h', toks := s.toks + 1 }) :
    wpAny (model prog w) A (storeInDict dx (.str name tk) name v) Q E s := by
  have e := putName_dict name (PyData.keyHash w.params name) (.str name s.toks) v es n
  obtain ⟨U1, U2⟩ := news_upd (pre := []) (f := Obj.putName name (PyData.keyHash w.params name) (.str name s.toks) v) F N (fun _ h => nomatch h) hne e rfl
  have Dd := (N (dx, dictOf es n) (.head _)).1
  have D' := (U2 (dx, dictOf (putL name (PyData.keyHash w.params name) (.str name s.toks) v es) (putN name es n)) (.head _)).1
  unfold storeInDict
  refine wpAny_bind (wpAny_pure (wpAny_bind ?_))
  unfold nsSet
  refine wpAny_bind (wpAny_bind (wpAny_askSetting (wpAny_pure (wpAny_bind (wpAny_mkText (wpAny_bind (wpAny_loadPart Dd ?_)))))))
  have c : (!es.toArray.any (·.key.isStr name) && es.toArray.any (·.refKey)) = false := by
    unfold getL at hl
    rw [List.any_toArray, List.any_toArray]
    split at hl
    · rename_i en he
      rw [List.any_eq_true.mpr ⟨en, List.mem_of_find?_eq_some he, List.find?_some he⟩]; rfl
    · split at hl
      · cases hl
      · rename_i z; rw [Bool.not_eq_true] at z; rw [z, Bool.and_false]
  dsimp only
  rw [aRefKeyMayBeTheName_at, c]
  refine wpAny_updatePart Dd ?_
  have len : (putL name (PyData.keyHash w.params name) (.str name s.toks) v es).length ≤ 1001 := by
    have : ∀ es : List DictEntry, (putL name (PyData.keyHash w.params name) (.str name s.toks) v es).length ≤ es.length + 1 := by
      intro es
      induction es with
      | nil => exact Nat.le_refl _
      | cons a r ih =>
        unfold putL
        split
        · simp
        · simp only [List.length_cons]; omega
    have := this es
    omega
  refine wpAny_bind (wpAny_lookBehind D' (pastItsLine_dict (by rw [List.size_toArray, sizeLine_eq]; omega)) ?_)
  exact wpAny_pure (h _ _ _ U1 U2)

/-- an attribute laid upon an exception that has its dict already -/
theorem setE_next {t dx : Addr} {es : List DictEntry} {n : Nat} {E : Value → Shared → Prop} {Q : Unit → Shared → Prop} (F : Fr h₀ L s.heap m) (X₀ : K.In h₀) (N : News h₀ L s.heap ((dx, dictOf es n) :: (x, excObj C t (some dx)) :: rest))
    (hne : ∀ p ∈ rest, p.1 ≠ dx) (hx : x ≠ dx) (hc : clsIn K C = some cd) (hm : cd.mro = .ref C :: .ref D :: veMro) (hh : cd.hasDict = true) (hs : findIn K (.ref C) "__setattr__" = some (some (.builtin "object.__setattr__"))) (ht : takerIn K C name = some none)
    (hl : (getL name es).isSome = true) (hz : es.length ≤ 1000)
    (h : ∀ h' hs tk' tk, Fr h₀ L h' m → News h₀ L h' ((dx, dictOf (putL name hs (.str name tk') v es) (putN name es n)) :: (x, excObj C t (some dx)) :: rest) → Q () { s with heap := h', toks := tk }) :
    wpAny (model prog w) A (setAttr (.ref x) name v) Q E s := by
  have X := X₀.keeps F.keep
  have I : InstAt s.heap x (excObj C t (some dx)) C (some (dictOf es n)) := ⟨(N _ (.tail _ (.head _))).1, rfl, rfl, (N _ (.head _)).1⟩
  refine set_plain X I hs (osaE_open (s := { s with toks := s.toks + 1 }) X I hc hm ht fun b => ?_)
  unfold storeInOwnDict
  refine wpAny_bind (wpAny_pure (wpAny_bind ?_))
  show wpAny _ _ (instanceDict x true) _ _ _
  unfold instanceDict
  refine wpAny_bind (wpAny_loadPart I.at_ (wpAny_bind (Looks.here (s := { s with toks := s.toks + 1 }) (looks_clsIn X hc) ?_)))
  rw [hh]
  refine wpAny_pure (a := some dx) (store_in (s := { s with toks := s.toks + 1 }) F N ?_ hl hz fun h' hs tk' F' N' => h h' hs tk' _ F' N')
  exact List.forall_mem_cons.mpr ⟨hx, hne⟩

/-- the first attribute laid upon an exception makes its dict -/
theorem setE_first {t : Addr} {E : Value → Shared → Prop} {Q : Unit → Shared → Prop} (F : Fr h₀ L s.heap m) (X₀ : K.In h₀) (N : News h₀ L s.heap ((x, excObj C t none) :: rest))
    (hne : ∀ p ∈ rest, p.1 ≠ x) (hc : clsIn K C = some cd) (hm : cd.mro = .ref C :: .ref D :: veMro) (hh : cd.hasDict = true) (hs : findIn K (.ref C) "__setattr__" = some (some (.builtin "object.__setattr__"))) (ht : takerIn K C name = some none)
    (h : ∀ h' dx hs tk' tk, Fr h₀ L h' m → News h₀ L h' ((dx, dictOf [⟨hs, .str name tk', v⟩] 1) :: (x, excObj C t (some dx)) :: rest) → (∀ p ∈ (x, excObj C t none) :: rest, p.1 < dx) → Q () { s with heap := h', toks := tk }) :
    wpAny (model prog w) A (setAttr (.ref x) name v) Q E s := by
  have X := X₀.keeps F.keep
  have I : InstAt s.heap x (excObj C t none) C none := ⟨(N _ (.head _)).1, rfl, rfl, trivial⟩
  refine set_plain X I hs (osaE_open (s := { s with toks := s.toks + 1 }) X I hc hm ht fun b => ?_)
  unfold storeInOwnDict
  refine wpAny_bind (wpAny_pure (wpAny_bind ?_))
  show wpAny _ _ (instanceDict x true) _ _ _
  unfold instanceDict
  refine wpAny_bind (wpAny_loadPart I.at_ (wpAny_bind (Looks.here (s := { s with toks := s.toks + 1 }) (looks_clsIn X hc) ?_)))
  rw [hh]
  simp only [Bool.not_true, Bool.false_eq_true, if_false, typeHasDict, Bool.or_false]
  have F₁ := F.push emptyDict
  have N₁ := N.push F emptyDict
  have lt : ∀ p ∈ (x, excObj C t none) :: rest, p.1 < s.heap.objs.size := fun p hp => Heap.lt_size (N p hp).1
  obtain ⟨F₂, N₂⟩ := news_upd (pre := [(s.heap.objs.size, emptyDict)]) (f := fun o => { o with dict := some s.heap.objs.size }) (o' := excObj C t (some s.heap.objs.size)) F₁ N₁ (fun p hp => by
    rw [List.mem_singleton.mp hp]; exact Nat.ne_of_gt (lt _ (.head _))) hne rfl rfl
  refine wpAny_bind (wpAny_alloc (wpAny_bind (wpAny_update (N₁ _ (.tail _ (.head _))).1 ?_)))
  unfold dictMade
  refine wpAny_bind (wpAny_pure (wpAny_pure ?_))
  refine store_in (es := []) (n := 0) (s := { s with heap := (s.heap.push emptyDict).update x _, toks := s.toks + 1 }) F₂ N₂ (List.forall_mem_cons.mpr ⟨Nat.ne_of_lt (lt (x, excObj C t none) (.head _)), fun p hp => Nat.ne_of_lt (lt _ (.tail _ hp))⟩) rfl (by decide) fun h' hs tk' F' N' => h h' _ hs tk' _ F' N' lt

end
end Mine
end M3
section M4
open PySem PySem.W PyProof.Rows PySem.Calls PySem.Spec
set_option maxRecDepth 100000
set_option maxHeartbeats 8000000
set_option autoImplicit false
namespace Mine
section
variable {prog : Program} {w : World} {A : Around} {s : Shared} {K : Frag} {e C D N t L : Addr} {h₀ : Heap} {m : Str → Option Value} {rest : List (Addr × Obj)} {v : Value} {dx : Option Addr}
variable {nm q : Str} {bs : List Value} {sn : List Str} {sub : List Value} {ab : Bool} {col : Option Bool} {dd : Option Addr} {k0 k1 k2 k3 k5 : Option Value}

theorem ve_init {E : Value → Shared → Prop} {Q : Value → Shared → Prop} (F : Fr h₀ L s.heap m) (N₀ : News h₀ L s.heap ((e, excObj C t dx) :: rest)) (hne : ∀ p ∈ rest, p.1 ≠ e)
    (hC : s.heap.get? C = some (excClassObj nm q C N bs (.ref D :: veMro) true sn sub ab col dd k0 k1 k2 k3 k5 "ValueError.__new__"))
    (h : ∀ h' t', Fr h₀ L h' m → News h₀ L h' ((e, excObj C t' dx) :: (t', tupObj [v]) :: rest) → (∀ p ∈ (e, excObj C t dx) :: rest, p.1 < t') → Q .none { s with heap := h' }) :
    wpAny (model prog w) A (call (.builtin "ValueError.__init__") [.ref e, v]) Q E s := by
  obtain ⟨hp, g, d, tk, os⟩ := s
  have he : hp.get? e = some (excObj C t dx) := (N₀ _ (.head _)).1
  have N₁ := N₀.push F (tupObj [v])
  have F₁ := F.push (tupObj [v])
  have lt : ∀ p ∈ (e, excObj C t dx) :: rest, p.1 < hp.objs.size := fun p hq => Heap.lt_size (N₀ p hq).1
  have ne : hp.objs.size ≠ e := Nat.ne_of_gt (lt (e, excObj C t dx) (.head _))
  obtain ⟨F₂, N₂⟩ := news_upd (pre := [(hp.objs.size, tupObj [v])]) (f := Obj.mapFields (·.setIfInBounds 0 (.ref hp.objs.size))) (o' := excObj C hp.objs.size dx) F₁ N₁ (fun p hq => by rw [List.mem_singleton.mp hq]; exact ne) hne rfl rfl
  have z := h _ hp.objs.size F₂ (fun p hq => N₂ p (by
    rcases List.mem_cons.mp hq with rfl | hq
    · exact .tail _ (.head _)
    · rcases List.mem_cons.mp hq with rfl | hq
      · exact .head _
      · exact .tail _ (.tail _ hq))) lt
  refine wpAny_call (codeAny_call_builtin PySem.F.excBase_ValueError.init.plain PySem.F.excBase_ValueError.initEntry (exc_check_init hC he rfl ?_))
  unfold Builtin.«BaseException.__init__» PySem.Builtin.BaseException.bexcPut
  dsimp only [List.isEmpty, Bool.not_true]
  rw [if_neg (by decide)]
  refine wpAny_bind (wpAny_newObj_type ?_ (by show [v].toArray.size ≤ _; rw [sizeLine_eq]; simp))
  have he₁ := Heap.get?_push_of_some (tupObj [v]) he
  refine wpAny_bind (wpAny_bind (wpAny_field (vs := #[.ref t, .none, .none, .none, .bool false, .none]) (x := .ref t) he₁ rfl rfl (wpAny_bind (wpAny_setField (vs := #[.ref t, .none, .none, .none, .bool false, .none]) he₁ rfl (by simp) ?_))))
  exact wpAny_letGo (wpAny_pure z)
end
/-- a class of exceptions of the text's own, one step under BoardError -/
structure OwnExc (K : Frag) (C : Addr) : Prop where
  obj : ∃ nm q N bs sn sub ab col dd k0 k1 k2 k3 k5, K.lookup C = some (excClassObj nm q C N bs (.ref 39 :: veMro) true sn sub ab col dd k0 k1 k2 k3 k5 "ValueError.__new__")
  set : findIn K (.ref C) "__setattr__" = some (some (.builtin "object.__setattr__"))
  r1 : takerIn K C "reason" = some none
  r2 : takerIn K C "cause" = some none
  r3 : takerIn K C "value" = some none
noncomputable def excName (name : Str) : Prop := name = "reason" ∨ name = "cause" ∨ name = "value"
theorem OwnExc.taker {K : Frag} {C : Addr} (O : OwnExc K C) {name : Str} (hn : excName name) : takerIn K C name = some none := by
  rcases hn with rfl | rfl | rfl
  · exact O.r1
  · exact O.r2
  · exact O.r3
section
variable {prog : Program} {w : World} {A : Around} {s : Shared} {K : Frag} {e C t L : Addr} {h₀ : Heap} {m : Str → Option Value} {rest : List (Addr × Obj)} {v : Value} {name : Str} {E : Value → Shared → Prop}
theorem ve_getm {pl : Sem Bool} {Q : Value × List Value → Shared → Prop} (F : Fr h₀ L s.heap m) (X₀ : K.In h₀) (h : Q (.builtin "ValueError.__init__", []) { s with toks := s.toks + 1 }) : wpAny (model prog w) A (getMethod (.type "ValueError") (PySem.Str.ofString "__init__") pl) Q E s := by
  have z := method_type (prog := prog) (w := w) (A := A) (E := E) (s := s) (T := "ValueError") (v := .builtin "ValueError.__init__") (name := PySem.Str.ofString "__init__") (pl := pl) (Q := Q) F X₀ ve_type ve_stub (ve_find K) (by decide +kernel) h
  with_reducible exact z
theorem oe_init {dx : Option Addr} {Q : Value → Shared → Prop} (O : OwnExc K C) (F : Fr h₀ L s.heap m) (X₀ : K.In h₀) (N₀ : News h₀ L s.heap ((e, excObj C t dx) :: rest)) (hne : ∀ p ∈ rest, p.1 ≠ e)
    (h : ∀ h' t', Fr h₀ L h' m → News h₀ L h' ((e, excObj C t' dx) :: (t', tupObj [v]) :: rest) → (∀ p ∈ (e, excObj C t dx) :: rest, p.1 < t') → Q .none { s with heap := h' }) :
    wpAny (model prog w) A (call (.builtin "ValueError.__init__") [.ref e, v]) Q E s := by
  obtain ⟨nm, q, N, bs, sn, sub, ab, col, dd, k0, k1, k2, k3, k5, hk⟩ := O.obj
  exact ve_init F N₀ hne ((X₀.keeps F.keep) _ _ hk) h
theorem oe_cd (O : OwnExc K C) : ∃ cd, clsIn K C = some cd ∧ cd.mro = .ref C :: .ref 39 :: veMro ∧ cd.hasDict = true := by
  obtain ⟨nm, q, N, bs, sn, sub, ab, col, dd, k0, k1, k2, k3, k5, hk⟩ := O.obj
  exact ⟨_, by unfold clsIn; rw [hk], rfl, rfl⟩
theorem oe_first {Q : Unit → Shared → Prop} (O : OwnExc K C) (hn : excName name) (F : Fr h₀ L s.heap m) (X₀ : K.In h₀) (N : News h₀ L s.heap ((e, excObj C t none) :: rest)) (hne : ∀ p ∈ rest, p.1 ≠ e)
    (h : ∀ h' dx hs tk' tk, Fr h₀ L h' m → News h₀ L h' ((dx, dictOf [⟨hs, .str name tk', v⟩] 1) :: (e, excObj C t (some dx)) :: rest) → (∀ p ∈ (e, excObj C t none) :: rest, p.1 < dx) → Q () { s with heap := h', toks := tk }) :
    wpAny (model prog w) A (setAttr (.ref e) name v) Q E s := by
  obtain ⟨cd, hc, hm, hh⟩ := oe_cd O
  exact setE_first F X₀ N hne hc hm hh O.set (O.taker hn) h
theorem putL_new {hs : Int} {k : Value} : ∀ {es : List DictEntry}, getL name es = some none → putL name hs k v es = es ++ [⟨hs, k, v⟩]
  | [], _ => rfl
  | a :: r, h => by
    unfold getL at h
    rw [List.find?_cons] at h
    cases q : a.key.isStr name with
    | true => rw [q] at h; cases h
    | false =>
      rw [q] at h
      have h' : getL name r = some none := by
        unfold getL
        dsimp only at h
        split at h
        · cases h
        · rename_i z
          rw [z]
          split at h
          · cases h
          · rename_i y
            rw [if_neg]
            simp only [List.any_cons, Bool.or_eq_true, not_or] at y
            exact y.2
      unfold putL
      rw [q]
      simp only [Bool.false_eq_true, if_false, List.cons_append]
      rw [putL_new h']
theorem putN_new {n : Nat} {es : List DictEntry} (h : getL name es = some none) : putN name es n = n + 1 := by
  unfold putN
  rw [if_neg]
  unfold getL at h
  split at h
  · cases h
  · rename_i z
    intro y
    obtain ⟨a, ha, hb⟩ := List.any_eq_true.mp y
    exact absurd hb (List.find?_eq_none.mp z a ha)
theorem oe_next {dx : Addr} {es : List DictEntry} {n : Nat} {Q : Unit → Shared → Prop} (O : OwnExc K C) (hn : excName name) (F : Fr h₀ L s.heap m) (X₀ : K.In h₀) (N : News h₀ L s.heap ((dx, dictOf es n) :: (e, excObj C t (some dx)) :: rest))
    (hne : ∀ p ∈ rest, p.1 ≠ dx) (hx : e ≠ dx) (hl : getL name es = some none) (hz : es.length ≤ 1000)
    (h : ∀ h' hs tk' tk, Fr h₀ L h' m → News h₀ L h' ((dx, dictOf (es ++ [⟨hs, .str name tk', v⟩]) (n + 1)) :: (e, excObj C t (some dx)) :: rest) → Q () { s with heap := h', toks := tk }) :
    wpAny (model prog w) A (setAttr (.ref e) name v) Q E s := by
  obtain ⟨cd, hc, hm, hh⟩ := oe_cd O
  refine setE_next F X₀ N hne hx hc hm hh O.set (O.taker hn) (by rw [hl]; rfl) hz fun h' hs tk' tk F' N' => ?_
  rw [putL_new hl, putN_new hl] at N'
  exact h h' hs tk' tk F' N'
theorem oe_make {R : Result → Shared → Prop} {fI : Addr} {args : List Value} (O : OwnExc K C) (F : Fr h₀ L s.heap m) (X₀ : K.In h₀) (N0 : News h₀ L s.heap rest)
    (hi : findIn K (.ref C) "__init__" = some (some (.ref fI))) (hf : typeIn K (.ref fI) = some (.type "function")) (hrest : args.length ≤ sizeLine)
    (hq : ∀ e t h', Fr h₀ L h' m → News h₀ L h' ((e, excObj C t none) :: (t, tupObj args) :: rest) → (∀ p ∈ rest, p.1 < t) → t < e →
      codeAny (model prog w) (A.under (.builtin "type.__call__" ⟨.ref C :: args, []⟩)) (.call (.ref fI) ⟨.ref e :: args, []⟩) (InitBack e R) { s with heap := h' }) :
    codeAny (model prog w) A (.call (.ref C) ⟨args, []⟩) R s := by
  obtain ⟨nm, q, N, bs, sn, sub, ab, col, dd, k0, k1, k2, k3, k5, hk⟩ := O.obj
  exact exc_make F N0 (X₀.keeps F.keep) ((X₀.keeps F.keep) _ _ hk) hi hf hrest hq
end
end Mine
end M4
section M5
open PySem PySem.W PyProof.Rows PySem.Calls PySem.Spec
set_option maxRecDepth 100000
set_option maxHeartbeats 8000000
set_option autoImplicit false
namespace Mine
section
open PySem.Builtin PySem.Builtin.Int PySem.Builtin.Float
variable {prog : Program} {w : World} {A : Around} {s : Shared} {E : Value → Shared → Prop} {Q : Value → Shared → Prop}
noncomputable def hexSpec : FormatSpec := { fill := 32, align := 62, sign := none, noNeg0 := false, alt := false, width := none, grouping := none, precision := none, type := some 120 }
theorem hex_run (a : Int) (t u : Tok) : Builtin.«int.__format__» ⟨[.int a t, .str (PySem.Str.ofString "x") u], []⟩ =
    (PySem.typeNameOf (.str (PySem.Str.ofString "x") u) >>= fun _ => typeNameOfCut 200 (.int a t) >>= fun _ => retStr (intField' hexSpec (decide (a < 0)) [] ((Nat.toDigits 16 a.natAbs).map fun c => (if (120 : Nat) == 88 then c.toUpper else c).toNat) [] 4)) := by kernel_rfl
theorem hex_digits {a : Int} (h0 : 0 ≤ a) (h1 : a < 10 ^ 10) : (Nat.toDigits 16 a.natAbs).length ≤ 10 ∧ (Nat.toDigits 16 a.natAbs) ≠ [] := by
  constructor
  · have := KXf.digits_le h0 h1
    have key : ∀ (b n k : Nat), 1 < b → n < b ^ k → 0 < k → (Nat.toDigits b n).length ≤ k := fun b n k hb hn hk => (Nat.length_toDigits_le_iff hb hk).mpr hn
    exact key 16 a.natAbs 10 (by decide) (by omega) (by decide)
  · exact Nat.toDigits_ne_nil
theorem hex_meets (m : Sem PySem.Fin) {a : Int} {t u : Tok} {x T : PySem.Str} (e : m = (PySem.typeNameOf (.str x u) >>= fun _ => typeNameOfCut 200 (.int a t) >>= fun _ => retStr T)) (hT : T.length ≤ sizeLine) :
    Meets m (fun _ R s => ∀ t' k, R (.ok (.ret (.str T t'))) { s with toks := k }) := by
  subst e
  apply KPc.meets_of
  intro prog w A s Q E hq
  refine wpAny_bind (wpAny_typeNameOf (T := "str") (typeIs_str _ _ _) (by decide) fun _ => ?_)
  refine wpAny_bind (wpAny_typeNameOfCut_int ?_)
  exact KXf.ret_text rfl hT hq
theorem fmt_hex {a : Int} {t : Tok} (h0 : 0 ≤ a) (h1 : a < 10 ^ 10) (h : ∀ y t' k, y.length ≤ 16 → Q (.str y t') { s with toks := k }) : wpAny (model prog w) A (formatField (.int a t) (PySem.Str.ofString "x")) Q E s := by
  have d := hex_digits h0 h1
  have len : (intField' hexSpec (decide (a < 0)) [] ((Nat.toDigits 16 a.natAbs).map fun c => (if (120 : Nat) == 88 then c.toUpper else c).toNat) [] 4).length ≤ 16 := by
    rw [intField'_length_plain hexSpec _ _ 4 rfl rfl (by simp [d.2]), List.length_map]
    have : hexSpec.width.getD 0 = 0 := rfl
    rw [this]
    split <;> omega
  have g : ∀ u, Meets (Builtin.«int.__format__» ⟨[.int a t, .str (PySem.Str.ofString "x") u], []⟩) (fun _ R s => ∀ t' k, R (.ok (.ret (.str (intField' hexSpec (decide (a < 0)) [] ((Nat.toDigits 16 a.natAbs).map fun c => (if (120 : Nat) == 88 then c.toUpper else c).toNat) [] 4) t'))) { s with toks := k }) := fun u =>
    hex_meets _ (hex_run a t u) (by rw [sizeLine_eq]; omega)
  have z := KXf.field_meets (prog := prog) (w := w) (A := A) (E := E) (s := s) (Q := Q) (v := .int a t) (spec := PySem.Str.ofString "x") (T := "int") (by decide +kernel) (fun s' => typeIs_int s' a t) PySem.F.slot_int_format PySem.F.entry_int_format PySem.F.args_int_format_2 (by decide +kernel) g (fun t' k => h _ _ _ len)
  with_reducible exact z
end
end Mine
end M5
section M6
open PySem PySem.W PyProof.Rows PySem.Calls PySem.Spec
set_option maxRecDepth 100000
set_option maxHeartbeats 8000000
set_option autoImplicit false
namespace Mine
section
variable {a b : Addr × Obj} {rest : List (Addr × Obj)} {d : Addr}
theorem lt_tail (h : ∀ p ∈ a :: rest, p.1 < d) : ∀ p ∈ rest, p.1 < d := fun p hp => h p (.tail _ hp)
theorem lt_tail2 (h : ∀ p ∈ a :: b :: rest, p.1 < d) : ∀ p ∈ rest, p.1 < d := fun p hp => h p (.tail _ (.tail _ hp))
theorem ne_all (h : ∀ p ∈ rest, p.1 < d) : ∀ p ∈ rest, p.1 ≠ d := fun p hp => Nat.ne_of_lt (h p hp)
end
/-- what stands around a call that one of the text's defs makes -/
noncomputable abbrev tp (hd : Option Value) (dp un : Nat) (gd : Option (List Code)) (env : Env) (outer : List Env) : Around := { handled := hd, depth := dp, frames := some (env :: outer), guards := gd, units := un }
section
variable {hd : Option Value} {dp un : Nat} {gd : Option (List Code)} {env : Env} {outer : List Env}
theorem tp_depth : (tp hd dp un gd env outer).depth = dp := rfl
theorem tp_units : (tp hd dp un gd env outer).units = un := rfl
theorem rl_is : recursionLimit = 1000 := rfl
end
end Mine
end M6
section M7
open PySem PySem.W PyProof.Rows PySem.Calls PySem.Spec
set_option maxRecDepth 100000
set_option maxHeartbeats 8000000
set_option autoImplicit false
namespace Mine
section
variable {M : Model} {A : Around} {E : Value → Shared → Prop} {s s' : Shared} {base g g₂ h : Heap} {outer : List Env} {env : Env} {L a e t C : Addr} {dx : Option Addr} {m : Str → Option Value} {name : Str} {scope : Scope} {cd : Value} {news : List (Addr × Obj)} {K : Frag}

theorem raise_own {Q : Flow → Shared → Prop} {x : PySem.Expr} {pos : Pos} (O : OwnExc K C) (hh : A.handled = none)
    (h : wpAny M A (eval x env) (fun v s₁ => ∃ e t dx, v = .ref e ∧ K.In s₁.heap ∧ s₁.heap.get? e = some (excObj C t dx) ∧ E (.ref e) s₁) E s) :
    wpAny M A (exec (.Raise (some x) none pos) env) Q E s := by
  obtain ⟨nm, q, N, bs, sn, sub, ab, col, dd, k0, k1, k2, k3, k5, hk⟩ := O.obj
  have hcB : (Value.ref C :: .ref 39 :: veMro).contains (.type "BaseException") = true := by simp
  rw [arm_exec_Raise]
  refine wpAny_bind (wpAny_standAt ?_)
  unfold raiseStmt
  refine wpAny_bind (wpAny_bind (wpAny_mono h (fun v s₁ h₁ => wpAny_bind (wpAny_standAt (wpAny_pure ?_))) fun _ _ x => x))
  obtain ⟨e, t, dx, rfl, X, he, hE⟩ := h₁
  have hC := X _ _ hk
  obtain ⟨hp, g, d, tk, os⟩ := s₁
  repeat (first | with_reducible refine wpAny_loadPart_at he ?_ | with_reducible refine wpAny_loadPart_at hC ?_ | (with_reducible refine wpAny_isSubtype_exc hC ?_; rw [hcB]) | wp_step)
  exact wpAny_raiseNew_none hh hE

/-- what flies behind a raise of an own exception: the class, the dict, the ledger that stands -/
structure Thr (base g : Heap) (l : List Env) (e C : Addr) (dx : Option Addr) (news : List (Addr × Obj)) (h : Heap) : Prop where
  R : RaisedSN base g l e (.ref C) news h
  U : g.UpToSlots h
  D : ∃ oe, h.get? e = some oe ∧ oe.cls = .ref C ∧ oe.dict = dx

theorem leave_newD {Q : Unit → Shared → Prop} (K : Below A base outer g) (F : Fr g L s'.heap m) (N : News g L s'.heap ((e, excObj C t dx) :: news)) (hne : ∀ p ∈ news, p.1 ≠ e)
    (hQ : ∀ h', Thr base g outer e C dx news h' → Q () { s' with heap := h' }) (hk : scope.kind = .function := by rfl) :
    wpAny M (A.deeper (envOf name scope L a cd)) (leaving (envOf name scope L a cd) (.ref e)) Q E s' := by
  have K' := K.push (name := name) (a := a) (cd := cd) F hk
  have hE := N _ (.head _)
  have be : base.get? e = none := fresh_of_stays K.stays hE.2.2
  have hin : ∀ env ∈ (envOf name scope L a cd :: outer), ∀ b, env.frame = some b → b ∈ e :: (envOf name scope L a cd :: outer).filterMap (·.frame) := fun env he b hb => .tail _ (List.mem_filterMap.mpr ⟨env, he, hb⟩)
  have st : base.StaysIn (hideAll s'.heap (e :: (envOf name scope L a cd :: outer).filterMap (·.frame))) := fun b o q => hideAll_get _ (K'.stays b o q) fun hm => by
    rcases List.mem_cons.mp hm with rfl | hm
    · rw [be] at q; cases q
    · rw [(K'.frames.mem hm).1] at q; cases q
  have sg : ∀ b o, g.get? b = some o → b ∉ outer.filterMap (·.frame) → (hideAll s'.heap (e :: (envOf name scope L a cd :: outer).filterMap (·.frame))).get? b = some o := fun b o q nm => hideAll_get _ (F.keep b o q) fun hm => by
    rcases List.mem_cons.mp hm with rfl | hm
    · rw [hE.2.2] at q; cases q
    · rcases kts_mem hm with z | z
      · rw [z, kts_self F] at q
        cases q
      · exact nm z
  have hl : ∀ q ∈ news, (hideAll s'.heap (e :: (envOf name scope L a cd :: outer).filterMap (·.frame))).get? q.1 = some q.2 ∧ g.get? q.1 = none ∧ base.get? q.1 = none := fun q hq => by
    have Nq := N q (.tail _ hq)
    refine ⟨hideAll_get _ Nq.1 fun hm => ?_, Nq.2.2, fresh_of_stays K.stays Nq.2.2⟩
    rcases List.mem_cons.mp hm with z | hm
    · exact hne q hq z
    · obtain ⟨env, he, hf⟩ := List.mem_filterMap.mp hm
      rcases List.mem_cons.mp he with rfl | he
      · exact Nq.2.1 (Option.some.inj hf).symm
      · obtain ⟨o, ho, _⟩ := (K.frames.mem (List.mem_filterMap.mpr ⟨env, he, hf⟩)).2
        rw [Nq.2.2] at ho; cases ho
  have hen : (hideAll s'.heap (e :: (envOf name scope L a cd :: outer).filterMap (·.frame))).get? e = none := hideAll_none _ (.head _)
  have z := wpAny_leaving_firstW (M := M) (A := A.deeper (envOf name scope L a cd)) (E := E) (s := s') (base := hideAll s'.heap (e :: (envOf name scope L a cd :: outer).filterMap (·.frame))) (Q := fun _ s₂ => ∃ h', s₂ = { s' with heap := h' } ∧ Heap.LeftW (hideAll s'.heap (e :: (envOf name scope L a cd :: outer).filterMap (·.frame))) (envOf name scope L a cd :: outer) e (excObj C t dx).cls (.ref t) s'.heap h')
    K'.stack (funFrames_hide K'.frames hin) rfl hE.1 (fun b o q => of_hideAll _ q) hen rfl rfl rfl fun h' hL => ⟨h', rfl, hL⟩
  refine wpAny_mono ((kd_leaving _ _).any z) (fun _ s₂ q => ?_) fun _ _ q => q.1
  obtain ⟨⟨h', rfl, hL⟩, hD⟩ := q
  obtain ⟨k1, ⟨_, _, k2⟩, k3, k4⟩ := hL
  obtain ⟨oe, ho, hc, hd⟩ := hD _ _ hE.1
  exact hQ h' ⟨⟨_, .ref t, st, sg, hl, k1, hen, k2, k3⟩, (Heap.UpToSlots.of_keeps F.keep).trans k4, oe, ho, hc, hd⟩

theorem leave_onD {Q : Unit → Shared → Prop} (K : Below A base outer g) (F : Fr g L g₂ m) (R : Thr base g₂ (envOf name scope L a cd :: outer) e C dx news s'.heap)
    (hQ : ∀ h', Thr base g outer e C dx news h' → Q () { s' with heap := h' }) :
    wpAny M (A.deeper (envOf name scope L a cd)) (leaving (envOf name scope L a cd) (.ref e)) Q E s' := by
  have z := leave_onSN (M := M) (E := E) (a := a) (cd := cd) (Q := fun _ s₂ => ∃ h', s₂ = { s' with heap := h' } ∧ RaisedSN base g outer e (.ref C) news h' ∧ g.UpToSlots h') K F R.R R.U fun h' r _ u => ⟨h', rfl, r, u⟩
  refine wpAny_mono ((kd_leaving _ _).any z) (fun _ s₂ q => ?_) fun _ _ q => q.1
  obtain ⟨⟨h', rfl, r, u⟩, hD⟩ := q
  obtain ⟨oe, ho, hc, hd⟩ := R.D
  obtain ⟨o₂, ho₂, hc₂, hd₂⟩ := hD _ _ ho
  exact hQ h' ⟨r, u, o₂, ho₂, hc₂.trans hc, hd₂.trans hd⟩
end
end Mine
end M7
section M8
open PySem PySem.W PyProof.Rows PySem.Calls PySem.Spec
set_option maxRecDepth 100000
set_option maxHeartbeats 8000000
set_option autoImplicit false
namespace Mine
open PySem.Builtin.ObjectAttr
section
variable {prog : Program} {w : World} {A : Around} {s : Shared} {K : Frag} {e C D L : Addr} {h₀ : Heap} {m : Str → Option Value} {v : Value} {name : Str} {E : Value → Shared → Prop} {cd : ClassData}

theorem bga_kind : builtinKind "BaseException.__getattribute__" = some .slot := by decide +kernel
theorem bga_split : splitId "BaseException.__getattribute__" = some ("BaseException", "__getattribute__") := by decide +kernel

theorem getE_value {expr : Bool} {Q : Value → Shared → Prop} {ox : Obj} {od : Option Obj} (X : K.In s.heap) (I : W.InstAt s.heap e ox C od) (hc : clsIn K C = some cd) (hm : cd.mro = .ref C :: .ref D :: veMro)
    (hga : findIn K (.ref C) "__getattribute__" = some (some (.builtin "BaseException.__getattribute__"))) (hgt : findIn K (.ref C) "__getattr__" = some none)
    (hf : findObj K C od name = some (.value v)) (hh : handedIn v = true) (h : Q v { s with toks := s.toks + 1 }) : wpAny (model prog w) A (getAttr (.ref e) name expr) Q E s := by
  have sub : Looks (model prog w) s.heap (isInstance (.ref e) (.type "BaseException")) true := I.type.andThen (looks_mroIn X (by unfold mroIn; rw [hc, Option.bind_some, hm, if_neg (by simp)]; simp))
  have FB := PySem.F.attr_ValueError
  obtain ⟨hp, g, d, t, os⟩ := s
  have L0 := I.type (M := model prog w)
  have L1 := looks_findIn (M := model prog w) X hga
  have L2 := looks_findIn (M := model prog w) X hgt
  have L3 := looks_find (M := model prog w) X I hf
  unfold getAttr getAttrBy
  refine wpAny_bind (wpAny_mkText (wpAny_holding (wpAny_bind (L0.at (wpAny_bind (L1.at ?_))))))
  show wpAny _ _ (getAttrByItsOwn _ _ _ _ _ _) _ _ _
  unfold getAttrByItsOwn
  refine wpAny_bind (L2.at ?_)
  refine wpAny_bind (wpAny_attempt (wpAny_holding ?_))
  have hx0 : (expr && onTheHeap (Value.builtin "BaseException.__getattribute__")) = false := by cases expr <;> rfl
  unfold callGetattribute
  rw [hx0]
  show wpAny _ _ (boundAndCalled _ _ _) _ _ _
  unfold boundAndCalled
  rw [FB.ga.bind]
  refine wpAny_bind (wpAny_pure ?_)
  refine wpAny_call (codeAny_call_builtin FB.ga.plain PySem.F.entry_bexc_ga (@check_slot (model prog w) _ _ ⟨hp, g, d, t + 1, os⟩ "BaseException.__getattribute__" "BaseException" "__getattribute__" (.ref e) [.str name t] [] _ bga_kind bga_split sub (PySem.F.args_bexc_ga _ _) ?_))
  refine wpAny_bind (wpAny_pure (wpAny_bind (wpAny_pure (wpAny_bind (L0.at (wpAny_bind (L3.at ?_)))))))
  refine wpAny_pure ?_
  show wpAny _ _ (handedOut v) _ _ _
  rw [handedOut_of hh]; exact wpAny_pure h
end
end Mine
end M8
section M9
open PySem PySem.W PyProof.Rows PySem.Calls PySem.Spec
set_option maxRecDepth 100000
set_option maxHeartbeats 8000000
set_option autoImplicit false
namespace Mine
section
variable {prog : Program} {w : World} {A₀ : Around} {E : Value → Shared → Prop} {s' : Shared} {base g g₀ G : Heap} {outer : List Env} {L a e C : Addr} {dx : Addr} {m : Str → Option Value} {name : Str} {scope : Scope} {cd : Value}
  {n : Str} {b₀ : Stmt} {suite : List Stmt} {pos : Pos} {rest hs : List ExceptHandler} {Q : Flow → Shared → Prop} {news : List (Addr × Obj)} {KF : Frag} {tt : Expr}
  {p : Program} {loose : List Str} {mean : ExcName → Option Value} {mg mb : Str → Option Value}

theorem lookD {dx : Option Addr} (R : Thr base G (envOf name scope L a cd :: outer) e C dx news s'.heap) (F : Fr g L G m) (K : Below A₀ base outer g)
    (k : ∀ h', Thr base G (envOf name scope L a cd :: outer) e C dx news h' → wpAny (model prog w) (A₀.deeper (envOf name scope L a cd)) (handleBy (.ref e) (envOf name scope L a cd) hs) Q E { s' with heap := h' }) :
    wpAny (model prog w) (A₀.deeper (envOf name scope L a cd)) (noteFrame (.ref e) (envOf name scope L a cd))
      (fun _ s₂ => wpAny (model prog w) (A₀.deeper (envOf name scope L a cd)) (setFlight (.ref e) none) (fun _ s₃ =>
        wpAny (model prog w) (A₀.deeper (envOf name scope L a cd)) (handleBy (.ref e) (envOf name scope L a cd) hs) Q E s₃) E s₂) E s' := by
  obtain ⟨⟨B, a0, hB, hBG, hl, hfl⟩, hsm, oe, ho, hc, hd⟩ := R
  have z := wpAny_looks_onW (M := model prog w) (A := A₀.deeper (envOf name scope L a cd)) (E := E) (s := s') (Q := fun _ s₂ => ∃ h', s₂ = { s' with heap := h' } ∧ Heap.HeldW B (envOf name scope L a cd :: outer) e (.ref C) a0 L h' ∧ s'.heap.UpToSlots h') (Around.frames_deeper K.stack) rfl hfl fun h₄ x y => ⟨h₄, rfl, x, y⟩
  refine wpAny_mono ((kd_noteFrame _ _).any z) (fun _ s₂ q => ?_) fun _ _ q => q.1
  obtain ⟨⟨h₄, rfl, hheld₄, hsm₄⟩, hD⟩ := q
  obtain ⟨o₄, ho₄, hc₄, hd₄⟩ := hD _ _ ho
  have z := wpAny_landsW (M := model prog w) (A := A₀.deeper (envOf name scope L a cd)) (E := E) (s := { s' with heap := h₄ }) (Q := fun _ s₂ => ∃ h', s₂ = { s' with heap := h' } ∧ Heap.FlyingW B (envOf name scope L a cd :: outer) e (.ref C) a0 h' ∧ h₄.UpToSlots h') hheld₄ fun h₅ x y => ⟨h₅, rfl, x, y⟩
  refine wpAny_mono ((kd_setFlight _ _).any z) (fun _ s₂ q => ?_) fun _ _ q => q.1
  obtain ⟨⟨h₅, rfl, hheld, hsm₅⟩, hD⟩ := q
  obtain ⟨o₅, ho₅, hc₅, hd₅⟩ := hD _ _ ho₄
  exact k h₅ ⟨⟨B, a0, hB, hBG, hl, hheld⟩, hsm.trans (hsm₄.trans hsm₅), o₅, ho₅, hc₅.trans (hc₄.trans hc), hd₅.trans (hd₄.trans hd)⟩

/-- «except C as n»: the object is at hand with its class and its dict -/
theorem hitDB (R : Thr base G (envOf name scope L a cd :: outer) e C (some dx) news s'.heap) (F : Fr g L G m) (K : Below A₀ base outer g) (XB : KF.In base) (TB : Top p loose mean mg mb base)
    (D : KtsDicts (outer.filterMap (·.frame)) g) (T0 : KtsTurn (outer.filterMap (·.frame)) g₀ g) (T : KtsTest prog w KF p loose mg mb name scope L a cd (.ref C) tt true)
    (k : ∀ h' g' tk vs sl, KtsTurn (outer.filterMap (·.frame)) g₀ g' → Fr g' L h' (fun y => if y = n then some (.ref e) else m y) → News g' L h' ((e, ⟨.ref C, some dx, .fields vs, sl⟩) :: news) → Below A₀ base outer g' → KF.In g' → Top p loose mean mg mb g' → KtsDicts (outer.filterMap (·.frame)) g' →
      wpAny (model prog w) ((A₀.deeper (envOf name scope L a cd)).mark (some (.ref e))) (execs (b₀ :: suite) (envOf name scope L a cd))
        (fun f s₄ => wpAny (model prog w) (A₀.deeper (envOf name scope L a cd)) (do bindName (envOf name scope L a cd) n .none; unbindBehindTheSuite (envOf name scope L a cd) n pos) (fun _ s₅ => Q f s₅) E s₄)
        (AsSuiteRaised (model prog w) ((A₀.deeper (envOf name scope L a cd)).mark (some (.ref e))) (envOf name scope L a cd) n pos (notedBy (model prog w) ((A₀.deeper (envOf name scope L a cd)).mark (some (.ref e))) (envOf name scope L a cd) (cameBackBy (model prog w) (A₀.deeper (envOf name scope L a cd)) (envOf name scope L a cd) E)))
        { s' with heap := h', toks := tk })
    (hk : scope.kind = .function := by rfl) (hlo : (envOf name scope L a cd).kindOf n = some .local := by rfl) :
    wpAny (model prog w) (A₀.deeper (envOf name scope L a cd)) (handleBy (.ref e) (envOf name scope L a cd) (.ExceptHandler (some tt) (some n) (b₀ :: suite) pos :: rest)) Q E s' := by
  obtain ⟨R, hsm, oe, hoe, hcE, hdE⟩ := R
  have R' := R
  obtain ⟨B₁, a1, _, hBG₁, _, hfl₁⟩ := R'
  obtain ⟨g₅, T₅, F₅, K₅⟩ := kts_ground K F hBG₁ hfl₁.1 hsm
  refine wpAny_handleBy_cons (codeAny_handlers_test (T _ _ _ _ g₅ e m F₅ (XB.keeps K₅.stays) (topRead_of (TB.keeps K₅.stays)) R.ty fun h₅ kp => ?_)) (by intro q; cases q)
  have hsm₅ : G.UpToSlots h₅ := hsm.trans (Heap.UpToSlots.of_keeps kp)
  obtain ⟨B, a0, hB, hBG, hl, hheld⟩ := R.keeps kp
  have hL : B.get? L = none := by
    obtain ⟨_, ⟨L', _, hf, hn', _⟩, _⟩ := hheld.2.2.1
    obtain rfl : L = L' := Option.some.inj hf
    exact hn'
  refine codeAny_handlers_suite_as ?_
  have z := fun M A E => lands_againW (M := M) (A := A) (E := E) (s := { s' with heap := h₅ }) (Q := fun _ s₂ => ∃ h', s₂ = { s' with heap := h' } ∧ Heap.FlyingW B (envOf name scope L a cd :: outer) e (.ref C) a0 h' ∧ h₅.UpToSlots h') hheld fun h₆ x y => ⟨h₆, rfl, x, y⟩
  refine wpAny_mono ((kd_setFlight _ _).any (z _ _ _)) (fun _ s₂ q => ?_) fun _ _ q => q.1
  obtain ⟨⟨h₆, rfl, hfl₆, hsm₆⟩, hD⟩ := q
  obtain ⟨o₆, ho₆, hc₆, hd₆⟩ := hD _ _ (kp _ _ hoe)
  obtain ⟨g₆, T₆, F₆, K₆⟩ := kts_ground K F hBG hfl₆.1 (hsm₅.trans hsm₆)
  have ne₆ : g₆.get? e = none := T₆.none_ _ (kts_fresh F hBG hfl₆.2.1 fun o ho mm => by
    obtain ⟨_, o', ho', hd⟩ := K.frames.mem mm
    rw [ho] at ho'
    cases ho'
    obtain ⟨sl, hs⟩ := (hsm₅.trans hsm₆) _ _ (F.keep _ _ ho) hd
    obtain ⟨oz, vz, hoz, _, hdz, _⟩ := hfl₆.first
    rw [hs] at hoz
    cases hoz
    exact hd _ hdz)
  have Nl : News g₆ L h₆ news := fun q hq => ⟨hfl₆.1 _ _ (hl q hq).1, (fun z => by have := (hl q hq).1; rw [z, hL] at this; cases this), T₆.none_ _ (kts_none F.keep (hl q hq).2.1)⟩
  obtain ⟨oz, vz, hoz, hcz, hdz, _⟩ := hfl₆.first
  obtain rfl : o₆ = oz := Option.some.inj (ho₆.symm.trans hoz)
  have eo : o₆ = ⟨.ref C, some dx, .fields vz, o₆.slots⟩ := by
    obtain ⟨a1, a2, a3, a4⟩ := o₆
    dsimp only at hcz hdz hd₆ hdE
    subst hcz hdz
    rw [hd₆, hdE]
  have N₆ : News g₆ L h₆ ((e, ⟨.ref C, some dx, .fields vz, o₆.slots⟩) :: news) := by
    have z := News.more F₆ Nl ho₆ (fun es n q => by rw [hdz] at q; cases q) ne₆
    rw [eo] at z
    exact z
  have X₆ : KF.In g₆ := XB.keeps K₆.stays
  have P₆ : Top p loose mean mg mb g₆ := TB.keeps K₆.stays
  have D₆ : KtsDicts (outer.filterMap (·.frame)) g₆ := D.turn T₆
  refine stN F₆ N₆ (fun h₇ F₇ N₇ => ?_) hk hlo
  exact k h₇ g₆ _ _ _ (T0.trans T₆) F₇ N₇ K₆ X₆ P₆ D₆
end
end Mine
end M9
section M10
open PySem PySem.W PyProof.Rows PySem.Calls PySem.Spec
set_option maxRecDepth 100000
set_option maxHeartbeats 8000000
set_option autoImplicit false
namespace Mine
theorem Thr.sub {base g h : Heap} {l : List Env} {e C : Addr} {dx : Option Addr} {news news' : List (Addr × Obj)} (T : Thr base g l e C dx news h) (hs : ∀ q ∈ news', q ∈ news) : Thr base g l e C dx news' h := by
  obtain ⟨⟨B, a0, h1, h2, h3, h4⟩, U, D⟩ := T
  exact ⟨⟨B, a0, h1, h2, fun q hq => h3 q (hs q hq), h4⟩, U, D⟩
section
variable {M : Model} {A : Around} {E : Value → Shared → Prop} {s s' : Shared} {base g g₂ h : Heap} {outer : List Env} {env : Env} {L a e t1 t2 C : Addr} {dx : Addr} {m : Str → Option Value} {name : Str} {scope : Scope} {cd : Value} {news news' : List (Addr × Obj)} {D o1 o2 : Obj}
theorem leaveT {Q : Unit → Shared → Prop} (K : Below A base outer g) (F : Fr g L s'.heap m) (N : News g L s'.heap ((dx, D) :: (e, excObj C t1 (some dx)) :: (t1, o1) :: (t2, o2) :: news)) (l1 : ∀ p ∈ news, p.1 < t2) (l2 : t2 < e) (l3 : e < t1) (l4 : t1 < dx)
    (hsub : ∀ q ∈ news', q ∈ news)
    (hQ : ∀ h', Thr base g outer e C (some dx) ((dx, D) :: news') h' → Q () { s' with heap := h' }) (hk : scope.kind = .function := by rfl) :
    wpAny M (A.deeper (envOf name scope L a cd)) (leaving (envOf name scope L a cd) (.ref e)) Q E s' := by
  refine leave_newD K F (news := (dx, D) :: news') (C := C) (t := t1) (fun p hp => ?_) ?_ hQ hk
  · rcases List.mem_cons.mp hp with rfl | hp
    · exact N _ (.tail _ (.head _))
    · rcases List.mem_cons.mp hp with rfl | hp
      · exact N _ (.head _)
      · exact N _ (.tail _ (.tail _ (.tail _ (.tail _ (hsub _ hp)))))
  · intro p hp
    rcases List.mem_cons.mp hp with rfl | hp
    · exact Nat.ne_of_gt (Nat.lt_trans l3 l4)
    · exact Nat.ne_of_lt (Nat.lt_trans (l1 p (hsub _ hp)) l2)
theorem leaveT0 {Q : Unit → Shared → Prop} (K : Below A base outer g) (F : Fr g L s'.heap m) (N : News g L s'.heap ((dx, D) :: (e, excObj C t1 (some dx)) :: (t1, o1) :: (t2, o2) :: news)) (l1 : ∀ p ∈ news, p.1 < t2) (l2 : t2 < e) (l3 : e < t1) (l4 : t1 < dx)
    (hQ : ∀ h', Thr base g outer e C (some dx) ((dx, D) :: news) h' → Q () { s' with heap := h' }) (hk : scope.kind = .function := by rfl) :
    wpAny M (A.deeper (envOf name scope L a cd)) (leaving (envOf name scope L a cd) (.ref e)) Q E s' := leaveT K F N l1 l2 l3 l4 (fun _ hq => hq) hQ hk
end
/-- the dict of a Trap made: what it tells -/
noncomputable def TrapD (c v : Int) (D : Obj) : Prop := ∃ (y : Str) (hs1 hs2 hs3 : Int) (k1 k2 k3 ty tc tv : Tok), D = dictOf [⟨hs1, .str "reason" k1, .str y ty⟩, ⟨hs2, .str "cause" k2, .int c tc⟩, ⟨hs3, .str "value" k3, .int v tv⟩] 3
theorem TrapD.mk' {c v : Int} {y : Str} {hs1 hs2 hs3 : Int} {k1 k2 k3 ty tc tv : Tok} : TrapD c v (dictOf [⟨hs1, .str "reason" k1, .str y ty⟩, ⟨hs2, .str "cause" k2, .int c tc⟩, ⟨hs3, .str "value" k3, .int v tv⟩] 3) := ⟨y, hs1, hs2, hs3, k1, k2, k3, ty, tc, tv, rfl⟩
/-- the cause of a page fault, by the kind -/
noncomputable def pfS (k : Str) : Int := if (k == Str.ofString "fetch") = true then 12 else if (k == Str.ofString "store") = true then 15 else 13
noncomputable def KindIs (k : Str) : Prop := k = Str.ofString "fetch" ∨ k = Str.ofString "load" ∨ k = Str.ofString "store"
theorem pfS_lt {k : Str} : 0 ≤ pfS k ∧ pfS k < 16 := by
  unfold pfS
  split
  · decide
  · split <;> decide
end Mine
end M10
section HdA
open PySem PySem.W PyProof.Rows PySem.Calls PySem.Spec
set_option maxRecDepth 100000
set_option maxHeartbeats 8000000
set_option autoImplicit false
namespace Mine
section
/-! the objects that the text's top leaves, as the run shows them -/
noncomputable abbrev E (P : Params) (k : Str) (t : Nat) (v : Value) : DictEntry := ⟨PyData.keyHash P k, .str k t, v⟩
noncomputable def nth : List Stmt → Nat → Stmt
  | [], _ => .Pass default
  | a :: _, 0 => a
  | _ :: r, n + 1 => nth r n
noncomputable def top (i : Nat) : Stmt := nth PySem.Challenge.pw_nz0224_01.main.body i
noncomputable def meth (c i : Nat) : Stmt := match top c with
  | .ClassDef _ _ _ b _ _ _ _ _ _ _ => nth b i
  | s => s
noncomputable def fnO (d : Stmt) (q : Str) (dV kV pm cd : Value) : Obj := match d with
  | .FunctionDef n a b _ _ _ sc _ _ _ => ⟨.type "function", none, .func (fnOf n q a b sc dV kV .none pm none cd .none), #[]⟩
  | _ => default
noncomputable def o2 (P : Params) : Obj := ⟨.none, none, .dict #[] 0, #[]⟩
noncomputable def o3 (P : Params) : Obj := ⟨(.type "dict"), none, .dict #[E P "__name__" 165 (.str "law_nz0224_01" 1453), E P "__doc__" 166 .none, E P "__package__" 167 .none, E P "__loader__" 168 (.builtin "__main__.__loader__#opaque"), E P "__spec__" 169 .none, E P "__annotations__" 170 (.ref 6), E P "__builtins__" 171 (.ref 4), E P "__file__" 173 (.str "/claim/cut.py" 172), E P "__cached__" 174 .none, E P "_wall" 193 (.ref 21), E P "BoardError" 223 (.ref 39), E P "BadArgument" 239 (.ref 52), E P "BadAddress" 264 (.ref 71), E P "NoRoom" 280 (.ref 83), E P "Trap" 336 (.ref 103), E P "ENTRY" 340 (.int 4 339), E P "VALID" 342 (.int 1 341), E P "READ" 344 (.int 2 343), E P "WRITE" 346 (.int 4 345), E P "EXECUTE" 348 (.int 8 347), E P "USER" 350 (.int 16 349), E P "ACCESSED" 352 (.int 64 351), E P "DIRTY" 354 (.int 128 353), E P "LEAF" 356 (.int 10 355), E P "FLAG_BITS" 358 (.int 10 357), E P "FLAGS" 363 (.int 1023 362), E P "FLAG_NAMES" 365 (.str "vrwxugad" 364), E P "DIGITS" 367 (.str "0123456789abcdef" 366), E P "FETCH" 369 (.str "fetch" 368), E P "LOAD" 371 (.str "load" 370), E P "STORE" 373 (.str "store" 372), E P "PAGE_FAULTS" 380 (.ref 106), E P "ACCESS_FAULTS" 387 (.ref 107), E P "USER_MODE" 389 (.int 0 388), E P "Layout" 494 (.ref 182), E P "eight_digits" 500 (.ref 191), E P "is_leaf" 507 (.ref 198), E P "is_sound" 514 (.ref 205), E P "may" 525 (.ref 212), E P "Walker" 632 (.ref 266), E P "Tables" 867 (.ref 418), E P "WORD" 871 (.int 4 870), E P "MASK" 877 (.int 4294967295 876), E P "SPACE" 881 (.int 4294967296 880), E P "SIZES" 885 (.ref 423), E P "need_size" 892 (.ref 430), E P "need_stretch" 900 (.ref 437), E P "Memory" 1141 (.ref 607), E P "Rom" 1198 (.ref 649), E P "Bus" 1294 (.ref 714), E P "TAKEN" 1298 (.int 5 1297), E P "FREED" 1300 (.int 1 1299), E P "Pages" 1452 (.ref 834), E P "_law_board" 1465 (.ref 845), E P "_law_seen" 1474 (.ref 852), E P "_law_asked" 1497 (.ref 859), E P "_law_rows" 1510 (.ref 866), E P "_law_cells" 1516 (.ref 871), E P "_law_entries" 1528 (.ref 878), E P "_law_beyond" 1536 (.ref 885), E P "law" 1542 (.ref 890)] 61, #[]⟩
noncomputable def o29 (P : Params) : Obj := ⟨(.type "tuple"), none, .seq #[(.str "" 208)] 0, #[]⟩
noncomputable def o35 (P : Params) : Obj := ⟨(.type "code"), none, .fields #[(.str "__init__" 209), (.str "BoardError.__init__" 210), (.str "/claim/cut.py" 211), (.int 7 0), (.int 2 0), (.int 0 0), (.int 0 0), (.int 3 0), (.ref 30), (.bool true), (.int 181 0), (.ref 31), .none, (.ref 32), (.ref 33), (.ref 34), (.int 214 0), (.int 7 0), (.str "/claim/cut.py" 215)], #[]⟩
noncomputable def o36 (P : Params) : Obj := fnO (meth 2 0) "BoardError.__init__" (.ref 29) .none (.str "pipeboard.errors" 194) (.ref 35)
noncomputable def o38 (P : Params) : Obj := ⟨(.type "dict"), none, .dict #[E P "__module__" 203 (.str "pipeboard.errors" 194), E P "__firstlineno__" 207 (.int 5 206), E P "__init__" 216 (.ref 36), E P "__static_attributes__" 218 (.ref 37), E P "__weakref__" 220 (.ref 40), E P "__doc__" 221 .none] 3, #[]⟩
noncomputable def o39 (P : Params) : Obj := ⟨(.type "type"), none, .cls { name := "BoardError", bases := [(.type "ValueError")], mro := [(.ref 39), (.type "ValueError"), (.type "Exception"), (.type "BaseException"), (.type "object")], ns := 38, qualname := "BoardError", hasDict := true, slotNames := [], subclasses := [(.ref 52), (.ref 71), (.ref 83), (.ref 103)], abstract := false, collection := none, hasDel := false }, #[some (.ref 22), none, some (.str "BoardError" 196), some (.str "BoardError" 204), some (.builtin "ValueError.__new__"), some (.bool true)]⟩
noncomputable def o51 (P : Params) : Obj := ⟨(.type "dict"), none, .dict #[E P "__module__" 231 (.str "pipeboard.errors" 194), E P "__firstlineno__" 235 (.int 10 234), E P "__static_attributes__" 236 (.ref 50), E P "__doc__" 237 .none] 2, #[]⟩
noncomputable def o52 (P : Params) : Obj := ⟨(.type "type"), none, .cls { name := "BadArgument", bases := [(.ref 39)], mro := [(.ref 52), (.ref 39), (.type "ValueError"), (.type "Exception"), (.type "BaseException"), (.type "object")], ns := 51, qualname := "BadArgument", hasDict := true, slotNames := [], subclasses := [], abstract := false, collection := none, hasDel := false }, #[some (.ref 43), none, some (.str "BadArgument" 224), some (.str "BadArgument" 232), some (.builtin "ValueError.__new__"), some (.bool true)]⟩
noncomputable def o70 (P : Params) : Obj := ⟨(.type "dict"), none, .dict #[E P "__module__" 247 (.str "pipeboard.errors" 194), E P "__firstlineno__" 251 (.int 12 250), E P "__init__" 259 (.ref 68), E P "__static_attributes__" 261 (.ref 69), E P "__doc__" 262 .none] 2, #[]⟩
noncomputable def o71 (P : Params) : Obj := ⟨(.type "type"), none, .cls { name := "BadAddress", bases := [(.ref 39)], mro := [(.ref 71), (.ref 39), (.type "ValueError"), (.type "Exception"), (.type "BaseException"), (.type "object")], ns := 70, qualname := "BadAddress", hasDict := true, slotNames := [], subclasses := [], abstract := false, collection := none, hasDel := false }, #[some (.ref 55), none, some (.str "BadAddress" 240), some (.str "BadAddress" 248), some (.builtin "ValueError.__new__"), some (.bool true)]⟩
noncomputable def o82 (P : Params) : Obj := ⟨(.type "dict"), none, .dict #[E P "__module__" 272 (.str "pipeboard.errors" 194), E P "__firstlineno__" 276 (.int 17 275), E P "__static_attributes__" 277 (.ref 81), E P "__doc__" 278 .none] 2, #[]⟩
noncomputable def o83 (P : Params) : Obj := ⟨(.type "type"), none, .cls { name := "NoRoom", bases := [(.ref 39)], mro := [(.ref 83), (.ref 39), (.type "ValueError"), (.type "Exception"), (.type "BaseException"), (.type "object")], ns := 82, qualname := "NoRoom", hasDict := true, slotNames := [], subclasses := [], abstract := false, collection := none, hasDel := false }, #[some (.ref 74), none, some (.str "NoRoom" 265), some (.str "NoRoom" 273), some (.builtin "ValueError.__new__"), some (.bool true)]⟩
noncomputable def o93 (P : Params) : Obj := ⟨(.type "tuple"), none, .seq #[(.int 0 321)] 0, #[]⟩
noncomputable def o99 (P : Params) : Obj := ⟨(.type "code"), none, .fields #[(.str "__init__" 322), (.str "Trap.__init__" 323), (.str "/claim/cut.py" 324), (.int 35 0), (.int 3 0), (.int 0 0), (.int 0 0), (.int 3 0), (.ref 94), (.bool true), (.int 181 0), (.ref 95), .none, (.ref 96), (.ref 97), (.ref 98), (.int 328 0), (.int 35 0), (.str "/claim/cut.py" 329)], #[]⟩
noncomputable def o100 (P : Params) : Obj := fnO (meth 6 14) "Trap.__init__" (.ref 93) .none (.str "pipeboard.errors" 194) (.ref 99)
noncomputable def o102 (P : Params) : Obj := ⟨(.type "dict"), none, .dict #[E P "__module__" 288 (.str "pipeboard.errors" 194), E P "__firstlineno__" 292 (.int 19 291), E P "FETCH_MISALIGNED" 294 (.int 0 293), E P "FETCH_ACCESS" 296 (.int 1 295), E P "ILLEGAL" 298 (.int 2 297), E P "BREAKPOINT" 300 (.int 3 299), E P "LOAD_MISALIGNED" 302 (.int 4 301), E P "LOAD_ACCESS" 304 (.int 5 303), E P "STORE_MISALIGNED" 306 (.int 6 305), E P "STORE_ACCESS" 308 (.int 7 307), E P "CALL_FROM_USER" 310 (.int 8 309), E P "CALL_FROM_SUPERVISOR" 312 (.int 9 311), E P "CALL_FROM_MACHINE" 314 (.int 11 313), E P "FETCH_PAGE" 316 (.int 12 315), E P "LOAD_PAGE" 318 (.int 13 317), E P "STORE_PAGE" 320 (.int 15 319), E P "__init__" 330 (.ref 100), E P "__static_attributes__" 333 (.ref 101), E P "__doc__" 334 .none] 2, #[]⟩
noncomputable def o103 (P : Params) : Obj := ⟨(.type "type"), none, .cls { name := "Trap", bases := [(.ref 39)], mro := [(.ref 103), (.ref 39), (.type "ValueError"), (.type "Exception"), (.type "BaseException"), (.type "object")], ns := 102, qualname := "Trap", hasDict := true, slotNames := [], subclasses := [], abstract := false, collection := none, hasDel := false }, #[some (.ref 86), none, some (.str "Trap" 281), some (.str "Trap" 289), some (.builtin "ValueError.__new__"), some (.bool true)]⟩
noncomputable def o106 (P : Params) : Obj := ⟨(.type "dict"), none, .dict #[E P "fetch" 368 (.int 12 315), E P "load" 370 (.int 13 317), E P "store" 372 (.int 15 319)] 3, #[]⟩
noncomputable def o107 (P : Params) : Obj := ⟨(.type "dict"), none, .dict #[E P "fetch" 368 (.int 1 295), E P "load" 370 (.int 5 303), E P "store" 372 (.int 7 307)] 3, #[]⟩
noncomputable def o115 (P : Params) : Obj := ⟨(.type "tuple"), none, .seq #[(.int 12 402)] 0, #[]⟩
noncomputable def o121 (P : Params) : Obj := ⟨(.type "code"), none, .fields #[(.str "__init__" 403), (.str "Layout.__init__" 404), (.str "/claim/cut.py" 405), (.int 61 0), (.int 2 0), (.int 0 0), (.int 0 0), (.int 3 0), (.ref 116), (.bool true), (.int 181 0), (.ref 117), .none, (.ref 118), (.ref 119), (.ref 120), (.int 408 0), (.int 61 0), (.str "/claim/cut.py" 409)], #[]⟩
noncomputable def o122 (P : Params) : Obj := fnO (meth 27 0) "Layout.__init__" (.ref 115) .none (.str "pipeboard.paging" 337) (.ref 121)
noncomputable def o128 (P : Params) : Obj := ⟨(.type "code"), none, .fields #[(.str "parts" 411), (.str "Layout.parts" 412), (.str "/claim/cut.py" 413), (.int 71 0), (.int 2 0), (.int 0 0), (.int 0 0), (.int 3 0), (.ref 123), (.bool true), (.int 181 0), (.ref 124), .none, (.ref 125), (.ref 126), (.ref 127), (.int 417 0), (.int 71 0), (.str "/claim/cut.py" 418)], #[]⟩
noncomputable def o129 (P : Params) : Obj := fnO (meth 27 1) "Layout.parts" .none .none (.str "pipeboard.paging" 337) (.ref 128)
noncomputable def o130 (P : Params) : Obj := ⟨(.type "tuple"), none, .seq #[(.int 0 420)] 0, #[]⟩
noncomputable def o136 (P : Params) : Obj := ⟨(.type "code"), none, .fields #[(.str "address" 421), (.str "Layout.address" 422), (.str "/claim/cut.py" 423), (.int 77 0), (.int 4 0), (.int 0 0), (.int 0 0), (.int 3 0), (.ref 131), (.bool true), (.int 181 0), (.ref 132), .none, (.ref 133), (.ref 134), (.ref 135), (.int 428 0), (.int 77 0), (.str "/claim/cut.py" 429)], #[]⟩
noncomputable def o137 (P : Params) : Obj := fnO (meth 27 2) "Layout.address" (.ref 130) .none (.str "pipeboard.paging" 337) (.ref 136)
noncomputable def o143 (P : Params) : Obj := ⟨(.type "code"), none, .fields #[(.str "down" 431), (.str "Layout.down" 432), (.str "/claim/cut.py" 433), (.int 80 0), (.int 2 0), (.int 0 0), (.int 0 0), (.int 3 0), (.ref 138), (.bool true), (.int 181 0), (.ref 139), .none, (.ref 140), (.ref 141), (.ref 142), (.int 436 0), (.int 80 0), (.str "/claim/cut.py" 437)], #[]⟩
noncomputable def o144 (P : Params) : Obj := fnO (meth 27 3) "Layout.down" .none .none (.str "pipeboard.paging" 337) (.ref 143)
noncomputable def o157 (P : Params) : Obj := ⟨(.type "code"), none, .fields #[(.str "is_begin" 447), (.str "Layout.is_begin" 448), (.str "/claim/cut.py" 449), (.int 86 0), (.int 2 0), (.int 0 0), (.int 0 0), (.int 3 0), (.ref 152), (.bool true), (.int 181 0), (.ref 153), .none, (.ref 154), (.ref 155), (.ref 156), (.int 452 0), (.int 86 0), (.str "/claim/cut.py" 453)], #[]⟩
noncomputable def o158 (P : Params) : Obj := fnO (meth 27 5) "Layout.is_begin" .none .none (.str "pipeboard.paging" 337) (.ref 157)
noncomputable def o171 (P : Params) : Obj := ⟨(.type "code"), none, .fields #[(.str "entry" 464), (.str "Layout.entry" 465), (.str "/claim/cut.py" 466), (.int 92 0), (.int 3 0), (.int 0 0), (.int 0 0), (.int 3 0), (.ref 166), (.bool true), (.int 181 0), (.ref 167), .none, (.ref 168), (.ref 169), (.ref 170), (.int 470 0), (.int 92 0), (.str "/claim/cut.py" 471)], #[]⟩
noncomputable def o172 (P : Params) : Obj := fnO (meth 27 7) "Layout.entry" .none .none (.str "pipeboard.paging" 337) (.ref 171)
noncomputable def o178 (P : Params) : Obj := ⟨(.type "code"), none, .fields #[(.str "physical" 473), (.str "Layout.physical" 474), (.str "/claim/cut.py" 475), (.int 95 0), (.int 2 0), (.int 0 0), (.int 0 0), (.int 3 0), (.ref 173), (.bool true), (.int 181 0), (.ref 174), .none, (.ref 175), (.ref 176), (.ref 177), (.int 478 0), (.int 95 0), (.str "/claim/cut.py" 479)], #[]⟩
noncomputable def o179 (P : Params) : Obj := fnO (meth 27 8) "Layout.physical" .none .none (.str "pipeboard.paging" 337) (.ref 178)
noncomputable def o181 (P : Params) : Obj := ⟨(.type "dict"), none, .dict #[E P "__module__" 397 (.str "pipeboard.paging" 337), E P "__firstlineno__" 401 (.int 59 400), E P "__init__" 410 (.ref 122), E P "parts" 419 (.ref 129), E P "address" 430 (.ref 137), E P "down" 438 (.ref 144), E P "up" 446 (.ref 151), E P "is_begin" 454 (.ref 158), E P "pages_in" 463 (.ref 165), E P "entry" 472 (.ref 172), E P "physical" 480 (.ref 179), E P "__static_attributes__" 487 (.ref 180), E P "__dict__" 489 (.ref 183), E P "__weakref__" 491 (.ref 184), E P "__doc__" 492 .none] 4, #[]⟩
noncomputable def o182 (P : Params) : Obj := ⟨(.type "type"), none, .cls { name := "Layout", bases := [(.type "object")], mro := [(.ref 182), (.type "object")], ns := 181, qualname := "Layout", hasDict := true, slotNames := [], subclasses := [], abstract := false, collection := none, hasDel := false }, #[none, none, some (.str "Layout" 390), some (.str "Layout" 398), some (.builtin "object.__new__"), some (.bool true)]⟩
noncomputable def o197 (P : Params) : Obj := ⟨(.type "code"), none, .fields #[(.str "is_leaf" 501), (.str "is_leaf" 502), (.str "/claim/cut.py" 503), (.int 99 0), (.int 1 0), (.int 0 0), (.int 0 0), (.int 3 0), (.ref 192), (.bool true), (.int 181 0), (.ref 193), .none, (.ref 194), (.ref 195), (.ref 196), (.int 505 0), (.int 99 0), (.str "/claim/cut.py" 506)], #[]⟩
noncomputable def o198 (P : Params) : Obj := fnO (top 29) "is_leaf" .none .none (.str "pipeboard.paging" 337) (.ref 197)
noncomputable def o204 (P : Params) : Obj := ⟨(.type "code"), none, .fields #[(.str "is_sound" 508), (.str "is_sound" 509), (.str "/claim/cut.py" 510), (.int 101 0), (.int 1 0), (.int 0 0), (.int 0 0), (.int 3 0), (.ref 199), (.bool true), (.int 181 0), (.ref 200), .none, (.ref 201), (.ref 202), (.ref 203), (.int 512 0), (.int 101 0), (.str "/claim/cut.py" 513)], #[]⟩
noncomputable def o205 (P : Params) : Obj := fnO (top 30) "is_sound" .none .none (.str "pipeboard.paging" 337) (.ref 204)
noncomputable def o211 (P : Params) : Obj := ⟨(.type "code"), none, .fields #[(.str "may" 515), (.str "may" 516), (.str "/claim/cut.py" 517), (.int 103 0), (.int 5 0), (.int 0 0), (.int 0 0), (.int 3 0), (.ref 206), (.bool true), (.int 181 0), (.ref 207), .none, (.ref 208), (.ref 209), (.ref 210), (.int 523 0), (.int 103 0), (.str "/claim/cut.py" 524)], #[]⟩
noncomputable def o212 (P : Params) : Obj := fnO (top 31) "may" .none .none (.str "pipeboard.paging" 337) (.ref 211)
noncomputable def o225 (P : Params) : Obj := ⟨(.type "code"), none, .fields #[(.str "__init__" 538), (.str "Walker.__init__" 539), (.str "/claim/cut.py" 540), (.int 115 0), (.int 3 0), (.int 0 0), (.int 0 0), (.int 3 0), (.ref 220), (.bool true), (.int 181 0), (.ref 221), .none, (.ref 222), (.ref 223), (.ref 224), (.int 544 0), (.int 115 0), (.str "/claim/cut.py" 545)], #[]⟩
noncomputable def o226 (P : Params) : Obj := fnO (meth 32 0) "Walker.__init__" .none .none (.str "pipeboard.paging" 337) (.ref 225)
noncomputable def o227 (P : Params) : Obj := ⟨(.type "tuple"), none, .seq #[(.int 0 547), (.int 0 548)] 0, #[]⟩
noncomputable def o233 (P : Params) : Obj := ⟨(.type "code"), none, .fields #[(.str "translate" 549), (.str "Walker.translate" 550), (.str "/claim/cut.py" 551), (.int 119 0), (.int 7 0), (.int 0 0), (.int 0 0), (.int 3 0), (.ref 228), (.bool true), (.int 181 0), (.ref 229), .none, (.ref 230), (.ref 231), (.ref 232), (.int 562 0), (.int 119 0), (.str "/claim/cut.py" 563)], #[]⟩
noncomputable def o234 (P : Params) : Obj := fnO (meth 32 1) "Walker.translate" (.ref 227) .none (.str "pipeboard.paging" 337) (.ref 233)
noncomputable def o240 (P : Params) : Obj := ⟨(.type "code"), none, .fields #[(.str "entry_at" 565), (.str "Walker.entry_at" 566), (.str "/claim/cut.py" 567), (.int 134 0), (.int 4 0), (.int 0 0), (.int 0 0), (.int 3 0), (.ref 235), (.bool true), (.int 181 0), (.ref 236), .none, (.ref 237), (.ref 238), (.ref 239), (.int 573 0), (.int 134 0), (.str "/claim/cut.py" 574)], #[]⟩
noncomputable def o241 (P : Params) : Obj := fnO (meth 32 2) "Walker.entry_at" .none .none (.str "pipeboard.paging" 337) (.ref 240)
noncomputable def o247 (P : Params) : Obj := ⟨(.type "code"), none, .fields #[(.str "large_page" 576), (.str "Walker.large_page" 577), (.str "/claim/cut.py" 578), (.int 143 0), (.int 8 0), (.int 0 0), (.int 0 0), (.int 3 0), (.ref 242), (.bool true), (.int 181 0), (.ref 243), .none, (.ref 244), (.ref 245), (.ref 246), (.int 588 0), (.int 143 0), (.str "/claim/cut.py" 589)], #[]⟩
noncomputable def o248 (P : Params) : Obj := fnO (meth 32 3) "Walker.large_page" .none .none (.str "pipeboard.paging" 337) (.ref 247)
noncomputable def o254 (P : Params) : Obj := ⟨(.type "code"), none, .fields #[(.str "mark" 591), (.str "Walker.mark" 592), (.str "/claim/cut.py" 593), (.int 150 0), (.int 5 0), (.int 0 0), (.int 0 0), (.int 3 0), (.ref 249), (.bool true), (.int 181 0), (.ref 250), .none, (.ref 251), (.ref 252), (.ref 253), (.int 600 0), (.int 150 0), (.str "/claim/cut.py" 601)], #[]⟩
noncomputable def o255 (P : Params) : Obj := fnO (meth 32 4) "Walker.mark" .none .none (.str "pipeboard.paging" 337) (.ref 254)
noncomputable def o256 (P : Params) : Obj := ⟨(.type "tuple"), none, .seq #[(.int 0 603), (.int 0 604)] 0, #[]⟩
noncomputable def o262 (P : Params) : Obj := ⟨(.type "code"), none, .fields #[(.str "probe" 605), (.str "Walker.probe" 606), (.str "/claim/cut.py" 607), (.int 158 0), (.int 7 0), (.int 0 0), (.int 0 0), (.int 3 0), (.ref 257), (.bool true), (.int 181 0), (.ref 258), .none, (.ref 259), (.ref 260), (.ref 261), (.int 620 0), (.int 158 0), (.str "/claim/cut.py" 621)], #[]⟩
noncomputable def o263 (P : Params) : Obj := fnO (meth 32 5) "Walker.probe" (.ref 256) .none (.str "pipeboard.paging" 337) (.ref 262)
noncomputable def o265 (P : Params) : Obj := ⟨(.type "dict"), none, .dict #[E P "__module__" 533 (.str "pipeboard.paging" 337), E P "__firstlineno__" 537 (.int 113 536), E P "__init__" 546 (.ref 226), E P "translate" 564 (.ref 234), E P "entry_at" 575 (.ref 241), E P "large_page" 590 (.ref 248), E P "mark" 602 (.ref 255), E P "probe" 622 (.ref 263), E P "__static_attributes__" 625 (.ref 264), E P "__dict__" 627 (.ref 267), E P "__weakref__" 629 (.ref 268), E P "__doc__" 630 .none] 4, #[]⟩
noncomputable def o266 (P : Params) : Obj := ⟨(.type "type"), none, .cls { name := "Walker", bases := [(.type "object")], mro := [(.ref 266), (.type "object")], ns := 265, qualname := "Walker", hasDict := true, slotNames := [], subclasses := [], abstract := false, collection := none, hasDel := false }, #[none, none, some (.str "Walker" 526), some (.str "Walker" 534), some (.builtin "object.__new__"), some (.bool true)]⟩
noncomputable def o283 (P : Params) : Obj := ⟨(.type "code"), none, .fields #[(.str "__init__" 645), (.str "Tables.__init__" 646), (.str "/claim/cut.py" 647), (.int 176 0), (.int 4 0), (.int 0 0), (.int 0 0), (.int 3 0), (.ref 278), (.bool true), (.int 181 0), (.ref 279), .none, (.ref 280), (.ref 281), (.ref 282), (.int 652 0), (.int 176 0), (.str "/claim/cut.py" 653)], #[]⟩
noncomputable def o284 (P : Params) : Obj := fnO (meth 33 0) "Tables.__init__" .none .none (.str "pipeboard.paging" 337) (.ref 283)
noncomputable def o297 (P : Params) : Obj := ⟨(.type "code"), none, .fields #[(.str "need_parts" 663), (.str "Tables.need_parts" 664), (.str "/claim/cut.py" 665), (.int 186 0), (.int 2 0), (.int 0 0), (.int 0 0), (.int 3 0), (.ref 292), (.bool true), (.int 181 0), (.ref 293), .none, (.ref 294), (.ref 295), (.ref 296), (.int 669 0), (.int 186 0), (.str "/claim/cut.py" 670)], #[]⟩
noncomputable def o298 (P : Params) : Obj := fnO (meth 33 2) "Tables.need_parts" .none .none (.str "pipeboard.paging" 337) (.ref 297)
noncomputable def o299 (P : Params) : Obj := ⟨(.type "tuple"), none, .seq #[(.bool false)] 0, #[]⟩
noncomputable def o305 (P : Params) : Obj := ⟨(.type "code"), none, .fields #[(.str "walk" 672), (.str "Tables.walk" 673), (.str "/claim/cut.py" 674), (.int 192 0), (.int 4 0), (.int 0 0), (.int 0 0), (.int 3 0), (.ref 300), (.bool true), (.int 181 0), (.ref 301), .none, (.ref 302), (.ref 303), (.ref 304), (.int 684 0), (.int 192 0), (.str "/claim/cut.py" 685)], #[]⟩
noncomputable def o306 (P : Params) : Obj := fnO (meth 33 3) "Tables.walk" (.ref 299) .none (.str "pipeboard.paging" 337) (.ref 305)
noncomputable def o312 (P : Params) : Obj := ⟨(.type "code"), none, .fields #[(.str "entry" 687), (.str "Tables.entry" 688), (.str "/claim/cut.py" 689), (.int 205 0), (.int 3 0), (.int 0 0), (.int 0 0), (.int 3 0), (.ref 307), (.bool true), (.int 181 0), (.ref 308), .none, (.ref 309), (.ref 310), (.ref 311), (.int 697 0), (.int 205 0), (.str "/claim/cut.py" 698)], #[]⟩
noncomputable def o313 (P : Params) : Obj := fnO (meth 33 4) "Tables.entry" .none .none (.str "pipeboard.paging" 337) (.ref 312)
noncomputable def o319 (P : Params) : Obj := ⟨(.type "code"), none, .fields #[(.str "physical" 700), (.str "Tables.physical" 701), (.str "/claim/cut.py" 702), (.int 213 0), (.int 3 0), (.int 0 0), (.int 0 0), (.int 3 0), (.ref 314), (.bool true), (.int 181 0), (.ref 315), .none, (.ref 316), (.ref 317), (.ref 318), (.int 710 0), (.int 213 0), (.str "/claim/cut.py" 711)], #[]⟩
noncomputable def o320 (P : Params) : Obj := fnO (meth 33 5) "Tables.physical" .none .none (.str "pipeboard.paging" 337) (.ref 319)
noncomputable def o326 (P : Params) : Obj := ⟨(.type "code"), none, .fields #[(.str "need_flags" 713), (.str "Tables.need_flags" 714), (.str "/claim/cut.py" 715), (.int 222 0), (.int 2 0), (.int 0 0), (.int 0 0), (.int 3 0), (.ref 321), (.bool true), (.int 181 0), (.ref 322), .none, (.ref 323), (.ref 324), (.ref 325), (.int 718 0), (.int 222 0), (.str "/claim/cut.py" 719)], #[]⟩
noncomputable def o327 (P : Params) : Obj := fnO (meth 33 6) "Tables.need_flags" .none .none (.str "pipeboard.paging" 337) (.ref 326)
noncomputable def o347 (P : Params) : Obj := ⟨(.type "code"), none, .fields #[(.str "need_place" 743), (.str "Tables.need_place" 744), (.str "/claim/cut.py" 745), (.int 232 0), (.int 3 0), (.int 0 0), (.int 0 0), (.int 3 0), (.ref 342), (.bool true), (.int 181 0), (.ref 343), .none, (.ref 344), (.ref 345), (.ref 346), (.int 750 0), (.int 232 0), (.str "/claim/cut.py" 751)], #[]⟩
noncomputable def o348 (P : Params) : Obj := fnO (meth 33 9) "Tables.need_place" .none .none (.str "pipeboard.paging" 337) (.ref 347)
noncomputable def o354 (P : Params) : Obj := ⟨(.type "code"), none, .fields #[(.str "unmap" 753), (.str "Tables.unmap" 754), (.str "/claim/cut.py" 755), (.int 238 0), (.int 3 0), (.int 0 0), (.int 0 0), (.int 3 0), (.ref 349), (.bool true), (.int 181 0), (.ref 350), .none, (.ref 351), (.ref 352), (.ref 353), (.int 761 0), (.int 238 0), (.str "/claim/cut.py" 762)], #[]⟩
noncomputable def o355 (P : Params) : Obj := fnO (meth 33 10) "Tables.unmap" .none .none (.str "pipeboard.paging" 337) (.ref 354)
noncomputable def o356 (P : Params) : Obj := ⟨(.type "tuple"), none, .seq #[(.int 0 764)] 0, #[]⟩
noncomputable def o362 (P : Params) : Obj := ⟨(.type "code"), none, .fields #[(.str "change" 765), (.str "Tables.change" 766), (.str "/claim/cut.py" 767), (.int 244 0), (.int 5 0), (.int 0 0), (.int 0 0), (.int 3 0), (.ref 357), (.bool true), (.int 181 0), (.ref 358), .none, (.ref 359), (.ref 360), (.ref 361), (.int 775 0), (.int 244 0), (.str "/claim/cut.py" 776)], #[]⟩
noncomputable def o363 (P : Params) : Obj := fnO (meth 33 11) "Tables.change" (.ref 356) .none (.str "pipeboard.paging" 337) (.ref 362)
noncomputable def o369 (P : Params) : Obj := ⟨(.type "code"), none, .fields #[(.str "move" 778), (.str "Tables.move" 779), (.str "/claim/cut.py" 780), (.int 251 0), (.int 5 0), (.int 0 0), (.int 0 0), (.int 3 0), (.ref 364), (.bool true), (.int 181 0), (.ref 365), .none, (.ref 366), (.ref 367), (.ref 368), (.int 788 0), (.int 251 0), (.str "/claim/cut.py" 789)], #[]⟩
noncomputable def o370 (P : Params) : Obj := fnO (meth 33 12) "Tables.move" .none .none (.str "pipeboard.paging" 337) (.ref 369)
noncomputable def o383 (P : Params) : Obj := ⟨(.type "code"), none, .fields #[(.str "rows" 802), (.str "Tables.rows" 803), (.str "/claim/cut.py" 804), (.int 268 0), (.int 2 0), (.int 0 0), (.int 0 0), (.int 3 0), (.ref 378), (.bool true), (.int 181 0), (.ref 379), .none, (.ref 380), (.ref 381), (.ref 382), (.int 811 0), (.int 268 0), (.str "/claim/cut.py" 812)], #[]⟩
noncomputable def o384 (P : Params) : Obj := fnO (meth 33 14) "Tables.rows" .none .none (.str "pipeboard.paging" 337) (.ref 383)
noncomputable def o390 (P : Params) : Obj := ⟨(.type "code"), none, .fields #[(.str "rows_of" 814), (.str "Tables.rows_of" 815), (.str "/claim/cut.py" 816), (.int 281 0), (.int 3 0), (.int 0 0), (.int 0 0), (.int 3 0), (.ref 385), (.bool true), (.int 181 0), (.ref 386), .none, (.ref 387), (.ref 388), (.ref 389), (.int 824 0), (.int 281 0), (.str "/claim/cut.py" 825)], #[]⟩
noncomputable def o391 (P : Params) : Obj := fnO (meth 33 15) "Tables.rows_of" .none .none (.str "pipeboard.paging" 337) (.ref 390)
noncomputable def o417 (P : Params) : Obj := ⟨(.type "dict"), none, .dict #[E P "__module__" 640 (.str "pipeboard.paging" 337), E P "__firstlineno__" 644 (.int 174 643), E P "__init__" 654 (.ref 284), E P "new_table" 662 (.ref 291), E P "need_parts" 671 (.ref 298), E P "walk" 686 (.ref 306), E P "entry" 699 (.ref 313), E P "physical" 712 (.ref 320), E P "need_flags" 720 (.ref 327), E P "map" 731 (.ref 334), E P "map_large" 742 (.ref 341), E P "need_place" 752 (.ref 348), E P "unmap" 763 (.ref 355), E P "change" 777 (.ref 363), E P "move" 790 (.ref 370), E P "tables_of" 801 (.ref 377), E P "rows" 813 (.ref 384), E P "rows_of" 826 (.ref 391), E P "prune" 834 (.ref 398), E P "leaves" 840 (.ref 403), E P "free" 850 (.ref 410), E P "text" 856 (.ref 415), E P "__static_attributes__" 860 (.ref 416), E P "__dict__" 862 (.ref 419), E P "__weakref__" 864 (.ref 420), E P "__doc__" 865 .none] 4, #[]⟩
noncomputable def o418 (P : Params) : Obj := ⟨(.type "type"), none, .cls { name := "Tables", bases := [(.type "object")], mro := [(.ref 418), (.type "object")], ns := 417, qualname := "Tables", hasDict := true, slotNames := [], subclasses := [], abstract := false, collection := none, hasDel := false }, #[none, none, some (.str "Tables" 633), some (.str "Tables" 641), some (.builtin "object.__new__"), some (.bool true)]⟩
noncomputable def o423 (P : Params) : Obj := ⟨(.type "tuple"), none, .seq #[(.int 1 882), (.int 2 883), (.int 4 884)] 0, #[]⟩
noncomputable def o429 (P : Params) : Obj := ⟨(.type "code"), none, .fields #[(.str "need_size" 886), (.str "need_size" 887), (.str "/claim/cut.py" 888), (.int 324 0), (.int 1 0), (.int 0 0), (.int 0 0), (.int 3 0), (.ref 424), (.bool true), (.int 181 0), (.ref 425), .none, (.ref 426), (.ref 427), (.ref 428), (.int 890 0), (.int 324 0), (.str "/claim/cut.py" 891)], #[]⟩
noncomputable def o430 (P : Params) : Obj := fnO (top 39) "need_size" .none .none (.str "pipeboard.memory" 868) (.ref 429)
noncomputable def o436 (P : Params) : Obj := ⟨(.type "code"), none, .fields #[(.str "need_stretch" 893), (.str "need_stretch" 894), (.str "/claim/cut.py" 895), (.int 327 0), (.int 2 0), (.int 0 0), (.int 0 0), (.int 3 0), (.ref 431), (.bool true), (.int 181 0), (.ref 432), .none, (.ref 433), (.ref 434), (.ref 435), (.int 898 0), (.int 327 0), (.str "/claim/cut.py" 899)], #[]⟩
noncomputable def o437 (P : Params) : Obj := fnO (top 40) "need_stretch" .none .none (.str "pipeboard.memory" 868) (.ref 436)
noncomputable def o445 (P : Params) : Obj := ⟨(.type "tuple"), none, .seq #[(.int 0 913)] 0, #[]⟩
noncomputable def o451 (P : Params) : Obj := ⟨(.type "code"), none, .fields #[(.str "__init__" 914), (.str "Memory.__init__" 915), (.str "/claim/cut.py" 916), (.int 332 0), (.int 3 0), (.int 0 0), (.int 0 0), (.int 3 0), (.ref 446), (.bool true), (.int 181 0), (.ref 447), .none, (.ref 448), (.ref 449), (.ref 450), (.int 920 0), (.int 332 0), (.str "/claim/cut.py" 921)], #[]⟩
noncomputable def o452 (P : Params) : Obj := fnO (meth 41 0) "Memory.__init__" (.ref 445) .none (.str "pipeboard.memory" 868) (.ref 451)
noncomputable def o472 (P : Params) : Obj := ⟨(.type "code"), none, .fields #[(.str "need_aligned" 941), (.str "Memory.need_aligned" 942), (.str "/claim/cut.py" 943), (.int 346 0), (.int 3 0), (.int 0 0), (.int 0 0), (.int 3 0), (.ref 467), (.bool true), (.int 181 0), (.ref 468), .none, (.ref 469), (.ref 470), (.ref 471), (.int 947 0), (.int 346 0), (.str "/claim/cut.py" 948)], #[]⟩
noncomputable def o473 (P : Params) : Obj := fnO (meth 41 3) "Memory.need_aligned" .none .none (.str "pipeboard.memory" 868) (.ref 472)
noncomputable def o479 (P : Params) : Obj := ⟨(.type "code"), none, .fields #[(.str "word" 950), (.str "Memory.word" 951), (.str "/claim/cut.py" 952), (.int 350 0), (.int 2 0), (.int 0 0), (.int 0 0), (.int 3 0), (.ref 474), (.bool true), (.int 181 0), (.ref 475), .none, (.ref 476), (.ref 477), (.ref 478), (.int 955 0), (.int 350 0), (.str "/claim/cut.py" 956)], #[]⟩
noncomputable def o480 (P : Params) : Obj := fnO (meth 41 4) "Memory.word" .none .none (.str "pipeboard.memory" 868) (.ref 479)
noncomputable def o486 (P : Params) : Obj := ⟨(.type "code"), none, .fields #[(.str "put_word" 958), (.str "Memory.put_word" 959), (.str "/claim/cut.py" 960), (.int 354 0), (.int 3 0), (.int 0 0), (.int 0 0), (.int 3 0), (.ref 481), (.bool true), (.int 181 0), (.ref 482), .none, (.ref 483), (.ref 484), (.ref 485), (.int 964 0), (.int 354 0), (.str "/claim/cut.py" 965)], #[]⟩
noncomputable def o487 (P : Params) : Obj := fnO (meth 41 5) "Memory.put_word" .none .none (.str "pipeboard.memory" 868) (.ref 486)
noncomputable def o493 (P : Params) : Obj := ⟨(.type "code"), none, .fields #[(.str "keep" 967), (.str "Memory.keep" 968), (.str "/claim/cut.py" 969), (.int 358 0), (.int 3 0), (.int 0 0), (.int 0 0), (.int 3 0), (.ref 488), (.bool true), (.int 181 0), (.ref 489), .none, (.ref 490), (.ref 491), (.ref 492), (.int 973 0), (.int 358 0), (.str "/claim/cut.py" 974)], #[]⟩
noncomputable def o494 (P : Params) : Obj := fnO (meth 41 6) "Memory.keep" .none .none (.str "pipeboard.memory" 868) (.ref 493)
noncomputable def o535 (P : Params) : Obj := ⟨(.type "code"), none, .fields #[(.str "get" 1022), (.str "Memory.get" 1023), (.str "/claim/cut.py" 1024), (.int 385 0), (.int 3 0), (.int 0 0), (.int 0 0), (.int 3 0), (.ref 530), (.bool true), (.int 181 0), (.ref 531), .none, (.ref 532), (.ref 533), (.ref 534), (.int 1028 0), (.int 385 0), (.str "/claim/cut.py" 1029)], #[]⟩
noncomputable def o536 (P : Params) : Obj := fnO (meth 41 12) "Memory.get" .none .none (.str "pipeboard.memory" 868) (.ref 535)
noncomputable def o542 (P : Params) : Obj := ⟨(.type "code"), none, .fields #[(.str "put" 1031), (.str "Memory.put" 1032), (.str "/claim/cut.py" 1033), (.int 393 0), (.int 4 0), (.int 0 0), (.int 0 0), (.int 3 0), (.ref 537), (.bool true), (.int 181 0), (.ref 538), .none, (.ref 539), (.ref 540), (.ref 541), (.int 1038 0), (.int 393 0), (.str "/claim/cut.py" 1039)], #[]⟩
noncomputable def o543 (P : Params) : Obj := fnO (meth 41 13) "Memory.put" .none .none (.str "pipeboard.memory" 868) (.ref 542)
noncomputable def o589 (P : Params) : Obj := ⟨(.type "code"), none, .fields #[(.str "rows" 1109), (.str "Memory.rows" 1110), (.str "/claim/cut.py" 1111), (.int 452 0), (.int 1 0), (.int 0 0), (.int 0 0), (.int 3 0), (.ref 586), (.bool true), (.int 181 0), (.ref 587), .none, .none, .none, (.ref 588), (.int 1112 0), (.int 452 0), (.str "/claim/cut.py" 1113)], #[]⟩
noncomputable def o590 (P : Params) : Obj := fnO (meth 41 20) "Memory.rows" .none .none (.str "pipeboard.memory" 868) (.ref 589)
noncomputable def o606 (P : Params) : Obj := ⟨(.type "dict"), none, .dict #[E P "__module__" 908 (.str "pipeboard.memory" 868), E P "__firstlineno__" 912 (.int 330 911), E P "__init__" 922 (.ref 452), E P "holds" 931 (.ref 459), E P "need" 940 (.ref 466), E P "need_aligned" 949 (.ref 473), E P "word" 957 (.ref 480), E P "put_word" 966 (.ref 487), E P "keep" 975 (.ref 494), E P "half" 983 (.ref 501), E P "put_half" 992 (.ref 508), E P "octet" 1000 (.ref 515), E P "put_octet" 1009 (.ref 522), E P "put_part" 1021 (.ref 529), E P "get" 1030 (.ref 536), E P "put" 1040 (.ref 543), E P "load" 1054 (.ref 550), E P "store" 1069 (.ref 557), E P "zero" 1081 (.ref 564), E P "fill" 1091 (.ref 571), E P "copy" 1101 (.ref 578), E P "used" 1108 (.ref 585), E P "rows" 1114 (.ref 590), E P "twin" 1121 (.ref 597), E P "alike" 1129 (.ref 604), E P "__static_attributes__" 1134 (.ref 605), E P "__dict__" 1136 (.ref 608), E P "__weakref__" 1138 (.ref 609), E P "__doc__" 1139 .none] 4, #[]⟩
noncomputable def o607 (P : Params) : Obj := ⟨(.type "type"), none, .cls { name := "Memory", bases := [(.type "object")], mro := [(.ref 607), (.type "object")], ns := 606, qualname := "Memory", hasDict := true, slotNames := [], subclasses := [], abstract := false, collection := none, hasDel := false }, #[none, none, some (.str "Memory" 901), some (.str "Memory" 909), some (.builtin "object.__new__"), some (.bool true)]⟩
noncomputable def o648 (P : Params) : Obj := ⟨(.type "dict"), none, .dict #[E P "__module__" 1149 (.str "pipeboard.memory" 868), E P "__firstlineno__" 1153 (.int 460 1152), E P "__init__" 1161 (.ref 625), E P "size" 1168 (.ref 632), E P "load" 1179 (.ref 639), E P "store" 1189 (.ref 646), E P "__static_attributes__" 1191 (.ref 647), E P "__dict__" 1193 (.ref 650), E P "__weakref__" 1195 (.ref 651), E P "__doc__" 1196 .none] 4, #[]⟩
noncomputable def o649 (P : Params) : Obj := ⟨(.type "type"), none, .cls { name := "Rom", bases := [(.type "object")], mro := [(.ref 649), (.type "object")], ns := 648, qualname := "Rom", hasDict := true, slotNames := [], subclasses := [], abstract := false, collection := none, hasDel := false }, #[none, none, some (.str "Rom" 1142), some (.str "Rom" 1150), some (.builtin "object.__new__"), some (.bool true)]⟩
noncomputable def o666 (P : Params) : Obj := ⟨(.type "code"), none, .fields #[(.str "__init__" 1211), (.str "Bus.__init__" 1212), (.str "/claim/cut.py" 1213), (.int 478 0), (.int 2 0), (.int 0 0), (.int 0 0), (.int 3 0), (.ref 661), (.bool true), (.int 181 0), (.ref 662), .none, (.ref 663), (.ref 664), (.ref 665), (.int 1216 0), (.int 478 0), (.str "/claim/cut.py" 1217)], #[]⟩
noncomputable def o667 (P : Params) : Obj := fnO (meth 43 0) "Bus.__init__" .none .none (.str "pipeboard.memory" 868) (.ref 666)
noncomputable def o680 (P : Params) : Obj := ⟨(.type "code"), none, .fields #[(.str "stretch_at" 1229), (.str "Bus.stretch_at" 1230), (.str "/claim/cut.py" 1231), (.int 485 0), (.int 3 0), (.int 0 0), (.int 0 0), (.int 3 0), (.ref 675), (.bool true), (.int 181 0), (.ref 676), .none, (.ref 677), (.ref 678), (.ref 679), (.int 1236 0), (.int 485 0), (.str "/claim/cut.py" 1237)], #[]⟩
noncomputable def o681 (P : Params) : Obj := fnO (meth 43 2) "Bus.stretch_at" .none .none (.str "pipeboard.memory" 868) (.ref 680)
noncomputable def o682 (P : Params) : Obj := ⟨(.type "tuple"), none, .seq #[(.int 5 303)] 0, #[]⟩
noncomputable def o688 (P : Params) : Obj := ⟨(.type "code"), none, .fields #[(.str "load" 1240), (.str "Bus.load" 1241), (.str "/claim/cut.py" 1242), (.int 491 0), (.int 4 0), (.int 0 0), (.int 0 0), (.int 3 0), (.ref 683), (.bool true), (.int 181 0), (.ref 684), .none, (.ref 685), (.ref 686), (.ref 687), (.int 1249 0), (.int 491 0), (.str "/claim/cut.py" 1250)], #[]⟩
noncomputable def o689 (P : Params) : Obj := fnO (meth 43 3) "Bus.load" (.ref 682) .none (.str "pipeboard.memory" 868) (.ref 688)
noncomputable def o690 (P : Params) : Obj := ⟨(.type "tuple"), none, .seq #[(.int 7 307)] 0, #[]⟩
noncomputable def o696 (P : Params) : Obj := ⟨(.type "code"), none, .fields #[(.str "store" 1253), (.str "Bus.store" 1254), (.str "/claim/cut.py" 1255), (.int 506 0), (.int 5 0), (.int 0 0), (.int 0 0), (.int 3 0), (.ref 691), (.bool true), (.int 181 0), (.ref 692), .none, (.ref 693), (.ref 694), (.ref 695), (.int 1263 0), (.int 506 0), (.str "/claim/cut.py" 1264)], #[]⟩
noncomputable def o697 (P : Params) : Obj := fnO (meth 43 4) "Bus.store" (.ref 690) .none (.str "pipeboard.memory" 868) (.ref 696)
noncomputable def o713 (P : Params) : Obj := ⟨(.type "dict"), none, .dict #[E P "__module__" 1206 (.str "pipeboard.memory" 868), E P "__firstlineno__" 1210 (.int 476 1209), E P "__init__" 1218 (.ref 667), E P "attach" 1228 (.ref 674), E P "stretch_at" 1238 (.ref 681), E P "load" 1251 (.ref 689), E P "store" 1265 (.ref 697), E P "fetch" 1275 (.ref 704), E P "is_memory" 1284 (.ref 711), E P "__static_attributes__" 1287 (.ref 712), E P "__dict__" 1289 (.ref 715), E P "__weakref__" 1291 (.ref 716), E P "__doc__" 1292 .none] 4, #[]⟩
noncomputable def o714 (P : Params) : Obj := ⟨(.type "type"), none, .cls { name := "Bus", bases := [(.type "object")], mro := [(.ref 714), (.type "object")], ns := 713, qualname := "Bus", hasDict := true, slotNames := [], subclasses := [], abstract := false, collection := none, hasDel := false }, #[none, none, some (.str "Bus" 1199), some (.str "Bus" 1207), some (.builtin "object.__new__"), some (.bool true)]⟩
noncomputable def o726 (P : Params) : Obj := ⟨(.type "tuple"), none, .seq #[(.bool true)] 0, #[]⟩
noncomputable def o732 (P : Params) : Obj := ⟨(.type "code"), none, .fields #[(.str "__init__" 1313), (.str "Pages.__init__" 1314), (.str "/claim/cut.py" 1315), (.int 540 0), (.int 6 0), (.int 0 0), (.int 0 0), (.int 3 0), (.ref 727), (.bool true), (.int 181 0), (.ref 728), .none, (.ref 729), (.ref 730), (.ref 731), (.int 1322 0), (.int 540 0), (.str "/claim/cut.py" 1323)], #[]⟩
noncomputable def o733 (P : Params) : Obj := fnO (meth 47 0) "Pages.__init__" (.ref 726) .none (.str "pipeboard.pages" 1295) (.ref 732)
noncomputable def o833 (P : Params) : Obj := ⟨(.type "dict"), none, .dict #[E P "__module__" 1308 (.str "pipeboard.pages" 1295), E P "__firstlineno__" 1312 (.int 538 1311), E P "__init__" 1324 (.ref 733), E P "address_of" 1332 (.ref 740), E P "is_page" 1342 (.ref 747), E P "holders" 1350 (.ref 754), E P "need_held" 1358 (.ref 761), E P "free_count" 1365 (.ref 768), E P "need_free" 1373 (.ref 775), E P "filled" 1382 (.ref 782), E P "take" 1390 (.ref 789), E P "take_clear" 1397 (.ref 796), E P "take_many" 1405 (.ref 803), E P "share" 1413 (.ref 810), E P "give" 1421 (.ref 817), E P "own" 1429 (.ref 824), E P "all_held" 1436 (.ref 831), E P "__static_attributes__" 1445 (.ref 832), E P "__dict__" 1447 (.ref 835), E P "__weakref__" 1449 (.ref 836), E P "__doc__" 1450 .none] 4, #[]⟩
noncomputable def o834 (P : Params) : Obj := ⟨(.type "type"), none, .cls { name := "Pages", bases := [(.type "object")], mro := [(.ref 834), (.type "object")], ns := 833, qualname := "Pages", hasDict := true, slotNames := [], subclasses := [], abstract := false, collection := none, hasDel := false }, #[none, none, some (.str "Pages" 1301), some (.str "Pages" 1309), some (.builtin "object.__new__"), some (.bool true)]⟩
noncomputable def o844 (P : Params) : Obj := ⟨(.type "code"), none, .fields #[(.str "_law_board" 1455), (.str "_law_board" 1456), (.str "/claim/cut.py" 1457), (.int 615 0), (.int 2 0), (.int 0 0), (.int 0 0), (.int 3 0), (.ref 839), (.bool true), (.int 181 0), (.ref 840), .none, (.ref 841), (.ref 842), (.ref 843), (.int 1463 0), (.int 615 0), (.str "/claim/cut.py" 1464)], #[]⟩
noncomputable def o845 (P : Params) : Obj := fnO (top 49) "_law_board" .none .none (.str "law_nz0224_01" 1453) (.ref 844)
noncomputable def o851 (P : Params) : Obj := ⟨(.type "code"), none, .fields #[(.str "_law_seen" 1466), (.str "_law_seen" 1467), (.str "/claim/cut.py" 1468), (.int 621 0), (.int 2 0), (.int 0 0), (.int 0 0), (.int 3 0), (.ref 846), (.bool true), (.int 181 0), (.ref 847), .none, (.ref 848), (.ref 849), (.ref 850), (.int 1472 0), (.int 621 0), (.str "/claim/cut.py" 1473)], #[]⟩
noncomputable def o852 (P : Params) : Obj := fnO (top 50) "_law_seen" .none .none (.str "law_nz0224_01" 1453) (.ref 851)
noncomputable def o858 (P : Params) : Obj := ⟨(.type "code"), none, .fields #[(.str "_law_asked" 1475), (.str "_law_asked" 1476), (.str "/claim/cut.py" 1477), (.int 624 0), (.int 6 0), (.int 0 0), (.int 0 0), (.int 3 0), (.ref 853), (.bool true), (.int 181 0), (.ref 854), .none, (.ref 855), (.ref 856), (.ref 857), (.int 1495 0), (.int 624 0), (.str "/claim/cut.py" 1496)], #[]⟩
noncomputable def o859 (P : Params) : Obj := fnO (top 51) "_law_asked" .none .none (.str "law_nz0224_01" 1453) (.ref 858)
noncomputable def o865 (P : Params) : Obj := ⟨(.type "code"), none, .fields #[(.str "_law_rows" 1498), (.str "_law_rows" 1499), (.str "/claim/cut.py" 1500), (.int 645 0), (.int 1 0), (.int 0 0), (.int 0 0), (.int 3 0), (.ref 860), (.bool true), (.int 181 0), (.ref 861), .none, (.ref 862), (.ref 863), (.ref 864), (.int 1508 0), (.int 645 0), (.str "/claim/cut.py" 1509)], #[]⟩
noncomputable def o866 (P : Params) : Obj := fnO (top 52) "_law_rows" .none .none (.str "law_nz0224_01" 1453) (.ref 865)
noncomputable def o870 (P : Params) : Obj := ⟨(.type "code"), none, .fields #[(.str "_law_cells" 1511), (.str "_law_cells" 1512), (.str "/claim/cut.py" 1513), (.int 651 0), (.int 1 0), (.int 0 0), (.int 0 0), (.int 3 0), (.ref 867), (.bool true), (.int 181 0), (.ref 868), .none, .none, .none, (.ref 869), (.int 1514 0), (.int 651 0), (.str "/claim/cut.py" 1515)], #[]⟩
noncomputable def o871 (P : Params) : Obj := fnO (top 53) "_law_cells" .none .none (.str "law_nz0224_01" 1453) (.ref 870)
noncomputable def o877 (P : Params) : Obj := ⟨(.type "code"), none, .fields #[(.str "_law_entries" 1517), (.str "_law_entries" 1518), (.str "/claim/cut.py" 1519), (.int 654 0), (.int 1 0), (.int 0 0), (.int 0 0), (.int 3 0), (.ref 872), (.bool true), (.int 181 0), (.ref 873), .none, (.ref 874), (.ref 875), (.ref 876), (.int 1526 0), (.int 654 0), (.str "/claim/cut.py" 1527)], #[]⟩
noncomputable def o878 (P : Params) : Obj := fnO (top 54) "_law_entries" .none .none (.str "law_nz0224_01" 1453) (.ref 877)
noncomputable def o884 (P : Params) : Obj := ⟨(.type "code"), none, .fields #[(.str "_law_beyond" 1529), (.str "_law_beyond" 1530), (.str "/claim/cut.py" 1531), (.int 666 0), (.int 1 0), (.int 0 0), (.int 0 0), (.int 3 0), (.ref 879), (.bool true), (.int 181 0), (.ref 880), .none, (.ref 881), (.ref 882), (.ref 883), (.int 1534 0), (.int 666 0), (.str "/claim/cut.py" 1535)], #[]⟩
noncomputable def o885 (P : Params) : Obj := fnO (top 55) "_law_beyond" .none .none (.str "law_nz0224_01" 1453) (.ref 884)
noncomputable def o889 (P : Params) : Obj := ⟨(.type "code"), none, .fields #[(.str "law" 1537), (.str "law" 1538), (.str "/claim/cut.py" 1539), (.int 672 0), (.int 1 0), (.int 0 0), (.int 0 0), (.int 3 0), (.ref 886), (.bool true), (.int 181 0), (.ref 887), .none, .none, .none, (.ref 888), (.int 1540 0), (.int 672 0), (.str "/claim/cut.py" 1541)], #[]⟩
noncomputable def o890 (P : Params) : Obj := fnO (top 56) "law" .none .none (.str "law_nz0224_01" 1453) (.ref 889)
noncomputable def K (P : Params) : Frag := (nat_lit 2, o2 P) :: (nat_lit 3, o3 P) :: (nat_lit 29, o29 P) :: (nat_lit 35, o35 P) :: (nat_lit 36, o36 P) :: (nat_lit 38, o38 P) :: (nat_lit 39, o39 P) :: (nat_lit 51, o51 P) :: (nat_lit 52, o52 P) :: (nat_lit 70, o70 P) :: (nat_lit 71, o71 P) :: (nat_lit 82, o82 P) :: (nat_lit 83, o83 P) :: (nat_lit 93, o93 P) :: (nat_lit 99, o99 P) :: (nat_lit 100, o100 P) :: (nat_lit 102, o102 P) :: (nat_lit 103, o103 P) :: (nat_lit 106, o106 P) :: (nat_lit 107, o107 P) :: (nat_lit 115, o115 P) :: (nat_lit 121, o121 P) :: (nat_lit 122, o122 P) :: (nat_lit 128, o128 P) :: (nat_lit 129, o129 P) :: (nat_lit 130, o130 P) :: (nat_lit 136, o136 P) :: (nat_lit 137, o137 P) :: (nat_lit 143, o143 P) :: (nat_lit 144, o144 P) :: (nat_lit 157, o157 P) :: (nat_lit 158, o158 P) :: (nat_lit 171, o171 P) :: (nat_lit 172, o172 P) :: (nat_lit 178, o178 P) :: (nat_lit 179, o179 P) :: (nat_lit 181, o181 P) :: (nat_lit 182, o182 P) :: (nat_lit 197, o197 P) :: (nat_lit 198, o198 P) :: (nat_lit 204, o204 P) :: (nat_lit 205, o205 P) :: (nat_lit 211, o211 P) :: (nat_lit 212, o212 P) :: (nat_lit 225, o225 P) :: (nat_lit 226, o226 P) :: (nat_lit 227, o227 P) :: (nat_lit 233, o233 P) :: (nat_lit 234, o234 P) :: (nat_lit 240, o240 P) :: (nat_lit 241, o241 P) :: (nat_lit 247, o247 P) :: (nat_lit 248, o248 P) :: (nat_lit 254, o254 P) :: (nat_lit 255, o255 P) :: (nat_lit 256, o256 P) :: (nat_lit 262, o262 P) :: (nat_lit 263, o263 P) :: (nat_lit 265, o265 P) :: (nat_lit 266, o266 P) :: (nat_lit 283, o283 P) :: (nat_lit 284, o284 P) :: (nat_lit 297, o297 P) :: (nat_lit 298, o298 P) :: (nat_lit 299, o299 P) :: (nat_lit 305, o305 P) :: (nat_lit 306, o306 P) :: (nat_lit 312, o312 P) :: (nat_lit 313, o313 P) :: (nat_lit 319, o319 P) :: (nat_lit 320, o320 P) :: (nat_lit 326, o326 P) :: (nat_lit 327, o327 P) :: (nat_lit 347, o347 P) :: (nat_lit 348, o348 P) :: (nat_lit 354, o354 P) :: (nat_lit 355, o355 P) :: (nat_lit 356, o356 P) :: (nat_lit 362, o362 P) :: (nat_lit 363, o363 P) :: (nat_lit 369, o369 P) :: (nat_lit 370, o370 P) :: (nat_lit 383, o383 P) :: (nat_lit 384, o384 P) :: (nat_lit 390, o390 P) :: (nat_lit 391, o391 P) :: (nat_lit 417, o417 P) :: (nat_lit 418, o418 P) :: (nat_lit 423, o423 P) :: (nat_lit 429, o429 P) :: (nat_lit 430, o430 P) :: (nat_lit 436, o436 P) :: (nat_lit 437, o437 P) :: (nat_lit 445, o445 P) :: (nat_lit 451, o451 P) :: (nat_lit 452, o452 P) :: (nat_lit 472, o472 P) :: (nat_lit 473, o473 P) :: (nat_lit 479, o479 P) :: (nat_lit 480, o480 P) :: (nat_lit 486, o486 P) :: (nat_lit 487, o487 P) :: (nat_lit 493, o493 P) :: (nat_lit 494, o494 P) :: (nat_lit 535, o535 P) :: (nat_lit 536, o536 P) :: (nat_lit 542, o542 P) :: (nat_lit 543, o543 P) :: (nat_lit 589, o589 P) :: (nat_lit 590, o590 P) :: (nat_lit 606, o606 P) :: (nat_lit 607, o607 P) :: (nat_lit 648, o648 P) :: (nat_lit 649, o649 P) :: (nat_lit 666, o666 P) :: (nat_lit 667, o667 P) :: (nat_lit 680, o680 P) :: (nat_lit 681, o681 P) :: (nat_lit 682, o682 P) :: (nat_lit 688, o688 P) :: (nat_lit 689, o689 P) :: (nat_lit 690, o690 P) :: (nat_lit 696, o696 P) :: (nat_lit 697, o697 P) :: (nat_lit 713, o713 P) :: (nat_lit 714, o714 P) :: (nat_lit 726, o726 P) :: (nat_lit 732, o732 P) :: (nat_lit 733, o733 P) :: (nat_lit 833, o833 P) :: (nat_lit 834, o834 P) :: (nat_lit 844, o844 P) :: (nat_lit 845, o845 P) :: (nat_lit 851, o851 P) :: (nat_lit 852, o852 P) :: (nat_lit 858, o858 P) :: (nat_lit 859, o859 P) :: (nat_lit 865, o865 P) :: (nat_lit 866, o866 P) :: (nat_lit 870, o870 P) :: (nat_lit 871, o871 P) :: (nat_lit 877, o877 P) :: (nat_lit 878, o878 P) :: (nat_lit 884, o884 P) :: (nat_lit 885, o885 P) :: (nat_lit 889, o889 P) :: (nat_lit 890, o890 P) :: []
noncomputable def asL : List Addr := nat_lit 2 :: nat_lit 3 :: nat_lit 29 :: nat_lit 35 :: nat_lit 36 :: nat_lit 38 :: nat_lit 39 :: nat_lit 51 :: nat_lit 52 :: nat_lit 70 :: nat_lit 71 :: nat_lit 82 :: nat_lit 83 :: nat_lit 93 :: nat_lit 99 :: nat_lit 100 :: nat_lit 102 :: nat_lit 103 :: nat_lit 106 :: nat_lit 107 :: nat_lit 115 :: nat_lit 121 :: nat_lit 122 :: nat_lit 128 :: nat_lit 129 :: nat_lit 130 :: nat_lit 136 :: nat_lit 137 :: nat_lit 143 :: nat_lit 144 :: nat_lit 157 :: nat_lit 158 :: nat_lit 171 :: nat_lit 172 :: nat_lit 178 :: nat_lit 179 :: nat_lit 181 :: nat_lit 182 :: nat_lit 197 :: nat_lit 198 :: nat_lit 204 :: nat_lit 205 :: nat_lit 211 :: nat_lit 212 :: nat_lit 225 :: nat_lit 226 :: nat_lit 227 :: nat_lit 233 :: nat_lit 234 :: nat_lit 240 :: nat_lit 241 :: nat_lit 247 :: nat_lit 248 :: nat_lit 254 :: nat_lit 255 :: nat_lit 256 :: nat_lit 262 :: nat_lit 263 :: nat_lit 265 :: nat_lit 266 :: nat_lit 283 :: nat_lit 284 :: nat_lit 297 :: nat_lit 298 :: nat_lit 299 :: nat_lit 305 :: nat_lit 306 :: nat_lit 312 :: nat_lit 313 :: nat_lit 319 :: nat_lit 320 :: nat_lit 326 :: nat_lit 327 :: nat_lit 347 :: nat_lit 348 :: nat_lit 354 :: nat_lit 355 :: nat_lit 356 :: nat_lit 362 :: nat_lit 363 :: nat_lit 369 :: nat_lit 370 :: nat_lit 383 :: nat_lit 384 :: nat_lit 390 :: nat_lit 391 :: nat_lit 417 :: nat_lit 418 :: nat_lit 423 :: nat_lit 429 :: nat_lit 430 :: nat_lit 436 :: nat_lit 437 :: nat_lit 445 :: nat_lit 451 :: nat_lit 452 :: nat_lit 472 :: nat_lit 473 :: nat_lit 479 :: nat_lit 480 :: nat_lit 486 :: nat_lit 487 :: nat_lit 493 :: nat_lit 494 :: nat_lit 535 :: nat_lit 536 :: nat_lit 542 :: nat_lit 543 :: nat_lit 589 :: nat_lit 590 :: nat_lit 606 :: nat_lit 607 :: nat_lit 648 :: nat_lit 649 :: nat_lit 666 :: nat_lit 667 :: nat_lit 680 :: nat_lit 681 :: nat_lit 682 :: nat_lit 688 :: nat_lit 689 :: nat_lit 690 :: nat_lit 696 :: nat_lit 697 :: nat_lit 713 :: nat_lit 714 :: nat_lit 726 :: nat_lit 732 :: nat_lit 733 :: nat_lit 833 :: nat_lit 834 :: nat_lit 844 :: nat_lit 845 :: nat_lit 851 :: nat_lit 852 :: nat_lit 858 :: nat_lit 859 :: nat_lit 865 :: nat_lit 866 :: nat_lit 870 :: nat_lit 871 :: nat_lit 877 :: nat_lit 878 :: nat_lit 884 :: nat_lit 885 :: nat_lit 889 :: nat_lit 890 :: []

theorem as_eq (P : Params) : asL = (K P).map (·.1) := rfl
noncomputable abbrev kh : Hook := kHook K asL as_eq

noncomputable def env : Env := { scope := PySem.Challenge.pw_nz0224_01.main.scope, locals := mainNs, globals := mainNs, cells := [], code := .ref 13, frame := some 14 }
noncomputable def b11 : Obj := { cls := .type "tuple", data := .seq #[] }
noncomputable def b12 : Obj := { cls := .none, data := .fields #[] }
noncomputable def b13 : Obj := { cls := .type "code", data := .fields #[.str "<module>" 182, .str "<module>" 183, .str "/claim/cut.py" 184, .int 1 0, .int 0 0, .int 0 0, .int 0 0, .int 0 0, .ref 11, .bool false, .int 181 0, .ref 12, .none, .none, .none, .none, .int 185 0, .int 1 0, .str "/claim/cut.py" 186] }
noncomputable def b14 : Obj := { cls := .type "frame", slots := #[some (.ref 13), some (.ref 3), some (.ref 3), none, some (.str "__main__" 164), none, some (.ref 0)] }
noncomputable def tr (P : Params) : BT :=
  .node (boot_o_0 P)
    (.node (boot_o_1 P) (.node (boot_o_3 P) (.node (boot_o_7 P) .nil .nil) (.node b11 .nil .nil)) (.node (boot_o_5 P) (.node (boot_o_9 P) .nil .nil) (.node b13 .nil .nil)))
    (.node (boot_o_2 P) (.node (boot_o_4 P) (.node (boot_o_8 P) .nil .nil) (.node b12 .nil .nil)) (.node (boot_o_6 P) (.node (boot_o_10 P) .nil .nil) (.node b14 .nil .nil)))
noncomputable abbrev pos0 : Pos := ⟨0, 0, 0, 0⟩
noncomputable abbrev B0 : List Frame := [topFrame pos0]
noncomputable abbrev body0 : List Stmt := behindTheImports PySem.Challenge.pw_nz0224_01
noncomputable abbrev cE : Code := .body body0 env
noncomputable def S0 (w : World) (os : OsState) : Shared := ⟨boot_heap w.params, Array.mk [], boot_drawn, boot_toks, os⟩
noncomputable def Sb (w : World) (os : OsState) : SharedT := ⟨tr w.params, 15, {}, Array.mk [], {}, 187, os⟩
noncomputable abbrev ann : Option Value := some (.ref 6)
noncomputable def loose : List Str := [Str.ofString "_wall", Str.ofString "BoardError", Str.ofString "BadArgument", Str.ofString "BadAddress", Str.ofString "NoRoom", Str.ofString "Trap", Str.ofString "ENTRY", Str.ofString "VALID", Str.ofString "READ", Str.ofString "WRITE", Str.ofString "EXECUTE", Str.ofString "USER", Str.ofString "ACCESSED", Str.ofString "DIRTY", Str.ofString "LEAF", Str.ofString "FLAG_BITS", Str.ofString "FLAGS", Str.ofString "FLAG_NAMES", Str.ofString "DIGITS", Str.ofString "FETCH", Str.ofString "LOAD", Str.ofString "STORE", Str.ofString "PAGE_FAULTS", Str.ofString "ACCESS_FAULTS", Str.ofString "USER_MODE", Str.ofString "Layout", Str.ofString "eight_digits", Str.ofString "is_leaf", Str.ofString "is_sound", Str.ofString "may", Str.ofString "Walker", Str.ofString "Tables", Str.ofString "WORD", Str.ofString "MASK", Str.ofString "SPACE", Str.ofString "SIZES", Str.ofString "need_size", Str.ofString "need_stretch", Str.ofString "Memory", Str.ofString "Rom", Str.ofString "Bus", Str.ofString "TAKEN", Str.ofString "FREED", Str.ofString "Pages", Str.ofString "_law_board", Str.ofString "_law_seen", Str.ofString "_law_asked", Str.ofString "_law_rows", Str.ofString "_law_cells", Str.ofString "_law_entries", Str.ofString "_law_beyond"]
noncomputable def view1 : Program := { PySem.Challenge.pw_nz0224_01 with main := { PySem.Challenge.pw_nz0224_01.main with body := [top 56] } }
noncomputable abbrev rw0 : OpenRow := PySem.Challenge.rw_nz0224_01.row
noncomputable def Xt (s : Shared) : Bool := xlAt view1 [] s && recOk (RowW.records rw0.toRowW) s
end
end Mine
end HdA
section HdB
open PySem PySem.W PyProof.Rows PySem.Calls PySem.Spec
set_option maxRecDepth 100000
set_option maxHeartbeats 8000000
set_option autoImplicit false
namespace Mine
section
noncomputable abbrev mods : List Str := importedModules PySem.Challenge.pw_nz0224_01.main.body
noncomputable abbrev posE : Pos := ⟨672, 0, 684, 98⟩
noncomputable def chk (w : World) (s : Shared) : Bool := staticsOk mods (boot_heap w.params) s.heap && namesBound PySem.Challenge.pw_nz0224_01 s.heap && gensDone s && laidKept (boot_heap w.params) s.heap
noncomputable def fast (w : World) (os : OsState) := PySem.W.Fast.tw10110043849684766642 PySem.W.Fast.tw14364793385576792824 PySem.Challenge.pw_nz0224_01 w 11 ann 1 6461 (Sb w os) (piecesOf body0 env cE pos0 B0)
theorem pre_ok (w : World) (os : OsState) : topGo treeTable PySem.Challenge.pw_nz0224_01 w 11 ann 12 (S0 w os) (topStub PySem.Challenge.pw_nz0224_01) = some ((Sb w os).abs, Thread.mk (denote treeTable cE) cE pos0 B0) := by kernel_rfl
theorem size_ok (w : World) : ((boot_heap w.params).isNs mainGlobals && (Array.mk ([] : List GenState)).size == 0, (boot_heap w.params).objs.size, (boot_heap w.params).nsMap mainGlobals "__annotations__") = (true, 11, ann) := by kernel_rfl
theorem fin_ok {tb : String → Option Builtin} {p : Program} {w : World} {n₀ : Nat} {an : Option Value} (s : Shared) (c : Code) (q : Pos) : topRun tb p w n₀ an 2 s ⟨doneF .next, c, q, B0⟩ = some s := by rfl
theorem block_ok (w : World) (os : OsState) : segRun treeTable PySem.Challenge.pw_nz0224_01 w 11 ann 1 1 (Sb w os).abs (blockOf body0 env cE pos0 B0) = some (.next, (Sb w os).abs, cE, pos0) := by kernel_rfl
/-- what the run comes to, and what is seen of the state behind it -/
noncomputable def F2 (w : World) (r : Flow × SharedT × Code × Pos) := (r.1, r.2.2, chk w r.2.1.abs, openSeen view1 loose mods Xt true r.2.1.abs, kh.obs r.2.1.abs)
theorem run_f (w : World) (os : OsState) : (fast (w.withFollow "special-get-raises" false) os).map (F2 (w.withFollow "special-get-raises" false)) = some (.next, (cE, posE), true, openGood view1 loose, kh.val (w.withFollow "special-get-raises" false)) := by kernel_rfl
theorem run_t (w : World) (os : OsState) : (fast (w.withFollow "special-get-raises" true) os).map (F2 (w.withFollow "special-get-raises" true)) = some (.next, (cE, posE), true, openGood view1 loose, kh.val (w.withFollow "special-get-raises" true)) := by kernel_rfl
theorem run_all (w : World) (os : OsState) : (fast w os).map (F2 w) = some (.next, (cE, posE), true, openGood view1 loose, kh.val w) :=
  byRow2 "special-get-raises" (P := fun w => ∀ os, (fast w os).map (F2 w) = some (.next, (cE, posE), true, openGood view1 loose, kh.val w)) (fun w os => run_f w os) (fun w os => run_t w os) w os
theorem fast_eq (w : World) (os : OsState) : fast w os = segRunT treeTable PySem.Challenge.pw_nz0224_01 w 11 ann 1 6461 (Sb w os) (piecesOf body0 env cE pos0 B0) := by
  unfold fast
  rw [← PySem.W.Fast.te10110043849684766642, ← PySem.W.Fast.te14364793385576792824]
theorem top_run (w : World) (os : OsState) : ∃ s : Shared, topRun treeTable PySem.Challenge.pw_nz0224_01 w 11 ann (12 + (1 + (6461 + 2))) (S0 w os) (topStub PySem.Challenge.pw_nz0224_01) = some s ∧ chk w s = true ∧ openSeen view1 loose mods Xt true s = openGood view1 loose ∧ kh.obs s = kh.val w := by
  obtain ⟨⟨f, s', c, q⟩, e, e'⟩ := Option.map_eq_some_iff.mp (run_all w os)
  rw [fast_eq] at e
  obtain ⟨e1, e2, e3, e4, e5⟩ : f = Flow.next ∧ (c, q) = (cE, posE) ∧ chk w s'.abs = true ∧ openSeen view1 loose mods Xt true s'.abs = openGood view1 loose ∧ kh.obs s'.abs = kh.val w := by
    refine ⟨congrArg (·.1) e', congrArg (·.2.1) e', congrArg (·.2.2.1) e', congrArg (·.2.2.2.1) e', congrArg (·.2.2.2.2) e'⟩
  subst e1
  obtain ⟨rfl, rfl⟩ := Prod.mk.inj e2
  refine ⟨s'.abs, ?_, e3, e4, e5⟩
  refine go_top (pre_ok w os) (piece_block (block_ok w os) ?_)
  have k := piece_app (rest := []) (N := 2) (r := s'.abs) (segRun_of e) (piece_nil (fin_ok _ _ _))
  rwa [List.append_nil] at k
theorem open_ok (w : World) : (fencedOpening treeTable PySem.Challenge.pw_nz0224_01 w 13022).map (fun s => (s.heap, s.gens, s.drawn, s.toks)) = some (boot_heap w.params, Array.mk [], boot_drawn, boot_toks) :=
  boot_open (by kernel_rfl) (by decide +kernel) (fun _ => by kernel_rfl) w
theorem left : LeftO PySem.Challenge.pw_nz0224_01 view1 loose Xt kh.obs kh.val 13022 := fun w => by
  obtain ⟨⟨h, gs, d, k, os⟩, e, e'⟩ := Option.map_eq_some_iff.mp (open_ok w)
  simp only [Prod.mk.injEq] at e'
  obtain ⟨rfl, rfl, rfl, rfl⟩ := e'
  obtain ⟨s, r, c1, c2, c3⟩ := top_run w os
  have z := size_ok w
  simp only [Prod.mk.injEq] at z
  obtain ⟨z1, z2, z3⟩ := z
  have r := topRun_mono (13022 - (12 + (1 + (6461 + 2)))) _ _ _ _ r
  have t : topFrom treeTable PySem.Challenge.pw_nz0224_01 w 13022 (S0 w os) = some s := by
    unfold topFrom
    have q1 : ((S0 w os).heap.isNs mainGlobals && (S0 w os).gens.size == 0) = true := z1
    have q2 : (S0 w os).heap.objs.size = 11 := z2
    have q3 : (S0 w os).heap.nsMap mainGlobals "__annotations__" = ann := z3
    rw [q1, q2, q3]
    dsimp only
    rw [r]
    have c1' : (staticsOk mods (S0 w os).heap s.heap && namesBound PySem.Challenge.pw_nz0224_01 s.heap && gensDone s && laidKept (S0 w os).heap s.heap) = true := c1
    show (match staticsOk mods (S0 w os).heap s.heap && namesBound PySem.Challenge.pw_nz0224_01 s.heap && gensDone s && laidKept (S0 w os).heap s.heap with | true => some s | false => none) = some s
    rw [c1']
  unfold openEnds
  rw [e]
  show (topFrom treeTable PySem.Challenge.pw_nz0224_01 w 13022 (S0 w os)).map _ = _
  rw [t]
  exact congrArg some (Prod.ext c2 c3)
end
end Mine
end HdB
section HdC
open PySem PySem.W PyProof.Rows PySem.Calls PySem.Spec
open Lean Elab Tactic Meta
set_option maxRecDepth 100000
set_option maxHeartbeats 8000000
set_option autoImplicit false
namespace Mine
theorem law_said : PySem.Challenge.rw_nz0224_01.wellSaid = true := by
  rw [PySem.W.Fast.te9446332074065402090]
  kernel_rfl
theorem hd (walk : ∀ (d : DefRec) (kwd : List (Str × PySem.Expr)), defOf view1 rw0.name = some (d, kwd) → WalkO view1 loose (fun mg h => XL view1 [] mg h) kh.says rw0.toRowW d kwd fun f vs => PySem.call f vs) : PySem.Challenge.rw_nz0224_01.Holds := by
  w_on
  refine holds_law law_said fun said => ?_
  refine holds_open (q := view1) (loose := loose) (Xt := Xt) (XP := XL view1 []) (Yf := kh.obs) (Ya := kh.val) (YP := kh.says) (N := 13022) left kh.of kh.keeps (fun s e => xl_of s (Bool.and_eq_true_iff.mp e).1) XL.keeps (by rfl) (by rfl) (by rfl) (fun s e => recFacts_of (Bool.and_eq_true_iff.mp e).2) (by rfl) (by first | assumption | decide +kernel) (by decide +kernel) ⟨rfl, rfl, rfl, rfl, rfl, by decide +kernel⟩ ?hw ?hc
  case hw => w_witness2
  case hc => exact walk _ _ rfl
end Mine
end HdC
theorem Mine.top_off : True := by
  w_top off
  trivial
section N1
open PySem PySem.W PyProof.Rows PySem.Calls PySem.Spec
set_option maxRecDepth 100000
set_option maxHeartbeats 8000000
set_option autoImplicit false
namespace Mine
/-- the entries of the dict of an object, by its fields in their order -/
noncomputable def mkEs (H : Nat → Int) (T : Nat → Tok) : Nat → List (Str × Value) → List DictEntry
  | _, [] => []
  | i, (n, v) :: r => ⟨H i, .str n (T i), v⟩ :: mkEs H T (i + 1) r
theorem instAt_keeps {h h' : Heap} {x C : Addr} {ox od : Obj} (I : W.InstAt h x ox C (some od)) (k : ∀ b o, h.get? b = some o → h'.get? b = some o) : W.InstAt h' x ox C (some od) := by
  refine ⟨k _ _ I.at_, I.cls, I.no, ?_⟩
  have z := I.dict
  revert z
  cases ox.dict with
  | none => intro z; exact z
  | some d => intro z; exact k _ _ z
/-- an own object that stands in the ground, with its fields (its slots may change: a frame's do) -/
noncomputable def Has (h : Heap) (x C : Addr) (fs : List (Str × Value)) : Prop := ∃ ox H T k sl, W.InstAt h x ox C (some { dictOf (mkEs H T 0 fs) k with slots := sl })
theorem Has.keeps {h h' : Heap} {x C : Addr} {fs : List (Str × Value)} (D : Has h x C fs) (k : ∀ b o, h.get? b = some o → h'.get? b = some o) : Has h' x C fs := by
  obtain ⟨ox, H, T, n, sl, I⟩ := D
  exact ⟨ox, H, T, n, sl, instAt_keeps I k⟩
theorem Has.turn {l : List Addr} {h h' : Heap} {x C : Addr} {fs : List (Str × Value)} (D : Has h x C fs) (k : KtsTurn l h h') : Has h' x C fs := by
  obtain ⟨ox, H, T, n, sl, I⟩ := D
  obtain ⟨s1, e1⟩ := k.up I.at_
  have z := I.dict
  obtain ⟨oc, od, dt, os⟩ := ox
  cases od with
  | none => exact z.elim
  | some d =>
    obtain ⟨s2, e2⟩ := k.up (z : h.get? d = some _)
    exact ⟨⟨oc, some d, dt, s1⟩, H, T, n, s2, ⟨e1, I.cls, I.no, e2⟩⟩
section
variable {prog : Program} {w : World} {A : Around} {s : Shared} {KF : Frag} {x C L f : Addr} {h₀ : Heap} {m : Str → Option Value} {v : Value} {name : Str} {E : Value → Shared → Prop} {fs : List (Str × Value)} {attr : Option Value}
theorem own_get {expr : Bool} {Q : Value → Shared → Prop} (D : Has h₀ x C fs) (F : Fr h₀ L s.heap m) (X₀ : KF.In h₀) (hg : plainGet KF C name = true) (hh : hasDictIn KF C = true) (ha : findIn KF (.ref C) name = some attr) (hn : noGet KF attr = true)
    (hl : ∀ H T, getL name (mkEs H T 0 fs) = some (some v)) (hv : handedIn v = true) (h : Q v { s with toks := s.toks + 1 }) : wpAny (model prog w) A (getAttr (.ref x) name expr) Q E s := by
  obtain ⟨ox, H, T, n, sl, I⟩ := D
  exact get_value (X₀.keeps F.keep) (instAt_keeps I F.keep) (plainGet_of hg).1 (findObj_own hh ha hn (hl H T)) hv h
theorem own_meth {pl : Sem Bool} {Q : Value × List Value → Shared → Prop} (D : Has h₀ x C fs) (F : Fr h₀ L s.heap m) (X₀ : KF.In h₀) (hg : plainGet KF C name = true) (hf : findIn KF (.ref C) name = some (some (.ref f))) (ht : isFn KF (.ref f) = true)
    (hl : ∀ H T, getL name (mkEs H T 0 fs) = some none) (h : Q (.ref f, [.ref x]) s) : wpAny (model prog w) A (getMethod (.ref x) name pl) Q E s := by
  obtain ⟨ox, H, T, n, sl, I⟩ := D
  exact method_fn (X₀.keeps F.keep) (instAt_keeps I F.keep) (plainGet_of hg).1 (plainGet_of hg).2 hf (beq_iff_eq.mp ht) (by show (lookIn name (dictOf (mkEs H T 0 fs) n)).map _ = _; rw [lookIn_dict, hl H T]; rfl) h
end
end Mine
end N1
section N2
open PySem PySem.W PyProof.Rows PySem.Calls PySem.Spec
set_option maxRecDepth 100000
set_option maxHeartbeats 8000000
set_option autoImplicit false
namespace Mine
/-- what stands where a def of the text is called -/
structure Ctx (w : World) (p : Program) (loose : List Str) (mean : ExcName → Option Value) (mg mb : Str → Option Value) (A A₀ : Around) (env : Env) (outer : List Env) (base h₀ : Heap) (L : Addr) (h : Heap) (m : Str → Option Value) (news : List (Addr × Obj)) : Prop where
  B : Below A₀ base outer h₀
  F : Fr h₀ L h m
  X : (K w.params).In h₀
  N : News h₀ L h news
  T : Top p loose mean mg mb h₀
  hA : A.frames = some (env :: outer)
  hf : env.frame = some L
  hke : env.scope.kind = .function
  hh : A.handled = none
section
variable {g h : Heap} {L : Addr} {a b c d : Addr × Obj} {r news news' : List (Addr × Obj)}
theorem News.sub (N : News g L h news) (hs : ∀ q ∈ news', q ∈ news) : News g L h news' := fun q hq => N q (hs q hq)
theorem news_swap1 (N : News g L h (a :: b :: r)) : News g L h (b :: a :: r) := fun q hq => N q (by simp only [List.mem_cons] at hq ⊢; grind)
theorem news_swap2 (N : News g L h (a :: b :: c :: r)) : News g L h (c :: a :: b :: r) := fun q hq => N q (by simp only [List.mem_cons] at hq ⊢; grind)
theorem news_swap3 (N : News g L h (a :: b :: c :: d :: r)) : News g L h (d :: a :: b :: c :: r) := fun q hq => N q (by simp only [List.mem_cons] at hq ⊢; grind)
end
section
variable {A : Around} {env : Env} {x : Option Value} {a b : Nat}
theorem dp1 (h : A.depth ≤ a) (k : Nat.ble (a + 1) b = true) : (A.deeper env).depth ≤ b := Nat.le_trans (Nat.succ_le_succ h) (Nat.le_of_ble_eq_true k)
theorem dp2 (h : A.depth ≤ a) (k : Nat.ble (a + 1) b = true) : ((A.deeper env).mark x).depth ≤ b := dp1 (env := env) h k
theorem up1 (h : A.units ≤ a) (k : Nat.ble (a + 3) b = true) : (A.deeper env).units ≤ b := Nat.le_trans (Nat.add_le_add_right h 3) (Nat.le_of_ble_eq_true k)
theorem up2 (h : A.units ≤ a) (k : Nat.ble (a + 3) b = true) : ((A.deeper env).mark x).units ≤ b := up1 (env := env) h k
end
/-- what a call comes to: its value, or what it raised -/
noncomputable def RetQ (Q E : Value → Shared → Prop) (r : Result) (s : Shared) : Prop := match r with
  | .ok (.ret v) => Q v s
  | .ok _ => False
  | .error e => E e s
section
variable {M : Model} {A : Around} {Q E : Value → Shared → Prop} {f v e : Value} {pos : List Value} {kw : List (Str × Value)} {s : Shared}
theorem call_R (h : codeAny M A (.call f ⟨pos, kw⟩) (RetQ Q E) s) : wpAny M A (call f pos kw) Q E s := wpAny_call (codeAny_mono h fun r s' q => by
  cases r with
  | error e => exact q
  | ok f => cases f <;> exact q)
theorem RetQ.ok (h : Q v s) : RetQ Q E (.ok (.ret v)) s := h
theorem RetQ.err (h : E e s) : RetQ Q E (.error e) s := h
end
end Mine
end N2
section N3
open PySem PySem.W PyProof.Rows PySem.Calls PySem.Spec PyProof.V
set_option maxRecDepth 100000
set_option maxHeartbeats 8000000
set_option autoImplicit false
namespace Mine
/-- the object o at d is a dict of ints by ints: the pairs c in their order -/
noncomputable def WD (prog : Program) (w : World) (d : Addr) (o : Obj) (c : List (Int × Int)) : Prop :=
  (d == sysModules) = false ∧ c.length ≤ 1000 ∧ ∃ kvs, o.IsDictOf (PySem.intKind prog w) kvs ∧ FlatPairs PyData.int kvs (kdfD c)
section
variable {prog : Program} {w : World} {A : Around} {E : Value → Shared → Prop} {s : Shared} {h₀ : Heap} {L d : Addr} {m : Str → Option Value} {news : List (Addr × Obj)} {u : Obj → List (Addr × Obj)} {o : Obj} {c : List (Int × Int)} {k e : Int} {tk te : Tok}
theorem w_tab (W : WD prog w d o c) (N : News h₀ L s.heap news) (hp : (d, o) ∈ news) : IntTab prog w s.heap d (kdfD c) := by
  obtain ⟨lo, _, kvs, hd, hf⟩ := W
  exact TabAt.ofNews N hp lo hd hf
theorem w_get (W : WD prog w d o c) (N : News h₀ L s.heap news) (hp : (d, o) ∈ news) {Q : Value → Shared → Prop} (h : ∀ t, Q (.int (kdfLook c k e) t) { s with toks := s.toks + 1 }) :
    wpAny (model prog w) A (call (.builtin "dict.get") [.ref d, .int k tk, .int e te]) Q E s := kdf_get2 (w_tab W N hp) h
theorem w_getm (W : WD prog w d o c) (N : News h₀ L s.heap news) (hp : (d, o) ∈ news) {pl : Sem Bool} {Q : Value × List Value → Shared → Prop} (h : Q (.builtin "dict.get", [.ref d]) s) : wpAny (model prog w) A (getMethod (.ref d) "get" pl) Q E s := by
  obtain ⟨lo, _, kvs, hd, hf⟩ := W
  exact kdg_method N hp hd h
theorem w_popm (W : WD prog w d o c) (N : News h₀ L s.heap news) (hp : (d, o) ∈ news) {pl : Sem Bool} {Q : Value × List Value → Shared → Prop} (h : Q (.builtin "dict.pop", [.ref d]) s) : wpAny (model prog w) A (getMethod (.ref d) "pop" pl) Q E s := by
  obtain ⟨lo, _, kvs, hd, hf⟩ := W
  have hD := kda_dict N hp hd
  exact getMethod_builtin hD.typeIs PySem.F.plainAttrs_dict PySem.F.slot_dict_pop PySem.F.type_dict_pop hD.mapOf.noDict h
theorem w_set (W : WD prog w d o c) (F : Fr h₀ L s.heap m) (N : News h₀ L s.heap news) (U : UpdF d o news u) (hc : c.length < 1000) {Q : Unit → Shared → Prop}
    (h : ∀ h' o', Fr h₀ L h' m → News h₀ L h' (u o') → WD prog w d o' (kdfPut c k e) → Q () { s with heap := h', toks := s.toks + 1 }) : wpAny (model prog w) A (setItem (.ref d) (.int k tk) (.int e te)) Q E s := by
  obtain ⟨lo, hl, kvs, hd, hf⟩ := W
  exact kdf_setItem F N U hd hf (by omega) fun h' o' kvs' F' N' a b => h h' o' F' N' ⟨lo, by have := kdfPut_len c k e; omega, kvs', a, b⟩
theorem del_none {c : List (Int × Int)} {k : Int} (h : kdfHas c k = false) : kdyDel c k = c := by
  unfold kdyDel
  refine List.filter_eq_self.mpr fun p hp => ?_
  unfold kdfHas at h
  have := List.any_eq_false.mp h p hp
  simpa using this
theorem upd_self {d : Addr} {o : Obj} {news : List (Addr × Obj)} {u : Obj → List (Addr × Obj)} (U : UpdF d o news u) : u o = news := by
  obtain ⟨pre, post, e, hg, _, _⟩ := U.split
  rw [hg, e]
theorem w_pop (W : WD prog w d o c) (F : Fr h₀ L s.heap m) (N : News h₀ L s.heap news) (hp : (d, o) ∈ news) (U : UpdF d o news u) {Q : Value → Shared → Prop}
    (h : ∀ h' o' v, Fr h₀ L h' m → News h₀ L h' (u o') → WD prog w d o' (kdyDel c k) → Q v { s with heap := h', toks := s.toks + 1 }) : wpAny (model prog w) A (call (.builtin "dict.pop") [.ref d, .int k tk, .none]) Q E s := by
  have T := w_tab W N hp
  obtain ⟨lo, hl, kvs, hd, hf⟩ := W
  cases hk : kdfHas c k with
  | true => exact kdy_pop (more := [.none]) (.inr ⟨_, rfl⟩) (PySem.F.args_dict_pop_3 _ _ _) F N U hd hf hk (by omega) fun h' o' kvs' t F' N' a b => h h' o' _ F' N' ⟨lo, by have := kdyDel_len c k; omega, kvs', a, b⟩
  | false =>
    refine kt_pop_default PyProof.V.same_int (intKind_is _ _ _ _) (by rfl) T (PySem.F.args_dict_pop_3 _ _ _) (kdfD_none hk) ?_
    have z := h s.heap o .none F (by rw [upd_self U]; exact N)
    rw [del_none hk] at z
    exact z ⟨lo, hl, kvs, hd, hf⟩
end
end Mine
end N3
section N4
open PySem PySem.W PyProof.Rows PySem.Calls PySem.Spec PyProof.V
set_option maxRecDepth 100000
set_option maxHeartbeats 8000000
set_option autoImplicit false
namespace Mine
noncomputable abbrev Toks := Nat → Tok
noncomputable abbrev layF (b pg en lg ed : Int) (t : Toks) : List (Str × Value) := [("page_bits", .int b (t 0)), ("level_bits", .int (b - 2) (t 1)), ("page", .int pg (t 2)), ("entries", .int en (t 3)), ("large", .int lg (t 4)), ("end", .int ed (t 5))]
noncomputable abbrev memF (pg : Int) (wd : Addr) (t : Toks) : List (Str × Value) := [("size", .int (4 * pg) (t 0)), ("begin", .int 0 (t 1)), ("end", .int (4 * pg) (t 2)), ("words", .ref wd)]
noncomputable abbrev busF (mem str : Addr) : List (Str × Value) := [("memory", .ref mem), ("stretches", .ref str)]
noncomputable abbrev walF (bus lay : Addr) : List (Str × Value) := [("bus", .ref bus), ("layout", .ref lay)]
noncomputable abbrev tabF (mem lay pgs : Addr) : List (Str × Value) := [("memory", .ref mem), ("layout", .ref lay), ("pages", .ref pgs)]
/-- one of the layouts: pages of 16 to 256 octets -/
noncomputable def LayN (b pg en lg ed : Int) : Prop := (b = 4 ∧ pg = 16 ∧ en = 4 ∧ lg = 64 ∧ ed = 256) ∨ (b = 5 ∧ pg = 32 ∧ en = 8 ∧ lg = 256 ∧ ed = 2048) ∨ (b = 6 ∧ pg = 64 ∧ en = 16 ∧ lg = 1024 ∧ ed = 16384) ∨ (b = 7 ∧ pg = 128 ∧ en = 32 ∧ lg = 4096 ∧ ed = 131072) ∨ (b = 8 ∧ pg = 256 ∧ en = 64 ∧ lg = 16384 ∧ ed = 1048576)
end Mine
end N4
section N5
open PySem PySem.W PyProof.Rows PySem.Calls PySem.Spec PyProof.V
set_option maxRecDepth 100000
set_option maxHeartbeats 8000000
set_option autoImplicit false
namespace Mine
section
variable {prog : Program} {w : World} {p : Program} {loose : List Str} {mean : ExcName → Option Value} {mg mb : Str → Option Value} {A A₀ : Around} {env : Env} {outer : List Env} {base h₀ : Heap} {L : Addr} {m : Str → Option Value} {s : Shared} {news : List (Addr × Obj)} {R : Result → Shared → Prop}
theorem enter (binds : List (Str × Value)) {name qual : Str} {params : Arguments} {body : List Stmt} {scope : Scope} {dV kV doc pm cdv ct oc : Value} {an od : Option Addr} {osl : Array (Option Value)} {f : Addr} {args : Args}
    (C : Ctx w p loose mean mg mb A A₀ env outer base h₀ L s.heap m news)
    (ho : (K w.params).lookup f = some ⟨oc, od, .func (fnOf name qual params body scope dV kV doc pm an cdv ct), osl⟩) (hcd : codeIn (K w.params) cdv qual = true) (hroom : A.depth < recursionLimit)
    (hbind : BindsTo s (fnOf name qual params body scope dV kV doc pm an cdv ct) args binds) (hloc : ∀ y ∈ binds, scope.names.lookup y.1 = some .local)
    (hco : scope.isCoroutine = false) (hgen : scope.isGenerator = false) (hk : scope.kind = .function)
    (hcell : ∀ x ∈ scope.names, x.2 ≠ .cell)
    (h : ∀ g L' h₁ tk, Fr h₀ L g m → Fr g L' h₁ (fun y => binds.reverse.lookup y) → News g L' h₁ news → Below A base (env :: outer) g → (K w.params).In g → Top p loose mean mg mb g →
      wpAny (model prog w) (A.deeper (envOf qual scope L' f cdv)) (execs body (envOf qual scope L' f cdv))
        (fun fl s' => LeaveK h₀ L m g R (match fl with | .ret v => v | _ => .none) s')
        (fun e s' => wpAny (model prog w) (A.deeper (envOf qual scope L' f cdv)) (leaving (envOf qual scope L' f cdv) e) (fun _ s'' => R (.error e) s'') (fun e' s'' => R (.error e') s'') s')
        { s with heap := h₁, toks := tk }) : codeAny (model prog w) A (.call (.ref f) args) R s := by
  obtain ⟨B, F, X, N, T, hA, hf, hke, hh⟩ := C
  exact code_def B F X N T hA hf hke ho hcd hroom hbind hloc (fun g L' h₁ a b c d e f => h g L' h₁ _ a b c d e f) hco hgen hk hcell
end
end Mine
end N5
section F1
open PySem PySem.W PyProof.Rows PySem.Calls PySem.Spec
set_option maxRecDepth 100000
set_option maxHeartbeats 8000000
set_option autoImplicit false
namespace Mine
section
variable {α β : Type} {M : Model} {prog : Program} {w : World} {A : Around} {t : Sem α} {Q : α → Shared → Prop} {E : Value → Shared → Prop} {s : Shared}
theorem foldQ (h : let qk := Q; wpAny M A t qk E s) : wpAny M A t Q E s := h
theorem foldQS (h : let qk := Q; let st := s; wpAny M A t qk E st) : wpAny M A t Q E s := h
theorem foldEE (h : let ek := E; wpAny M A t Q ek s) : wpAny M A t Q E s := h
theorem foldA (h : let ak := A; wpAny M ak t Q E s) : wpAny M A t Q E s := h
theorem swapT (h : wpAny M A (pure default : Sem Value) E E s ∧ wpAny M A t Q E s) : wpAny M A t Q E s := h.2
theorem foldEnter {env : Env} {b : β} {f : β → Env → Sem α} {g h : Heap} {L : Addr} {m : Str → Option Value} (F : Fr g L h m)
    (k : let M9 := model prog w; let en9 := env; let A9 := A.deeper en9; let m9 := m; let qk := Q; let ek := E; let st9 := s; Fr g L h m9 → wpAny M9 A9 (f b en9) qk ek st9) : wpAny (model prog w) (A.deeper env) (f b env) Q E s := k F
theorem foldTop {env : Env} {b : β} {f : β → Env → Sem α} {g h : Heap} {L : Addr} {m : Str → Option Value} {A₀ : Around} {p : Program} {loose : List Str} {mean : ExcName → Option Value} {mg mb : Str → Option Value} {news : List (Addr × Obj)}
    (F : Fr g L h m) (N : News g L h news) (B : Below A₀ g [] g) (X : (K w.params).In g) (T : Top p loose mean mg mb g)
    (k : let h9 := g; let L9 := L; let M9 := model prog w; let en9 := env; let A9 := A.deeper en9; let m9 := m; let qk := Q; let ek := E; let st9 := s; Fr h9 L9 h m9 → News h9 L9 h news → Below A₀ h9 [] h9 → (K w.params).In h9 → Top p loose mean mg mb h9 → wpAny M9 A9 (f b en9) qk ek st9) : wpAny (model prog w) (A.deeper env) (f b env) Q E s := k F N B X T
end
section
variable {M : Model} {A : Around} {E : Value → Shared → Prop} {s : Shared} {h₀ : Heap} {L : Addr} {m : Str → Option Value} {env : Env} {x : Str} {pos : Pos} {v : Value} {Q : Value → Shared → Prop} {news : List (Addr × Obj)}
noncomputable def locN (env : Env) (x : Str) : Bool := env.scope.kind == .function && (env.kindOf x == some .local && !(x == ("__debug__" : Str)))
theorem nmL (F : Fr h₀ L s.heap m) (hv : m x = some v) (h : Q v s) (hL : env.locals = L) (hx : locN env x = true) : wpAny M A (eval (.Name x pos) env) Q E s := by
  simp only [locN, Bool.and_eq_true, beq_iff_eq, Bool.not_eq_true'] at hx
  exact wpAny_Name (wpAny_loadName_local hx.1 hx.2.1 (by rw [hL]; exact F.ns) hv h) hx.2.2
theorem stL {Q : Unit → Shared → Prop} (F : Fr h₀ L s.heap m) (N : News h₀ L s.heap news)
    (h : ∀ h' tk, let m1 : Str → Option Value := fun y => if y = x then some v else m y; let st1 : Shared := { s with heap := h', toks := tk }; Fr h₀ L h' m1 → News h₀ L h' news → Q () st1)
    (hL : env.locals = L) (hx : locN env x = true) : wpAny M A (storeName env x v) Q E s := by
  simp only [locN, Bool.and_eq_true, beq_iff_eq] at hx
  subst hL
  exact wpAny_storeName_local hx.2.1 F.ns (fun h' hn hs => h h' _ (F.set hn hs) (N.set hs)) (by rw [hx.1]; rfl)
end
end Mine
end F1
section N6
open PySem PySem.W PyProof.Rows PySem.Calls PySem.Spec PyProof.V
set_option maxRecDepth 100000
set_option maxHeartbeats 8000000
set_option autoImplicit false
namespace Mine
theorem mask_low {v : Int} (h0 : 0 ≤ v) (h1 : v < 4294967296) : Builtin.bitAnd v 4294967295 = v := by
  rw [bitAnd_m32]; omega
theorem or24 : Builtin.bitOr 2 4 = 6 := by decide +kernel
theorem and_nn {x y : Int} (h : 0 ≤ y) : 0 ≤ Builtin.bitAnd x y := (bitAnd_range x h).1
theorem or_nn {x y : Int} (hx : 0 ≤ x) (hy : 0 ≤ y) : 0 ≤ Builtin.bitOr x y ∧ Builtin.bitOr x y ≤ x + y ∧ x ≤ Builtin.bitOr x y := by
  rw [bitOr_and]
  have := bitAnd_range x hy
  omega
theorem pow_cases {b : Int} (hb : 4 ≤ b ∧ b ≤ 8) : ((2 : Int) ^ b.toNat = 16 ∧ (2 : Int) ^ (b - 2).toNat = 4 ∧ b = 4) ∨ ((2 : Int) ^ b.toNat = 32 ∧ (2 : Int) ^ (b - 2).toNat = 8 ∧ b = 5) ∨ ((2 : Int) ^ b.toNat = 64 ∧ (2 : Int) ^ (b - 2).toNat = 16 ∧ b = 6) ∨ ((2 : Int) ^ b.toNat = 128 ∧ (2 : Int) ^ (b - 2).toNat = 32 ∧ b = 7) ∨ ((2 : Int) ^ b.toNat = 256 ∧ (2 : Int) ^ (b - 2).toNat = 64 ∧ b = 8) := by
  have : b = 4 ∨ b = 5 ∨ b = 6 ∨ b = 7 ∨ b = 8 := by omega
  rcases this with rfl | rfl | rfl | rfl | rfl <;> decide
theorem or_addr {b f g : Int} (hb : 4 ≤ b ∧ b ≤ 8) (hf : 0 ≤ f ∧ f < 64) (hg : 0 ≤ g ∧ g < 64) : 0 ≤ Builtin.bitOr (f * 2 ^ (b - 2).toNat) g ∧ Builtin.bitOr (f * 2 ^ (b - 2).toNat) g < 8192 := by
  have p : ∀ q : Int, 0 ≤ q ∧ q ≤ 64 → 0 ≤ Builtin.bitOr (f * q) g ∧ Builtin.bitOr (f * q) g < 8192 := fun q hq => by
    have h1 : 0 ≤ f * q := Int.mul_nonneg hf.1 hq.1
    have h2 : f * q ≤ 63 * 64 := Int.mul_le_mul (by omega) hq.2 hq.1 (by omega)
    have := or_nn h1 hg.1
    omega
  apply p
  rcases pow_cases hb with ⟨_, e, _⟩ | ⟨_, e, _⟩ | ⟨_, e, _⟩ | ⟨_, e, _⟩ | ⟨_, e, _⟩ <;> rw [e] <;> decide
end Mine
end N6
section N7
open PySem PySem.W PyProof.Rows PySem.Calls PySem.Spec PyProof.V
set_option maxRecDepth 100000
set_option maxHeartbeats 8000000
set_option autoImplicit false
namespace Mine
noncomputable def pF (b a : Int) : Int := (a.fdiv (2 ^ b.toNat)).fdiv (2 ^ (b - 2).toNat)
noncomputable def pS (b en a : Int) : Int := Builtin.bitAnd (a.fdiv (2 ^ b.toNat)) (en - 1)
noncomputable def pO (pg a : Int) : Int := Builtin.bitAnd a (pg - 1)
noncomputable def addrS (b f s o : Int) : Int := Builtin.bitOr (Builtin.bitOr (f * 2 ^ (b - 2).toNat) s * 2 ^ b.toNat) o
noncomputable def physS (b e : Int) : Int := e.fdiv (2 ^ Int.toNat 10) * 2 ^ b.toNat
noncomputable def entS (b ph fl : Int) : Int := Builtin.bitOr (ph.fdiv (2 ^ b.toNat) * 2 ^ Int.toNat 10) fl
noncomputable def downS (pg a : Int) : Int := Builtin.bitAnd a (Builtin.bitNot (pg - 1))
noncomputable def leafS (e : Int) : Bool := Builtin.bitAnd e 10 != 0
noncomputable def soundS (e : Int) : Bool := Builtin.bitAnd e 1 != 0 && Builtin.bitAnd e 6 != 4
noncomputable def mayS (e : Int) (k : Str) (mode sm mx : Int) : Bool :=
  if mode = 0 ∧ Builtin.bitAnd e 16 = 0 then false
  else if mode ≠ 0 ∧ Builtin.bitAnd e 16 ≠ 0 ∧ ((k == Str.ofString "fetch") = true ∨ sm = 0) then false
  else if (k == Str.ofString "fetch") = true then Builtin.bitAnd e 8 != 0
  else if (k == Str.ofString "store") = true then Builtin.bitAnd e 4 != 0
  else Builtin.bitAnd e 2 != 0 || (mx != 0 && Builtin.bitAnd e 8 != 0)
theorem layN_b {b pg en lg ed : Int} (h : LayN b pg en lg ed) : (4 ≤ b ∧ b ≤ 8) ∧ (16 ≤ pg ∧ pg ≤ 256) ∧ (4 ≤ en ∧ en ≤ 64) ∧ (64 ≤ lg ∧ lg ≤ 16384) ∧ (256 ≤ ed ∧ ed ≤ 1048576) := by
  rcases h with ⟨rfl, rfl, rfl, rfl, rfl⟩ | ⟨rfl, rfl, rfl, rfl, rfl⟩ | ⟨rfl, rfl, rfl, rfl, rfl⟩ | ⟨rfl, rfl, rfl, rfl, rfl⟩ | ⟨rfl, rfl, rfl, rfl, rfl⟩ <;> decide
end Mine
end N7
section N8
open PySem PySem.W PyProof.Rows PySem.Calls PySem.Spec PyProof.V
set_option maxRecDepth 100000
set_option maxHeartbeats 8000000
set_option autoImplicit false
namespace Mine
noncomputable def markS (e : Int) (k : Str) : Int := Builtin.bitOr (Builtin.bitOr e 64) (if (k == Str.ofString "store") = true then 128 else 0)
noncomputable def putS (c : List (Int × Int)) (i v : Int) : List (Int × Int) := if v = 0 then kdyDel c i else kdfPut c i v
noncomputable def markC (c : List (Int × Int)) (i e : Int) (k : Str) : List (Int × Int) := if markS e k = e then c else putS c i (markS e k)
noncomputable def okL (b lg e : Int) (k : Str) (mode sm mx : Int) : Bool := decide ((physS b e).fmod lg = 0) && mayS e k mode sm mx
theorem mark_t {e : Int} {k : Str} (h : (k == Str.ofString "store") = true) : markS e k = Builtin.bitOr (Builtin.bitOr e 64) 128 := by unfold markS; rw [if_pos h]
theorem mark_f {e : Int} {k : Str} (h : (k == Str.ofString "store") = false) : markS e k = Builtin.bitOr (Builtin.bitOr e 64) 0 := by unfold markS; rw [h]; rfl
theorem or_lt_pow : ∀ (k : Nat) (x y : Int), 0 ≤ x → x < 2 ^ k → 0 ≤ y → y < 2 ^ k → 0 ≤ x + y - Builtin.bitAnd x y ∧ x + y - Builtin.bitAnd x y < 2 ^ k
  | 0, x, y, h1, h2, h3, h4 => by
    have : x = 0 := by simp at h2; omega
    have : y = 0 := by simp at h4; omega
    subst x y
    decide
  | k + 1, x, y, h1, h2, h3, h4 => by
    have e : (2 : Int) ^ (k + 1) = 2 ^ k * 2 := Int.pow_succ 2 k
    rw [e] at h2 h4 ⊢
    have z := or_lt_pow k (x / 2) (y / 2) (by omega) (by omega) (by omega) (by omega)
    have q := kbt_halves x y
    generalize Builtin.bitAnd (x / 2) (y / 2) = u at *
    generalize (2 : Int) ^ k = p at *
    rw [q]
    split <;> omega
theorem or_lt {x y : Int} (hx : 0 ≤ x ∧ x < 65536) (hy : 0 ≤ y ∧ y < 65536) : 0 ≤ Builtin.bitOr x y ∧ Builtin.bitOr x y < 65536 := by
  rw [bitOr_and]
  exact or_lt_pow 16 x y hx.1 hx.2 hy.1 hy.2
theorem mark_lt {e : Int} {k : Str} (he : 0 ≤ e ∧ e < 65536) : 0 ≤ markS e k ∧ markS e k < 65536 := by
  unfold markS
  refine or_lt (or_lt he (by decide)) ?_
  split <;> decide
theorem markC_ne {c : List (Int × Int)} {i e : Int} {k : Str} (h : markS e k ≠ e) : markC c i e k = (if markS e k = 0 then kdyDel c i else kdfPut c i (markS e k)) := by unfold markC; rw [if_neg h]; rfl
theorem markC_eq {c : List (Int × Int)} {i e : Int} {k : Str} (h : markS e k = e) : markC c i e k = c := by unfold markC; rw [if_pos h]
theorem okL_t {b lg e : Int} {k : Str} {mode sm mx : Int} (h1 : (physS b e).fmod lg = 0) (h2 : mayS e k mode sm mx = true) : okL b lg e k mode sm mx = true := by unfold okL; rw [decide_eq_true h1, h2]; rfl
theorem okL_f1 {b lg e : Int} {k : Str} {mode sm mx : Int} (h1 : (physS b e).fmod lg ≠ 0) : okL b lg e k mode sm mx = false := by unfold okL; rw [decide_eq_false h1]; rfl
theorem okL_f2 {b lg e : Int} {k : Str} {mode sm mx : Int} (h2 : mayS e k mode sm mx = false) : okL b lg e k mode sm mx = false := by unfold okL; rw [h2, Bool.and_false]
end Mine
end N8
section N9
open PySem PySem.W PyProof.Rows PySem.Calls PySem.Spec PyProof.V
set_option maxRecDepth 100000
set_option maxHeartbeats 8000000
set_option autoImplicit false
namespace Mine
noncomputable abbrev Cs := List (Int × Int)
noncomputable abbrev p1S (b ad : Int) : Int := 0 + 4 * pF b ad
noncomputable abbrev e1S (b ad : Int) (c : Cs) : Int := kdfLook c ((p1S b ad).fdiv 4) 0
noncomputable abbrev p2S (b en ad : Int) (c : Cs) : Int := physS b (e1S b ad c) + 4 * pS b en ad
noncomputable abbrev e2S (b en ad : Int) (c : Cs) : Int := kdfLook c ((p2S b en ad c).fdiv 4) 0
section
variable {x a b t : Addr × Obj} {r : List (Addr × Obj)}
theorem sub_id : ∀ q ∈ r, q ∈ r := fun _ h => h
theorem sub1 : ∀ q ∈ r, q ∈ t :: r := fun _ h => List.mem_cons_of_mem _ h
theorem sub2 : ∀ q ∈ a :: r, q ∈ a :: t :: r := fun q h => by simp only [List.mem_cons] at h ⊢; grind
theorem sub3 : ∀ q ∈ a :: b :: r, q ∈ a :: b :: t :: r := fun q h => by simp only [List.mem_cons] at h ⊢; grind
theorem sub4 : ∀ q ∈ a :: b :: r, q ∈ t :: b :: a :: r := fun q h => by simp only [List.mem_cons] at h ⊢; grind
theorem sub5 : ∀ q ∈ a :: b :: r, q ∈ b :: a :: t :: r := fun q h => by simp only [List.mem_cons] at h ⊢; grind
theorem sub6 : ∀ q ∈ a :: b :: r, q ∈ b :: t :: a :: r := fun q h => by simp only [List.mem_cons] at h ⊢; grind
end
/-- what translate finds: the place and the cells, or none for the trap -/
noncomputable def trS (b pg en lg ad : Int) (c : Cs) (k : Str) (mode sm mx : Int) : Option (Int × Cs) :=
  if soundS (e1S b ad c) = true then
    if leafS (e1S b ad c) = true then
      if okL b lg (e1S b ad c) k mode sm mx = true then some (Builtin.bitOr (physS b (e1S b ad c)) (Builtin.bitAnd ad (lg - 1)), markC c ((p1S b ad).fdiv 4) (e1S b ad c) k) else none
    else if soundS (e2S b en ad c) = true then
      if leafS (e2S b en ad c) = true then
        if mayS (e2S b en ad c) k mode sm mx = true then some (Builtin.bitOr (physS b (e2S b en ad c)) (pO pg ad), markC c ((p2S b en ad c).fdiv 4) (e2S b en ad c) k) else none
      else none
    else none
  else none
section
variable {b pg en lg ad : Int} {c : Cs} {k : Str} {mode sm mx : Int}
theorem tr1 (h1 : soundS (e1S b ad c) = false) : trS b pg en lg ad c k mode sm mx = none := by unfold trS; rw [h1]; rfl
theorem tr2 (h1 : soundS (e1S b ad c) = true) (h2 : leafS (e1S b ad c) = true) (h3 : okL b lg (e1S b ad c) k mode sm mx = false) : trS b pg en lg ad c k mode sm mx = none := by unfold trS; rw [h1, h2, h3]; rfl
theorem tr3 (h1 : soundS (e1S b ad c) = true) (h2 : leafS (e1S b ad c) = true) (h3 : okL b lg (e1S b ad c) k mode sm mx = true) : trS b pg en lg ad c k mode sm mx = some (Builtin.bitOr (physS b (e1S b ad c)) (Builtin.bitAnd ad (lg - 1)), markC c ((p1S b ad).fdiv 4) (e1S b ad c) k) := by unfold trS; rw [h1, h2, h3]; rfl
theorem tr4 (h1 : soundS (e1S b ad c) = true) (h2 : leafS (e1S b ad c) = false) (h3 : soundS (e2S b en ad c) = false) : trS b pg en lg ad c k mode sm mx = none := by unfold trS; rw [h1, h2, h3]; rfl
theorem tr5 (h1 : soundS (e1S b ad c) = true) (h2 : leafS (e1S b ad c) = false) (h3 : soundS (e2S b en ad c) = true) (h4 : leafS (e2S b en ad c) = false) : trS b pg en lg ad c k mode sm mx = none := by unfold trS; rw [h1, h2, h3, h4]; rfl
theorem tr6 (h1 : soundS (e1S b ad c) = true) (h2 : leafS (e1S b ad c) = false) (h3 : soundS (e2S b en ad c) = true) (h4 : leafS (e2S b en ad c) = true) (h5 : mayS (e2S b en ad c) k mode sm mx = false) : trS b pg en lg ad c k mode sm mx = none := by unfold trS; rw [h1, h2, h3, h4, h5]; rfl
theorem tr7 (h1 : soundS (e1S b ad c) = true) (h2 : leafS (e1S b ad c) = false) (h3 : soundS (e2S b en ad c) = true) (h4 : leafS (e2S b en ad c) = true) (h5 : mayS (e2S b en ad c) k mode sm mx = true) : trS b pg en lg ad c k mode sm mx = some (Builtin.bitOr (physS b (e2S b en ad c)) (pO pg ad), markC c ((p2S b en ad c).fdiv 4) (e2S b en ad c) k) := by unfold trS; rw [h1, h2, h3, h4, h5]; rfl
end
end Mine
end N9
section N10
open PySem PySem.W PyProof.Rows PySem.Calls PySem.Spec PyProof.V
set_option maxRecDepth 100000
set_option maxHeartbeats 8000000
set_option autoImplicit false
namespace Mine
theorem phys_mod {b pg en lg ed e : Int} (h : LayN b pg en lg ed) : (physS b e).fmod pg = 0 := by
  unfold physS
  rcases h with ⟨rfl, rfl, _⟩ | ⟨rfl, rfl, _⟩ | ⟨rfl, rfl, _⟩ | ⟨rfl, rfl, _⟩ | ⟨rfl, rfl, _⟩
  · exact Int.mul_fmod_left _ _
  · exact Int.mul_fmod_left _ _
  · exact Int.mul_fmod_left _ _
  · exact Int.mul_fmod_left _ _
  · exact Int.mul_fmod_left _ _
section
variable {a b t1 t2 t3 : Addr × Obj} {r : List (Addr × Obj)}
theorem sub7 : ∀ q ∈ a :: b :: r, q ∈ a :: t1 :: t2 :: b :: t3 :: r := fun q h => by simp only [List.mem_cons] at h ⊢; grind
theorem sub8 : ∀ q ∈ a :: b :: r, q ∈ a :: t1 :: t2 :: t3 :: b :: r := fun q h => by simp only [List.mem_cons] at h ⊢; grind
end
end Mine
end N10
section N11
open PySem PySem.W PyProof.Rows PySem.Calls PySem.Spec PyProof.V
set_option maxRecDepth 100000
set_option maxHeartbeats 8000000
set_option autoImplicit false
namespace Mine
/-- what a def that catches needs besides: the base and the frames' dicts -/
structure CtxS (w : World) (p : Program) (loose : List Str) (mean : ExcName → Option Value) (mg mb : Str → Option Value) (outer : List Env) (base h₀ : Heap) : Prop where
  XB : (K w.params).In base
  TB : Top p loose mean mg mb base
  D : KtsDicts (outer.filterMap (·.frame)) h₀
section
variable {prog : Program} {w : World} {p : Program} {loose : List Str} {mean : ExcName → Option Value} {mg mb : Str → Option Value} {A A₀ : Around} {outer : List Env} {base h₀ : Heap} {L a : Addr} {m : Str → Option Value} {s : Shared} {news : List (Addr × Obj)} {R : Result → Shared → Prop} {cn : Str} {cs : Scope} {ccd : Value}
theorem enterS (binds : List (Str × Value)) {name qual : Str} {params : Arguments} {body : List Stmt} {scope : Scope} {dV kV doc pm cdv ct oc : Value} {an od : Option Addr} {osl : Array (Option Value)} {f : Addr} {args : Args}
    (C : Ctx w p loose mean mg mb A A₀ (envOf cn cs L a ccd) outer base h₀ L s.heap m news) (S : CtxS w p loose mean mg mb outer base h₀)
    (ho : (K w.params).lookup f = some ⟨oc, od, .func (fnOf name qual params body scope dV kV doc pm an cdv ct), osl⟩) (hcd : codeIn (K w.params) cdv qual = true) (hroom : A.depth < recursionLimit)
    (hbind : BindsTo s (fnOf name qual params body scope dV kV doc pm an cdv ct) args binds) (hloc : ∀ y ∈ binds, scope.names.lookup y.1 = some .local)
    (hco : scope.isCoroutine = false) (hgen : scope.isGenerator = false) (hk : scope.kind = .function)
    (hcell : ∀ x ∈ scope.names, x.2 ≠ .cell)
    (h : ∀ g L' h₁ tk, Fr h₀ L g m → Fr g L' h₁ (fun y => binds.reverse.lookup y) → News g L' h₁ news → Below A base (envOf cn cs L a ccd :: outer) g → (K w.params).In g → Top p loose mean mg mb g → KtsDicts ((envOf cn cs L a ccd :: outer).filterMap (·.frame)) g →
      wpAny (model prog w) (A.deeper (envOf qual scope L' f cdv)) (execs body (envOf qual scope L' f cdv))
        (fun fl s' => LeaveS ((envOf cn cs L a ccd :: outer).filterMap (·.frame)) A₀ base outer (K w.params) p loose mean mg mb h₀ h₀ L m g R (match fl with | .ret v => v | _ => .none) s')
        (fun e s' => wpAny (model prog w) (A.deeper (envOf qual scope L' f cdv)) (leaving (envOf qual scope L' f cdv) e) (fun _ s'' => R (.error e) s'') (fun e' s'' => R (.error e') s'') s')
        { s with heap := h₁, toks := tk }) : codeAny (model prog w) A (.call (.ref f) args) R s := by
  obtain ⟨B, F, X, N, T, hA, hf, hke, hh⟩ := C
  obtain ⟨XB, TB, D⟩ := S
  exact code_defS B F X N T XB TB D KtsTurn.refl hA ho hcd hroom hbind hloc (fun g L' h₁ a b c d e f i => h g L' h₁ _ a b c d e f i) hke hco hgen hk hcell
theorem enterS0 (binds : List (Str × Value)) {name qual : Str} {params : Arguments} {body : List Stmt} {scope : Scope} {dV kV doc pm cdv ct oc : Value} {an od : Option Addr} {osl : Array (Option Value)} {f : Addr} {args : Args}
    (C : Ctx w p loose mean mg mb A A₀ (envOf cn cs L a ccd) [] base h₀ L s.heap m news)
    (ho : (K w.params).lookup f = some ⟨oc, od, .func (fnOf name qual params body scope dV kV doc pm an cdv ct), osl⟩) (hcd : codeIn (K w.params) cdv qual = true) (hroom : A.depth < recursionLimit)
    (hbind : BindsTo s (fnOf name qual params body scope dV kV doc pm an cdv ct) args binds) (hloc : ∀ y ∈ binds, scope.names.lookup y.1 = some .local)
    (hco : scope.isCoroutine = false) (hgen : scope.isGenerator = false) (hk : scope.kind = .function)
    (hcell : ∀ x ∈ scope.names, x.2 ≠ .cell)
    (h : ∀ g L' h₁ tk, Fr h₀ L g m → Fr g L' h₁ (fun y => binds.reverse.lookup y) → News g L' h₁ news → Below A base [envOf cn cs L a ccd] g → (K w.params).In g → Top p loose mean mg mb g → KtsDicts ([envOf cn cs L a ccd].filterMap (·.frame)) g →
      wpAny (model prog w) (A.deeper (envOf qual scope L' f cdv)) (execs body (envOf qual scope L' f cdv))
        (fun fl s' => LeaveS0 ([envOf cn cs L a ccd].filterMap (·.frame)) h₀ L m g R (match fl with | .ret v => v | _ => .none) s')
        (fun e s' => wpAny (model prog w) (A.deeper (envOf qual scope L' f cdv)) (leaving (envOf qual scope L' f cdv) e) (fun _ s'' => R (.error e) s'') (fun e' s'' => R (.error e') s'') s')
        { s with heap := h₁, toks := tk }) : codeAny (model prog w) A (.call (.ref f) args) R s := by
  obtain ⟨B, F, X, N, T, hA, hf, hke, hh⟩ := C
  exact code_defS0 B F X N T hA ho hcd hroom hbind hloc (fun g L' h₁ a b c d e f i => h g L' h₁ _ a b c d e f i) hke hco hgen hk hcell
end
end Mine
end N11
section N12
open PySem PySem.W PyProof.Rows PySem.Calls PySem.Spec PyProof.V
set_option maxRecDepth 100000
set_option maxHeartbeats 8000000
set_option autoImplicit false
namespace Mine
theorem and_le {x y : Int} (h : 0 ≤ x) : 0 ≤ Builtin.bitAnd x y ∧ Builtin.bitAnd x y ≤ x := by
  rw [bitAnd_comm]
  exact bitAnd_range y h
noncomputable def v1S (e : Int) : Bool := Builtin.bitAnd e 1 != 0
/-- what stands for an address in the tables -/
noncomputable def enS (b en ad : Int) (c : Cs) : Int :=
  if v1S (e1S b ad c) = true then (if leafS (e1S b ad c) = true then e1S b ad c else if v1S (e2S b en ad c) = true then e2S b en ad c else 0) else 0
/-- the place of an entry that stands -/
noncomputable def npS (b en ad : Int) (c : Cs) : Bool := v1S (e1S b ad c) && !leafS (e1S b ad c) && v1S (e2S b en ad c)
noncomputable def phS (b en pg lg ad : Int) (c : Cs) : Option Int :=
  if enS b en ad c = 0 then none else some (if leafS (e1S b ad c) = true then Builtin.bitOr (physS b (enS b en ad c)) (Builtin.bitAnd ad (lg - 1)) else Builtin.bitOr (physS b (enS b en ad c)) (pO pg ad))
noncomputable def nfS (f : Int) : Bool := decide (Builtin.bitAnd f (Builtin.bitNot 1023) = 0) && leafS f && soundS (Builtin.bitOr f 1)
/-- an entry, changed -/
noncomputable def chS (e add take : Int) : Int := Builtin.bitOr (Builtin.bitAnd e (Builtin.bitNot (Builtin.bitAnd take 1023))) (Builtin.bitAnd add 1023)
theorem v1_t {e : Int} (h : Builtin.bitAnd e 1 ≠ 0) : v1S e = true := by unfold v1S; simpa using h
theorem v1_f {e : Int} (h : Builtin.bitAnd e 1 = 0) : v1S e = false := by unfold v1S; simpa using h
section
variable {b pg en lg ad : Int} {c : Cs} {f : Int}
theorem nf_t (h1 : Builtin.bitAnd f (Builtin.bitNot 1023) = 0) (h2 : leafS f = true) (h3 : soundS (Builtin.bitOr f 1) = true) : nfS f = true := by unfold nfS; rw [decide_eq_true h1, h2, h3]; rfl
theorem nf_f1 (h1 : Builtin.bitAnd f (Builtin.bitNot 1023) ≠ 0) : nfS f = false := by unfold nfS; rw [decide_eq_false h1]; rfl
theorem nf_f2 (h2 : leafS f = false) : nfS f = false := by unfold nfS; rw [h2, Bool.and_false]; rfl
theorem nf_f3 (h3 : soundS (Builtin.bitOr f 1) = false) : nfS f = false := by unfold nfS; rw [h3, Bool.and_false]
theorem en0 (h1 : v1S (e1S b ad c) = false) : enS b en ad c = 0 := by unfold enS; rw [h1]; rfl
theorem en1 (h1 : v1S (e1S b ad c) = true) (h2 : leafS (e1S b ad c) = true) : enS b en ad c = e1S b ad c := by unfold enS; rw [if_pos h1, if_pos h2]
theorem en2 (h1 : v1S (e1S b ad c) = true) (h2 : leafS (e1S b ad c) = false) (h3 : v1S (e2S b en ad c) = true) : enS b en ad c = e2S b en ad c := by unfold enS; rw [if_pos h1, if_neg (by rw [h2]; decide), if_pos h3]
theorem en3 (h1 : v1S (e1S b ad c) = true) (h2 : leafS (e1S b ad c) = false) (h3 : v1S (e2S b en ad c) = false) : enS b en ad c = 0 := by unfold enS; rw [if_pos h1, if_neg (by rw [h2]; decide), if_neg (by rw [h3]; decide)]
theorem en_lt (hc : ∀ i, 0 ≤ kdfLook c i 0 ∧ kdfLook c i 0 < 65536) : 0 ≤ enS b en ad c ∧ enS b en ad c < 65536 := by
  unfold enS
  split
  · split
    · exact hc _
    · split
      · exact hc _
      · decide
  · decide
theorem np_t (h1 : v1S (e1S b ad c) = true) (h2 : leafS (e1S b ad c) = false) (h3 : v1S (e2S b en ad c) = true) : npS b en ad c = true := by unfold npS; rw [h1, h2, h3]; rfl
theorem np_1 (h1 : v1S (e1S b ad c) = false) : npS b en ad c = false := by unfold npS; rw [h1]; rfl
theorem np_2 (h2 : leafS (e1S b ad c) = true) : npS b en ad c = false := by unfold npS; rw [h2]; simp
theorem np_3 (h3 : v1S (e2S b en ad c) = false) : npS b en ad c = false := by unfold npS; rw [h3]; simp
theorem np_of (h : npS b en ad c = true) : v1S (e1S b ad c) = true ∧ leafS (e1S b ad c) = false ∧ v1S (e2S b en ad c) = true := by
  unfold npS at h
  simp only [Bool.and_eq_true, Bool.not_eq_true'] at h
  exact ⟨h.1.1, h.1.2, h.2⟩
theorem ph_n (h : enS b en ad c = 0) : phS b en pg lg ad c = none := by unfold phS; rw [if_pos h]
theorem ph_l (h : enS b en ad c ≠ 0) (h2 : leafS (e1S b ad c) = true) : phS b en pg lg ad c = some (Builtin.bitOr (physS b (enS b en ad c)) (Builtin.bitAnd ad (lg - 1))) := by unfold phS; rw [if_neg h, if_pos h2]
theorem ph_s (h : enS b en ad c ≠ 0) (h2 : leafS (e1S b ad c) = false) : phS b en pg lg ad c = some (Builtin.bitOr (physS b (enS b en ad c)) (pO pg ad)) := by unfold phS; rw [if_neg h, if_neg (by rw [h2]; decide)]
end
noncomputable abbrev cfS (e add take : Int) : Int := Builtin.bitAnd (Builtin.bitAnd (chS e add take) 1023) (Builtin.bitNot 1)
theorem ch_lt {e add take : Int} (he : 0 ≤ e ∧ e < 65536) : 0 ≤ chS e add take ∧ chS e add take < 65536 := by
  unfold chS
  have h1 := and_le (y := Builtin.bitNot (Builtin.bitAnd take 1023)) he.1
  have h2 := bitAnd_range add (y := 1023) (by decide)
  exact or_lt ⟨h1.1, by omega⟩ ⟨h2.1, by omega⟩
theorem cf_lt {e add take : Int} : 0 ≤ cfS e add take ∧ cfS e add take < 4096 := by
  have h1 := bitAnd_range (chS e add take) (y := 1023) (by decide)
  have h2 := and_le (x := Builtin.bitAnd (chS e add take) 1023) (y := Builtin.bitNot 1) h1.1
  show 0 ≤ Builtin.bitAnd _ _ ∧ Builtin.bitAnd _ _ < 4096
  omega
theorem ent_lt {b pg en lg ed ph fl : Int} (ln : LayN b pg en lg ed) (hp : 0 ≤ ph ∧ ph < 40 * pg) (hf : 0 ≤ fl ∧ fl < 4096) : 0 ≤ entS b ph fl ∧ entS b ph fl < 65536 := by
  have : 0 ≤ ph.fdiv (2 ^ b.toNat) ∧ ph.fdiv (2 ^ b.toNat) < 40 := by
    have h : pg = 2 ^ b.toNat := by rcases ln with ⟨rfl, rfl, _⟩ | ⟨rfl, rfl, _⟩ | ⟨rfl, rfl, _⟩ | ⟨rfl, rfl, _⟩ | ⟨rfl, rfl, _⟩ <;> decide
    rw [← h]
    have h2 := (layN_b ln).2.1
    exact ⟨Int.fdiv_nonneg hp.1 (by omega), by rw [Int.fdiv_eq_ediv_of_nonneg _ (by omega)]; exact Int.ediv_lt_of_lt_mul (by omega) (by omega)⟩
  unfold entS
  refine or_lt ?_ ⟨hf.1, by omega⟩
  have e : (2 : Int) ^ Int.toNat 10 = 1024 := by decide
  rw [e]
  omega
end Mine
end N12
section L1
open PySem PySem.W PyProof.Rows PySem.Calls PySem.Spec PyProof.V
set_option maxRecDepth 100000
set_option maxHeartbeats 8000000
set_option autoImplicit false
namespace Mine
/-- a frame's names, of which some are turned by a loop -/
noncomputable def over (u : Str → Option Value) : List Str → (Str → Option Value) → Str → Option Value
  | [], m => m
  | x :: r, m => fun y => if y = x then u y else over u r m y
theorem over_same {u m : Str → Option Value} : ∀ {xs : List Str}, (∀ y, xs.contains y = false → u y = m y) → over u xs m = u
  | [], h => funext fun y => (h y rfl).symm
  | x :: r, h => by
    funext y
    show (if y = x then u y else over u r m y) = u y
    by_cases q : y = x
    · rw [if_pos q]
    · rw [if_neg q]
      have ih : ∀ (r : List Str), (r.contains y = false → u y = m y) → over u r m y = u y := by
        intro r
        induction r with
        | nil => intro h; exact (h rfl).symm
        | cons z r ih =>
          intro h
          show (if y = z then u y else over u r m y) = u y
          by_cases q : y = z
          · rw [if_pos q]
          · rw [if_neg q]
            exact ih fun hc => h (by simp only [List.contains_cons, Bool.or_eq_false_iff]; exact ⟨by simpa using q, hc⟩)
      exact ih r fun hc => h y (by simp only [List.contains_cons, Bool.or_eq_false_iff]; exact ⟨by simpa using q, hc⟩)
section
variable {prog : Program} {w : World} {A : Around} {E : Value → Shared → Prop} {s : Shared} {env : Env} {h₀ : Heap} {target : PySem.Expr} {body : List Stmt} {Q : Flow → Shared → Prop} {m₀ : Str → Option Value} {news : List (Addr × Obj)}
noncomputable def NextG (h₀ : Heap) (L : Addr) (xs : List Str) (m₀ : Str → Option Value) (wr : List Addr) (own : List (Addr × Obj)) (Jn : List (Addr × Obj) → Prop) (s s₂ : Shared) : Prop :=
  ∃ h' tk m' news', s₂ = { s with heap := h', toks := tk } ∧ Fr h₀ L h' m' ∧ (∀ y, xs.contains y = false → m' y = m₀ y) ∧ News h₀ L h' (own ++ news') ∧ (∀ p ∈ news', p.1 ∉ wr) ∧ Jn news'
noncomputable def StepG (h₀ : Heap) (L : Addr) (xs : List Str) (m₀ : Str → Option Value) (wr : List Addr) (own : List (Addr × Obj)) (Jn : List (Addr × Obj) → Prop) (s : Shared) (Q : Flow → Shared → Prop) (f : Flow) (s₂ : Shared) : Prop :=
  match f with
  | .ret v => Q (.ret v) s₂
  | .brk => Q .next s₂
  | _ => NextG h₀ L xs m₀ wr own Jn s s₂
noncomputable def LoopG (prog : Program) (w : World) (A : Around) (h₀ : Heap) (env : Env) (target : PySem.Expr) (body : List Stmt) (Q : Flow → Shared → Prop) (E : Value → Shared → Prop) (it : Value) (s : Shared) : Prop :=
  ∃ (xs : List Str) (m₀ : Str → Option Value) (I : Addr) (fp wr : List Addr) (n : Nat) (P : Nat → Value → Prop) (St : Nat → Heap → Prop) (news : List (Addr × Obj)) (J : Nat → List (Addr × Obj) → Prop),
    it = .ref I ∧ Walks prog w A I fp wr n P St ∧ env.locals ∉ fp ∧ (∀ b ∈ wr, h₀.get? b = none) ∧ (∀ p ∈ news, p.1 ∉ wr) ∧ St 0 s.heap ∧ Fr h₀ env.locals s.heap m₀ ∧ News h₀ env.locals s.heap news ∧ J 0 news ∧
    (∀ i v (u : Str → Option Value) news₁ h tk own, i < n → P i v → J i news₁ → (∀ p ∈ news₁, p.1 ∉ wr) → (∀ p ∈ own, p.1 ∈ fp) → (∀ b ∈ fp, h₀.get? b = none → ∀ o, h.get? b = some o → (b, o) ∈ own) → St (i + 1) h →
      Fr h₀ env.locals h (over u xs m₀) → News h₀ env.locals h (own ++ news₁) →
      wpAny (model prog w) A (assign target env v) (fun _ s₂ => wpAny (model prog w) A (execs body env) (StepG h₀ env.locals xs m₀ wr own (J (i + 1)) s Q) E s₂) E { s with heap := h, toks := tk }) ∧
    ∀ h' tk u news', Fr h₀ env.locals h' (over u xs m₀) → News h₀ env.locals h' news' → J n news' → Q .next { s with heap := h', toks := tk }
theorem For_G {iter : PySem.Expr} {pos : Pos} {m : Str → Option Value} (_F : Fr h₀ env.locals s.heap m)
    (h : wpAny (model prog w) A (eval iter env) (fun xv s₁ => wpAny (model prog w) A (pyIter xv) (fun it s₂ => LoopG prog w A h₀ env target body Q E it s₂) E s₁) E s)
    (hs : ∀ x, foldedSetIterable iter env x = pure x := by intro _; rfl)
    (ht : ∀ it v, letOwnedTupleGo target it v = pure () := by intro _ _; rfl)
    (hE : PassesOwn (model prog w) A env E := by passes_own) :
    wpAny (model prog w) A (exec (.For target iter body [] pos) env) Q E s := by
  refine wpAny_For (wpAny_mono h (fun xv s₁ h₁ => wpAny_mono h₁ (fun it s₂ h₂ => ?_) fun _ _ e => e) fun _ _ e => e) hs
  obtain ⟨xs, m₀, I, fp, wr, n, P, St, news, J, rfl, W, hLf, hwr, hnw, hst, F, N, h0, step, hQ⟩ := h₂
  have hLw : env.locals ∉ wr := fun h => hLf (W.sub _ h)
  have old : ∀ b o, h₀.get? b = some o → b ∉ wr := fun b o e hb => by rw [hwr b hb] at e; cases e
  have F0 : Fr h₀ env.locals s₂.heap (over m₀ xs m₀) := by rw [over_same fun _ _ => rfl]; exact F
  refine codeAny_forLoop
    (fun k s' => ∃ h' tk u news' i, s' = { s₂ with heap := h', toks := tk } ∧ St i h' ∧ Fr h₀ env.locals h' (over u xs m₀) ∧ News h₀ env.locals h' news' ∧ (∀ p ∈ news', p.1 ∉ wr) ∧ J i news' ∧ i ≤ n ∧ k = n + 1 - i) ?_ (n + 1)
    ⟨s₂.heap, s₂.toks, m₀, news, 0, rfl, hst, F0, N, hnw, h0, Nat.zero_le _, rfl⟩ (ht _)
  rintro k s' ⟨h', tk, u, news', i, rfl, hst', F', N', hnw', hJ, hi, rfl⟩
  have next : ∀ h₁ : Heap, (∀ b o, b ∉ wr → h'.get? b = some o → h₁.get? b = some o) → Fr h₀ env.locals h₁ (over u xs m₀) ∧ News h₀ env.locals h₁ news' := fun h₁ hk₁ =>
    ⟨⟨F'.ns.at' fun o e => hk₁ _ o hLw e, fun b o e => hk₁ b o (old b o e) (F'.keep b o e), F'.above⟩, fun p hp => ⟨hk₁ _ _ (hnw' p hp) (N' p hp).1, (N' p hp).2⟩⟩
  by_cases hlt : i < n
  · refine W.item i _ _ _ hlt hst' fun v h₁ tk₁ hP hst₁ hk₁ => ?_
    obtain ⟨F₁, N₁⟩ := next h₁ hk₁
    have Nown : News h₀ env.locals h₁ (ownOf h₀ fp h₁) := news_ownOf hLf
    have st := step i v u news' h₁ tk₁ (ownOf h₀ fp h₁) hlt hP hJ hnw' ownOf_sub (fun b hb hn o e => mem_ownOf hb hn e) hst₁ F₁ (Nown.append N₁)
    have fin : ∀ s₃, NextG h₀ env.locals xs m₀ wr (ownOf h₀ fp h₁) (J (i + 1)) s₂ s₃ → ∃ m, m < n + 1 - i ∧ ∃ h' tk u news' j, s₃ = { s₂ with heap := h', toks := tk } ∧ St j h' ∧ Fr h₀ env.locals h' (over u xs m₀) ∧ News h₀ env.locals h' news' ∧ (∀ p ∈ news', p.1 ∉ wr) ∧ J j news' ∧ j ≤ n ∧ m = n + 1 - j := by
      rintro s₃ ⟨h₃, tk₃, m₃, news₃, rfl, F₃, hm, N₃, ha₃, hJ₃⟩
      refine ⟨n + 1 - (i + 1), by omega, h₃, tk₃, m₃, news₃, i + 1, rfl, ?_, by rw [over_same hm]; exact F₃, N₃.right, ha₃, hJ₃, hlt, rfl⟩
      refine W.frame _ _ _ hst₁ fun b hb o e => ?_
      cases hn : h₀.get? b with
      | some o₀ =>
        have : o₀ = o := by have := F₁.keep b o₀ hn; rw [e] at this; exact (Option.some.inj this).symm
        exact this ▸ F₃.keep b o₀ hn
      | none => exact (N₃ _ (List.mem_append_left _ (mem_ownOf hb hn e))).1
    refine wpAny_mono (wpAny_passesOwn hE st) (fun _ s₃ h₃ => ?_) fun _ _ e => e
    refine wpAny_mono (wpAny_passesOwn hE h₃) (fun f s₄ h₄ => ?_) fun _ _ e => e
    cases f with
    | ret v => exact h₄
    | brk => exact h₄
    | cont => exact fin s₄ h₄
    | next => exact fin s₄ h₄
  · have hin : i = n := by omega
    subst hin
    refine W.done _ _ _ hst' fun h₁ tk₁ hk₁ => wpAny_execs_nil ?_
    obtain ⟨F₁, N₁⟩ := next h₁ hk₁
    exact hQ h₁ tk₁ u news' F₁ N₁ hJ
theorem iterG_range {r : Addr} {n : Nat} {t₀ u₀ v₀ : Tok} {b₀ : Int} (xs : List Str) (J : Nat → List (Addr × Obj) → Prop) (hh : A.handled = none) (F : Fr h₀ env.locals s.heap m₀) (N : News h₀ env.locals s.heap news)
    (hr : IsRange s.heap r 0 b₀ 1 t₀ u₀ v₀) (hb : b₀ = n) (hsmall : Builtin.Range.small 0 b₀ 1 = true) (hn : Builtin.Range.rangeSize 0 b₀ 1 = b₀) (hj : J 0 news)
    (turn : ∀ (i : Nat) t (u : Str → Option Value) news₁ h tk own I, i < n → J i news₁ → (∀ p ∈ news₁, p.1 ≠ I) → (∀ p ∈ own, p.1 = I) → (∃ o, (I, o) ∈ own) → Fr h₀ env.locals h (over u xs m₀) → News h₀ env.locals h (own ++ news₁) →
      wpAny (model prog w) A (assign target env (.int i t)) (fun _ s₂ => wpAny (model prog w) A (execs body env) (StepG h₀ env.locals xs m₀ [I] own (J (i + 1)) s Q) E s₂) E { s with heap := h, toks := tk })
    (done : ∀ h' tk u news', Fr h₀ env.locals h' (over u xs m₀) → News h₀ env.locals h' news' → J n news' → Q .next { s with heap := h', toks := tk }) :
    wpAny (model prog w) A (pyIter (.ref r)) (fun it s₂ => LoopG prog w A h₀ env target body Q E it s₂) E s := by
  refine wpAny_pyIter_range hr hsmall ?_
  have W := Walks.range (prog := prog) (w := w) hh s.heap.objs.size 0 1 n
  refine ⟨xs, m₀, _, _, _, n, _, _, news, J, rfl, W, ?_, ?_, ?_, ?_, F.push _, (fun p hp => ⟨Heap.get?_push_of_some _ (N p hp).1, (N p hp).2⟩), hj, ?_, fun h' tk u news' F' N' hJ => done h' tk u news' F' N' hJ⟩
  · intro hm
    exact absurd F.ns.lt ((List.mem_singleton.mp hm) ▸ Nat.lt_irrefl _)
  · intro b hb
    rw [List.mem_singleton.mp hb]
    exact next_is_new F
  · intro p hp hI
    exact absurd (Heap.lt_size (N p hp).1) ((List.mem_singleton.mp hI) ▸ Nat.lt_irrefl _)
  · show IsRangeIter _ _ _ _ _
    rw [hn, hb]
    simpa using Heap.get?_push_size _ rfl
  · rintro i v u news₁ h tk own hi ⟨t, rfl⟩ hJ hoff hsub hown hst F₁ N₁
    have e : ((0 : Int) + (i : Int) * 1) = i := by omega
    rw [e]
    refine turn i t u news₁ h tk own _ hi hJ (fun p hp q => hoff p hp (by rw [q]; exact List.mem_singleton.mpr rfl)) (fun p hp => List.mem_singleton.mp (hsub p hp)) ?_ F₁ N₁
    exact ⟨_, hown _ (List.mem_singleton.mpr rfl) (next_is_new F) _ hst⟩
theorem iterG_list {l : Addr} {items : Array Value} (xs : List Str) (J : Nat → List (Addr × Obj) → Prop) (hh : A.handled = none) (F : Fr h₀ env.locals s.heap m₀) (N : News h₀ env.locals s.heap news)
    (hl : s.heap.IsList l items) (hll : l ≠ env.locals) (hj : J 0 news)
    (turn : ∀ (i : Nat) v (u : Str → Option Value) news₁ h tk own I, items[i]? = some v → J i news₁ → (∀ p ∈ news₁, p.1 ≠ I) → (∀ p ∈ own, p.1 = I ∨ p.1 = l) → (∃ o, (I, o) ∈ own) → Fr h₀ env.locals h (over u xs m₀) → News h₀ env.locals h (own ++ news₁) →
      wpAny (model prog w) A (assign target env v) (fun _ s₂ => wpAny (model prog w) A (execs body env) (StepG h₀ env.locals xs m₀ [I] own (J (i + 1)) s Q) E s₂) E { s with heap := h, toks := tk })
    (done : ∀ h' tk u news', Fr h₀ env.locals h' (over u xs m₀) → News h₀ env.locals h' news' → J items.size news' → Q .next { s with heap := h', toks := tk }) :
    wpAny (model prog w) A (pyIter (.ref l)) (fun it s₂ => LoopG prog w A h₀ env target body Q E it s₂) E s := by
  refine wpAny_pyIter_list hl ?_
  obtain ⟨ol, hol, _⟩ := id hl
  have hne : l ≠ s.heap.objs.size := Nat.ne_of_lt (Heap.lt_size hol)
  have W := Walks.list (prog := prog) (w := w) hh s.heap.objs.size l hne items
  refine ⟨xs, m₀, _, _, _, items.size, _, _, news, J, rfl, W, ?_, ?_, ?_, ⟨⟨_, Heap.get?_push_size _ rfl, rfl, rfl⟩, hl.at fun o e => Heap.get?_push_of_some _ e⟩, F.push _, (fun p hp => ⟨Heap.get?_push_of_some _ (N p hp).1, (N p hp).2⟩), hj, ?_, fun h' tk u news' F' N' hJ => done h' tk u news' F' N' hJ⟩
  · intro hm
    rcases List.mem_cons.mp hm with e | hm
    · exact absurd F.ns.lt (e ▸ Nat.lt_irrefl _)
    · exact hll (List.mem_singleton.mp hm).symm
  · intro b hb
    rw [List.mem_singleton.mp hb]
    exact next_is_new F
  · intro p hp hI
    exact absurd (Heap.lt_size (N p hp).1) ((List.mem_singleton.mp hI) ▸ Nat.lt_irrefl _)
  · rintro i v u news₁ h tk own hi hP hJ hoff hsub hown hst F₁ N₁
    refine turn i v u news₁ h tk own _ hP hJ (fun p hp q => hoff p hp (by rw [q]; exact List.mem_singleton.mpr rfl)) (fun p hp => by simpa using hsub p hp) ?_ F₁ N₁
    obtain ⟨o, ho, _⟩ := hst.1
    exact ⟨_, hown _ (List.mem_cons.mpr (.inl rfl)) (next_is_new F) _ ho⟩
end
end Mine
end L1
section N13
open PySem PySem.W PyProof.Rows PySem.Calls PySem.Spec PyProof.V
set_option maxRecDepth 100000
set_option maxHeartbeats 8000000
set_option autoImplicit false
namespace Mine
noncomputable abbrev Row := Int × Int × Int × Int
noncomputable def rowOf (b pg : Int) (c : Cs) (a f : Int) (i : Nat) : List Row :=
  if v1S (kdfLook c ((a + 4 * (i : Int)).fdiv 4) 0) = true then [(addrS b f i 0, physS b (kdfLook c ((a + 4 * (i : Int)).fdiv 4) 0), Builtin.bitAnd (kdfLook c ((a + 4 * (i : Int)).fdiv 4) 0) 1023, pg)] else []
noncomputable def rowsOf (b pg : Int) (c : Cs) (a f : Int) : Nat → List Row
  | 0 => []
  | n + 1 => rowsOf b pg c a f n ++ rowOf b pg c a f n
noncomputable def rowAt (b pg lg : Int) (en : Nat) (c : Cs) (i : Nat) : List Row :=
  if v1S (kdfLook c ((0 + 4 * (i : Int)).fdiv 4) 0) = true then
    (if leafS (kdfLook c ((0 + 4 * (i : Int)).fdiv 4) 0) = true then [(addrS b i 0 0, physS b (kdfLook c ((0 + 4 * (i : Int)).fdiv 4) 0), Builtin.bitAnd (kdfLook c ((0 + 4 * (i : Int)).fdiv 4) 0) 1023, lg)]
     else rowsOf b pg c (physS b (kdfLook c ((0 + 4 * (i : Int)).fdiv 4) 0)) i en)
  else []
noncomputable def rowsS (b pg lg : Int) (en : Nat) (c : Cs) : Nat → List Row
  | 0 => []
  | n + 1 => rowsS b pg lg en c n ++ rowAt b pg lg en c n
noncomputable def RowAt (tl : List (Addr × Obj)) (v : Value) (r : Row) : Prop :=
  ∃ t t1 t2 t3 t4, v = .ref t ∧ (t, tupObj [.int r.1 t1, .int r.2.1 t2, .int r.2.2.1 t3, .int r.2.2.2 t4]) ∈ tl
noncomputable def RowsAt (tl : List (Addr × Obj)) : List Value → List Row → Prop
  | [], [] => True
  | v :: vs, d :: ds => RowAt tl v d ∧ RowsAt tl vs ds
  | _, _ => False
theorem RowAt.mono {tl tl' : List (Addr × Obj)} {v : Value} {r : Row} (h : RowAt tl v r) (hs : ∀ q ∈ tl, q ∈ tl') : RowAt tl' v r := by
  obtain ⟨t, t1, t2, t3, t4, e, hm⟩ := h
  exact ⟨t, t1, t2, t3, t4, e, hs _ hm⟩
theorem RowsAt.mono {tl tl' : List (Addr × Obj)} : ∀ {vs : List Value} {D : List Row}, RowsAt tl vs D → (∀ q ∈ tl, q ∈ tl') → RowsAt tl' vs D
  | [], [], _, _ => trivial
  | _ :: _, _ :: _, h, hs => ⟨h.1.mono hs, h.2.mono hs⟩
  | [], _ :: _, h, _ => h.elim
  | _ :: _, [], h, _ => h.elim
theorem RowsAt.append {tl : List (Addr × Obj)} : ∀ {vs vs' : List Value} {D D' : List Row}, RowsAt tl vs D → RowsAt tl vs' D' → RowsAt tl (vs ++ vs') (D ++ D')
  | [], _, [], _, _, h' => h'
  | _ :: _, _, _ :: _, _, h, h' => ⟨h.1, h.2.append h'⟩
  | [], _, _ :: _, _, h, _ => h.elim
  | _ :: _, _, [], _, h, _ => h.elim
theorem RowsAt.get {tl : List (Addr × Obj)} : ∀ {vs : List Value} {D : List Row} (i : Nat) {v : Value}, RowsAt tl vs D → vs[i]? = some v → ∃ r, D[i]? = some r ∧ RowAt tl v r
  | v :: _, d :: _, 0, _, h, e => ⟨d, rfl, by have : v = _ := Option.some.inj e; exact this ▸ h.1⟩
  | _ :: _, _ :: _, i + 1, _, h, e => RowsAt.get i h.2 e
  | [], [], _, _, _, e => by simp at e
  | [], _ :: _, _, _, h, _ => h.elim
  | _ :: _, [], _, _, h, _ => h.elim
theorem RowsAt.len {tl : List (Addr × Obj)} : ∀ {vs : List Value} {D : List Row}, RowsAt tl vs D → vs.length = D.length
  | [], [], _ => rfl
  | _ :: _, _ :: _, h => by simp [h.2.len]
  | [], _ :: _, h => h.elim
  | _ :: _, [], h => h.elim
theorem rowsOf_len {b pg : Int} {c : Cs} {a f : Int} : ∀ n, (rowsOf b pg c a f n).length ≤ n
  | 0 => Nat.le_refl _
  | n + 1 => by
    have := rowsOf_len (b := b) (pg := pg) (c := c) (a := a) (f := f) n
    unfold rowsOf rowOf
    split <;> simp <;> omega
theorem rowsS_len {b pg lg : Int} {en : Nat} {c : Cs} : ∀ n, (rowsS b pg lg en c n).length ≤ n * (en + 1)
  | 0 => by simp [rowsS]
  | n + 1 => by
    have h1 := rowsS_len (b := b) (pg := pg) (lg := lg) (en := en) (c := c) n
    have h2 : (rowAt b pg lg en c n).length ≤ en + 1 := by
      unfold rowAt
      split
      · split
        · simp
        · exact Nat.le_trans (rowsOf_len _) (by omega)
      · simp
    show (rowsS b pg lg en c n ++ rowAt b pg lg en c n).length ≤ _
    rw [List.length_append, Nat.succ_mul]
    omega
theorem layN_n {b pg en lg ed : Int} (h : LayN b pg en lg ed) : pg = 4 * en ∧ ed = lg * en ∧ pg ≤ 256 := by
  rcases h with ⟨rfl, rfl, rfl, rfl, rfl⟩ | ⟨rfl, rfl, rfl, rfl, rfl⟩ | ⟨rfl, rfl, rfl, rfl, rfl⟩ | ⟨rfl, rfl, rfl, rfl, rfl⟩ | ⟨rfl, rfl, rfl, rfl, rfl⟩ <;> decide
theorem fmod4 {a : Int} (i : Nat) (h : a.fmod 4 = 0) : (a + 4 * (i : Int)).fmod 4 = 0 := by
  rw [Int.fmod_eq_emod_of_nonneg _ (by decide)] at h ⊢
  omega
theorem small_le {b : Int} (h : 0 ≤ b ∧ b ≤ 100000) : Builtin.Range.small 0 b 1 = true := small_one (by decide) (by decide) (by omega) (by omega)
theorem size_le {b : Int} (h : 0 ≤ b) : Builtin.Range.rangeSize 0 b 1 = b := by
  rw [rangeSize_one]
  split <;> omega
theorem over_cons {u m : Str → Option Value} {x : Str} {r : List Str} : over u (x :: r) m = fun y => if y = x then u y else over u r m y := rfl
theorem over_nil {u m : Str → Option Value} : over u [] m = m := rfl
theorem ledger1 {wd fa : Addr × Obj} {tl rest own : List (Addr × Obj)} : ∀ q ∈ wd :: fa :: (tl ++ rest ++ own), q ∈ own ++ (wd :: fa :: (tl ++ rest)) := fun q h => by
  simp only [List.mem_cons, List.mem_append] at h ⊢; grind
theorem allLt_mem {x : Addr} {l : List (Addr × Obj)} (h : AllLt x l) : ∀ p ∈ l, p.1 < x := by
  induction l with
  | nil => intro p hp; cases hp
  | cons a r ih =>
    intro p hp
    rcases List.mem_cons.mp hp with e | hp
    · rw [e]; exact h.1
    · exact ih h.2 p hp
theorem allLt_app {x : Addr} {a b : List (Addr × Obj)} (h : AllLt x (a ++ b)) : AllLt x a ∧ AllLt x b :=
  ⟨allLt_of fun p hp => allLt_mem h p (List.mem_append_left _ hp), allLt_of fun p hp => allLt_mem h p (List.mem_append_right _ hp)⟩
theorem off3 {fa I : Addr} {tl rest own : List (Addr × Obj)} (h1 : ∀ p ∈ tl, fa < p.1) (h2 : AllLt fa rest) (h3 : ∀ p ∈ own, p.1 = I) (h4 : fa ≠ I) : ∀ p ∈ tl ++ rest ++ own, p.1 ≠ fa := fun p hp => by
  rcases List.mem_append.mp hp with hp | hp
  · rcases List.mem_append.mp hp with hp | hp
    · exact Nat.ne_of_gt (h1 p hp)
    · exact Nat.ne_of_lt (allLt_mem h2 p hp)
  · rw [h3 p hp]; exact fun q => h4 q.symm
end Mine
end N13
section F2
open PySem PySem.W PyProof.Rows PySem.Calls PySem.Spec
set_option maxRecDepth 100000
set_option maxHeartbeats 8000000
set_option autoImplicit false
namespace Mine
section
variable {u m m0 : Str → Option Value} {x : Str} {xs ys : List Str} {v : Option Value}
theorem upd_off (hx : xs.contains x = true) (h : ∀ y, xs.contains y = false → m y = m0 y) : ∀ y, xs.contains y = false → (if y = x then v else m y) = m0 y := fun y hy => by
  rw [if_neg (fun e => by rw [e, hx] at hy; cases hy)]
  exact h y hy
theorem over_off' (h : ∀ x ∈ ys, xs.contains x = true) : ∀ y, xs.contains y = false → over u ys m y = m y := fun y hy => by
  induction ys with
  | nil => rfl
  | cons x r ih =>
    rw [over_cons]
    show (if y = x then u y else over u r m y) = m y
    rw [if_neg (fun e => by rw [e, h x (.head _)] at hy; cases hy)]
    exact ih fun z hz => h z (.tail _ hz)
theorem over_offs (hs : ys.all (fun x => xs.contains x) = true) (h : ∀ y, xs.contains y = false → m y = m0 y) : ∀ y, xs.contains y = false → over u ys m y = m0 y := fun y hy =>
  (over_off' (fun x hx => List.all_eq_true.mp hs x hx) y hy).trans (h y hy)
theorem over_off : ∀ y, xs.contains y = false → over u xs m y = m y := over_off' fun _ h => List.elem_eq_true_of_mem h
end
end Mine
end F2
section N14
open PySem PySem.W PyProof.Rows PySem.Calls PySem.Spec PyProof.V
set_option maxRecDepth 100000
set_option maxHeartbeats 8000000
set_option autoImplicit false
namespace Mine
/-- what stands while a list of rows is filled: its items so far -/
noncomputable def JR (wd : Addr) (o : Obj) (fa : Addr) (rest : List (Addr × Obj)) (D : List Row) (news₁ : List (Addr × Obj)) : Prop :=
  ∃ items tl k, news₁ = (wd, o) :: (fa, listOf items k) :: (tl ++ rest) ∧ RowsAt tl items.toList D ∧ (∀ p ∈ tl, fa < p.1)
theorem rows_push {tl : List (Addr × Obj)} {items : Array Value} {D : List Row} {x : Addr} {a1 a2 a3 a4 : Int} {t1 t2 t3 t4 : Tok} (h : RowsAt tl items.toList D) :
    RowsAt ((x, tupObj [.int a1 t1, .int a2 t2, .int a3 t3, .int a4 t4]) :: tl) (items.push (.ref x)).toList (D ++ [(a1, a2, a3, a4)]) := by
  rw [Array.toList_push]
  exact (h.mono fun q hq => .tail _ hq).append ⟨⟨x, t1, t2, t3, t4, rfl, .head _⟩, trivial⟩
section
variable {h₀ h' : Heap} {L I wd fa x : Addr} {o : Obj} {m₀ m' : Str → Option Value} {xs : List Str} {rest own tl tl' tl2 : List (Addr × Obj)} {items items' : Array Value} {D D' : List Row} {s : Shared} {Q : Flow → Shared → Prop} {k k' : Nat} {tk : Nat} {oI ox ob : Obj}
theorem rows_next (F : Fr h₀ L h' m') (hm : ∀ y, xs.contains y = false → m' y = m₀ y) (N : News h₀ L h' ((wd, o) :: (fa, listOf items' k') :: (tl' ++ rest ++ own))) (hr : RowsAt tl' items'.toList D') (ht : ∀ p ∈ tl', fa < p.1)
    (hoff : ∀ p ∈ (wd, o) :: (fa, ob) :: (tl ++ rest), p.1 ≠ I) (hx : ∀ p ∈ tl', p ∈ tl ∨ p.1 ≠ I) : NextG h₀ L xs m₀ [I] own (JR wd o fa rest D') s { s with heap := h', toks := tk } := by
  refine ⟨h', tk, m', (wd, o) :: (fa, listOf items' k') :: (tl' ++ rest), rfl, F, hm, News.sub N fun q hq => ?_, fun p hp hI => ?_, items', tl', k', rfl, hr, ht⟩
  · simp only [List.mem_cons, List.mem_append] at hq ⊢; grind
  · have e := List.mem_singleton.mp hI
    rcases List.mem_cons.mp hp with q | hp
    · exact hoff _ (.head _) (by rw [q] at e; exact e)
    · rcases List.mem_cons.mp hp with q | hp
      · exact hoff _ (.tail _ (.head _)) (by rw [q] at e; exact e)
      · rcases List.mem_append.mp hp with hp | hp
        · rcases hx p hp with hp | hp
          · exact hoff p (.tail _ (.tail _ (List.mem_append_left _ hp))) e
          · exact hp e
        · exact hoff p (.tail _ (.tail _ (List.mem_append_right _ hp))) e
theorem rows_same (F : Fr h₀ L h' m') (hm : ∀ y, xs.contains y = false → m' y = m₀ y) (N : News h₀ L h' ((wd, o) :: (fa, listOf items k) :: (tl ++ rest ++ own))) (hr : RowsAt tl items.toList D) (ht : ∀ p ∈ tl, fa < p.1)
    (hoff : ∀ p ∈ (wd, o) :: (fa, listOf items k) :: (tl ++ rest), p.1 ≠ I) : NextG h₀ L xs m₀ [I] own (JR wd o fa rest D) s { s with heap := h', toks := tk } :=
  rows_next F hm N hr ht hoff fun p hp => .inl hp
theorem rows_one {a1 a2 a3 a4 : Int} {t1 t2 t3 t4 : Tok} (F : Fr h₀ L h' m') (hm : ∀ y, xs.contains y = false → m' y = m₀ y) (N : News h₀ L h' ((x, tupObj [.int a1 t1, .int a2 t2, .int a3 t3, .int a4 t4]) :: (wd, o) :: (fa, listOf (items.push (.ref x)) k') :: (tl ++ rest ++ own)))
    (hr : RowsAt tl items.toList D) (ht : ∀ p ∈ tl, fa < p.1) (hoff : ∀ p ∈ (wd, o) :: (fa, ob) :: (tl ++ rest), p.1 ≠ I) (hI : (I, oI) ∈ own) (hx : wd < x ∧ fa < x ∧ AllLt x (tl ++ rest ++ own)) :
    NextG h₀ L xs m₀ [I] own (JR wd o fa rest (D ++ [(a1, a2, a3, a4)])) s { s with heap := h', toks := tk } := by
  refine rows_next (k' := k') (tl' := (x, tupObj [.int a1 t1, .int a2 t2, .int a3 t3, .int a4 t4]) :: tl) F hm (News.sub N fun q hq => ?_) (rows_push hr) (fun p hp => ?_) hoff fun p hp => ?_
  · simp only [List.mem_cons, List.mem_append] at hq ⊢; grind
  · rcases List.mem_cons.mp hp with q | hp
    · rw [q]; exact hx.2.1
    · exact ht p hp
  · rcases List.mem_cons.mp hp with q | hp
    · refine .inr (Nat.ne_of_gt ?_)
      rw [q]
      exact allLt_mem hx.2.2 _ (List.mem_append_right _ hI)
    · exact .inl hp
end
section
variable {b pg lg : Int} {en : Nat} {c : Cs} {a f : Int} {i : Nat}
theorem rowsOf_t (h : Builtin.bitAnd (kdfLook c ((a + 4 * (i : Int)).fdiv 4) 0) 1 ≠ 0) : rowsOf b pg c a f (i + 1) = rowsOf b pg c a f i ++ [(addrS b f i 0, physS b (kdfLook c ((a + 4 * (i : Int)).fdiv 4) 0), Builtin.bitAnd (kdfLook c ((a + 4 * (i : Int)).fdiv 4) 0) 1023, pg)] := by
  show rowsOf b pg c a f i ++ rowOf b pg c a f i = _
  unfold rowOf; rw [if_pos (v1_t h)]
theorem rowsOf_f (h : Builtin.bitAnd (kdfLook c ((a + 4 * (i : Int)).fdiv 4) 0) 1 = 0) : rowsOf b pg c a f (i + 1) = rowsOf b pg c a f i := by
  show rowsOf b pg c a f i ++ rowOf b pg c a f i = _
  unfold rowOf; rw [if_neg (by rw [v1_f h]; decide), List.append_nil]
theorem rowsS_f (h : Builtin.bitAnd (kdfLook c ((0 + 4 * (i : Int)).fdiv 4) 0) 1 = 0) : rowsS b pg lg en c (i + 1) = rowsS b pg lg en c i := by
  show rowsS b pg lg en c i ++ rowAt b pg lg en c i = _
  unfold rowAt; rw [if_neg (by rw [v1_f h]; decide), List.append_nil]
theorem rowsS_l (h : Builtin.bitAnd (kdfLook c ((0 + 4 * (i : Int)).fdiv 4) 0) 1 ≠ 0) (h2 : leafS (kdfLook c ((0 + 4 * (i : Int)).fdiv 4) 0) = true) : rowsS b pg lg en c (i + 1) = rowsS b pg lg en c i ++ [(addrS b i 0 0, physS b (kdfLook c ((0 + 4 * (i : Int)).fdiv 4) 0), Builtin.bitAnd (kdfLook c ((0 + 4 * (i : Int)).fdiv 4) 0) 1023, lg)] := by
  show rowsS b pg lg en c i ++ rowAt b pg lg en c i = _
  unfold rowAt; rw [if_pos (v1_t h), if_pos h2]
theorem rowsS_s (h : Builtin.bitAnd (kdfLook c ((0 + 4 * (i : Int)).fdiv 4) 0) 1 ≠ 0) (h2 : leafS (kdfLook c ((0 + 4 * (i : Int)).fdiv 4) 0) = false) : rowsS b pg lg en c (i + 1) = rowsS b pg lg en c i ++ rowsOf b pg c (physS b (kdfLook c ((0 + 4 * (i : Int)).fdiv 4) 0)) i en := by
  show rowsS b pg lg en c i ++ rowAt b pg lg en c i = _
  unfold rowAt; rw [if_pos (v1_t h), if_neg (by rw [h2]; decide)]
end
theorem rows_app {tl tl2 : List (Addr × Obj)} {items items2 : Array Value} {D D2 : List Row} (h : RowsAt tl items.toList D) (h2 : RowsAt tl2 items2.toList D2) : RowsAt (tl2 ++ tl) (items ++ items2).toList (D ++ D2) := by
  rw [Array.toList_append]
  exact (h.mono fun q hq => List.mem_append_right _ hq).append (h2.mono fun q hq => List.mem_append_left _ hq)
section
variable {prog : Program} {w : World} {A : Around} {E : Value → Shared → Prop} {s : Shared} {h₀ : Heap} {L wd fa fb : Addr} {o : Obj} {m : Str → Option Value} {tl tl2 r : List (Addr × Obj)} {items items2 : Array Value} {k k2 : Nat}
theorem rows_extend {Q : Value → Shared → Prop} (F : Fr h₀ L s.heap m) (N : News h₀ L s.heap ((wd, o) :: (fb, listOf items2 k2) :: (tl2 ++ ((fa, listOf items k) :: r)))) (hl : wd < fb ∧ AllLt fb ((fa, listOf items k) :: r)) (ht2 : ∀ p ∈ tl2, fb < p.1)
    (hne : ∀ p ∈ r, p.1 ≠ fa) (hw : wd < fa) (s1 : items.size ≤ 100000) (s2 : items2.size ≤ 100000)
    (h : ∀ h' k', Fr h₀ L h' m → News h₀ L h' ((wd, o) :: (fa, listOf (items ++ items2) k') :: (tl2 ++ r)) → Q .none { s with heap := h' }) : wpAny (model prog w) A (call (.builtin "list.extend") [.ref fa, .ref fb]) Q E s := by
  have N1 : News h₀ L s.heap ((fa, listOf items k) :: (wd, o) :: (fb, listOf items2 k2) :: (tl2 ++ r)) := News.sub N fun q hq => by
    simp only [List.mem_cons, List.mem_append] at hq ⊢; grind
  have U : ∀ ob', Upd fa (listOf items k) ob' ((fa, listOf items k) :: (wd, o) :: (fb, listOf items2 k2) :: (tl2 ++ r)) ((fa, ob') :: (wd, o) :: (fb, listOf items2 k2) :: (tl2 ++ r)) := fun ob' => Upd.head fun p hp => by
    have hf : fa < fb := hl.2.1
    rcases List.mem_cons.mp hp with q | hp
    · rw [q]; exact Nat.ne_of_lt hw
    · rcases List.mem_cons.mp hp with q | hp
      · rw [q]; exact Nat.ne_of_gt hf
      · rcases List.mem_append.mp hp with hp | hp
        · exact Nat.ne_of_gt (Nat.lt_trans hf (ht2 p hp))
        · exact hne p hp
  have hd : ¬(!items.isEmpty && Builtin.List.listTooLong (items.size + items2.size)) = true := by
    unfold Builtin.List.listTooLong
    rw [sizeLine_eq]
    simp only [Bool.and_eq_true, decide_eq_true_eq, not_and]
    intro _
    omega
  have hz : items.toList.length ≤ sizeLine := by rw [sizeLine_eq, Array.length_toList]; omega
  have hz2 : items.size + items2.size ≤ sizeLine + 1 := by rw [sizeLine_eq]; omega
  have fin : ∀ h' k', Fr h₀ L h' m → News h₀ L h' ((fa, listOf (items ++ items2) k') :: (wd, o) :: (fb, listOf items2 k2) :: (tl2 ++ r)) → Q .none { s with heap := h' } := fun h' k' F' N' => h h' k' F' (News.sub N' fun q hq => by
    simp only [List.mem_cons, List.mem_append] at hq ⊢; grind)
  by_cases hc : items2.toList = []
  · refine kxn_extend F N1 (.tail _ (.tail _ (.head _))) hc (U _) hd hz hz2 fun h' F' N' => fin h' k F' ?_
    have e1 : items2 = #[] := Array.toList_inj.mp (by rw [hc])
    rw [e1, Array.append_empty]
    rw [e1] at N'
    exact N'
  · refine kl_extend (l := (items ++ items2).toList) F N1 (.tail _ (.tail _ (.head _))) (by rw [Array.toList_append]) (fun q => hc (List.eq_nil_of_length_eq_zero q)) (U _) hd hz hz2 fun h' F' N' => fin h' (k + 1) F' ?_
    rw [Array.toArray_toList] at N'
    exact N'
end
section
variable {h₀ h' : Heap} {L I wd fa fb : Addr} {o : Obj} {m₀ m' : Str → Option Value} {xs : List Str} {rest own tl tl2 : List (Addr × Obj)} {items items2 : Array Value} {D D2 : List Row} {s : Shared} {k k' : Nat} {tk : Nat} {oI ob ob2 : Obj}
theorem rows_more (F : Fr h₀ L h' m') (hm : ∀ y, xs.contains y = false → m' y = m₀ y) (N : News h₀ L h' ((wd, o) :: (fa, listOf (items ++ items2) k') :: (tl2 ++ (tl ++ rest ++ own)))) (hr : RowsAt tl items.toList D) (ht : ∀ p ∈ tl, fa < p.1)
    (hr2 : RowsAt tl2 items2.toList D2) (ht2 : ∀ p ∈ tl2, fb < p.1) (hl : wd < fb ∧ AllLt fb ((fa, ob2) :: (tl ++ rest ++ own)))
    (hoff : ∀ p ∈ (wd, o) :: (fa, ob) :: (tl ++ rest), p.1 ≠ I) (hI : (I, oI) ∈ own) : NextG h₀ L xs m₀ [I] own (JR wd o fa rest (D ++ D2)) s { s with heap := h', toks := tk } := by
  refine rows_next (k' := k') (tl := tl) F hm (News.sub N fun q hq => ?_) (rows_app hr hr2) (fun p hp => ?_) hoff fun p hp => ?_
  · simp only [List.mem_cons, List.mem_append] at hq ⊢; grind
  · rcases List.mem_append.mp hp with hp | hp
    · exact Nat.lt_trans hl.2.1 (ht2 p hp)
    · exact ht p hp
  · rcases List.mem_append.mp hp with hp | hp
    · exact .inr (Nat.ne_of_gt (Nat.lt_trans (allLt_mem hl.2.2 _ (List.mem_append_right _ hI)) (ht2 p hp)))
    · exact .inl hp
end
end Mine
end N14
section N15
open PySem PySem.W PyProof.Rows PySem.Calls PySem.Spec PyProof.V
set_option maxRecDepth 100000
set_option maxHeartbeats 8000000
set_option autoImplicit false
namespace Mine
/-- the dict of an object with these fields -/
noncomputable def IsFs (fs : Toks → List (Str × Value)) (D : Obj) : Prop := ∃ H T t1 k, D = dictOf (mkEs H T 0 (fs t1)) k
noncomputable def pick {α : Type} (d : α) : List α → Nat → α
  | [], _ => d
  | a :: _, 0 => a
  | _ :: r, n + 1 => pick d r n
theorem lay_mk {b p l e g d : Int} {h0 h1 h2 h3 h4 h5 : Int} {k0 k1 k2 k3 k4 k5 t0 t1 t2 t3 t4 t5 : Tok} {n : Nat} {pg en lg ed : Int} (hl : l = b - 2) (hp : p = pg) (he : e = en) (hg : g = lg) (hd : d = ed) :
    IsFs (layF b pg en lg ed) (dictOf [⟨h0, .str "page_bits" k0, .int b t0⟩, ⟨h1, .str "level_bits" k1, .int l t1⟩, ⟨h2, .str "page" k2, .int p t2⟩, ⟨h3, .str "entries" k3, .int e t3⟩, ⟨h4, .str "large" k4, .int g t4⟩, ⟨h5, .str "end" k5, .int d t5⟩] n) := by
  subst hl hp he hg hd
  exact ⟨pick 0 [h0, h1, h2, h3, h4, h5], pick 0 [k0, k1, k2, k3, k4, k5], pick 0 [t0, t1, t2, t3, t4, t5], n, rfl⟩
theorem mem_mk {sz b e pg : Int} {wd : Addr} {h0 h1 h2 h3 : Int} {k0 k1 k2 k3 t0 t1 t2 : Tok} {n : Nat} (hs : sz = 4 * pg) (hb : b = 0) (he : e = 4 * pg) :
    IsFs (memF pg wd) (dictOf [⟨h0, .str "size" k0, .int sz t0⟩, ⟨h1, .str "begin" k1, .int b t1⟩, ⟨h2, .str "end" k2, .int e t2⟩, ⟨h3, .str "words" k3, .ref wd⟩] n) := by
  subst hs hb he
  exact ⟨pick 0 [h0, h1, h2, h3], pick 0 [k0, k1, k2, k3], pick 0 [t0, t1, t2], n, rfl⟩
theorem two_mk {x y : Addr} {n0 n1 : Str} {h0 h1 : Int} {k0 k1 : Tok} {n : Nat} :
    IsFs (fun _ => [(n0, .ref x), (n1, .ref y)]) (dictOf [⟨h0, .str n0 k0, .ref x⟩, ⟨h1, .str n1 k1, .ref y⟩] n) := ⟨pick 0 [h0, h1], pick 0 [k0, k1], fun _ => 0, n, rfl⟩
theorem three_mk {x y z : Addr} {n0 n1 n2 : Str} {h0 h1 h2 : Int} {k0 k1 k2 : Tok} {n : Nat} :
    IsFs (fun _ => [(n0, .ref x), (n1, .ref y), (n2, .ref z)]) (dictOf [⟨h0, .str n0 k0, .ref x⟩, ⟨h1, .str n1 k1, .ref y⟩, ⟨h2, .str n2 k2, .ref z⟩] n) := ⟨pick 0 [h0, h1, h2], pick 0 [k0, k1, k2], fun _ => 0, n, rfl⟩
theorem IsFs.has {fs : Toks → List (Str × Value)} {D : Obj} (I : IsFs fs D) {h : Heap} {x dx C : Addr} (h1 : h.get? x = some (instObj C dx)) (h2 : h.get? dx = some D) : ∃ t1, Has h x C (fs t1) := by
  obtain ⟨H, T, t1, k, rfl⟩ := I
  exact ⟨t1, instObj C dx, H, T, k, #[], ⟨h1, rfl, rfl, h2⟩⟩
section
variable {a b c : Addr × Obj} {r : List (Addr × Obj)}
theorem sub9 : ∀ q ∈ a :: b :: c :: r, q ∈ c :: a :: b :: r := fun q h => by simp only [List.mem_cons] at h ⊢; grind
end
end Mine
end N15
section D1
open PySem PySem.W PyProof.Rows PySem.Calls PySem.Spec PyProof.V
set_option maxRecDepth 100000
set_option maxHeartbeats 8000000
set_option autoImplicit false
namespace Mine
/-- a dict of any keys, by its entries -/
noncomputable def RawD (h : Heap) (d : Addr) (es : Array DictEntry) (ep : Nat) : Prop := ∃ o, h.get? d = some o ∧ o.ExactDict ∧ o.data = .dict es ep
theorem RawD.keep {h h' : Heap} {d : Addr} {es : Array DictEntry} {ep : Nat} (x : RawD h d es ep) (e : ∀ o, h.get? d = some o → h'.get? d = some o) : RawD h' d es ep := let ⟨o, ho, r⟩ := x; ⟨o, e _ ho, r⟩
section
variable {prog : Program} {w : World} {A : Around} {E : Value → Shared → Prop} {s : Shared} {d it : Addr} {es : Array DictEntry} {ep i : Nat}
theorem raw_iter {Q : Value → Shared → Prop} (hd : (d == sysModules) = false) (hm : RawD s.heap d es ep)
    (hQ : Q (.ref s.heap.objs.size) { s with heap := s.heap.push { cls := .type "dict_keyiterator", data := .fields #[.ref d, .int 0 0, .int es.size 0, .int ep 0] } }) :
    wpAny (model prog w) A (pyIter (.ref d)) Q E s := by
  obtain ⟨o, ho, hc, hdat⟩ := hm
  have hT : s.TypeIs (.ref d) "dict" := ⟨o, ho, hc.1⟩
  refine wpAny_pyIter_slot hT PySem.F.slot_dict_iter (wpAny_call_entry PySem.F.slot_dict_iter hT PySem.F.entry_dict_iter ?_ (PySem.F.args_dict_iter_1 _))
  unfold Builtin.«dict.__iter__»
  refine wpAny_bind ?_
  unfold Builtin.Dict.dictSlotNone
  refine wpAny_bind (wpAny_notOrdered_dict hT ?_)
  show wpAny _ _ (pure (Value.ref d)) _ _ s
  refine wpAny_pure ?_
  show wpAny _ _ (Builtin.Dict.showsAll d >>= _) _ _ s
  unfold Builtin.Dict.showsAll
  rw [if_neg (by rw [hd]; exact Bool.false_ne_true)]
  refine wpAny_bind (wpAny_pure ?_)
  refine wpAny_bind (wpAny_dictEntries ho hdat ?_)
  refine wpAny_bind (wpAny_dictEpoch ho hdat ?_)
  refine wpAny_bind (wpAny_newObj_type (wpAny_pure ⟨_, rfl, "dict_keyiterator", _, ⟨_, Heap.get?_push_size _ rfl, rfl⟩, PySem.F.slot_dict_keyiterator_next.lookup, ?_⟩))
  simpa [rawInt] using hQ
theorem raw_item {Q : Option Value → Shared → Prop} (hit : s.heap.IsKeyIter it d i es.size ep) (hm : RawD s.heap d es ep) (hlt' : i < es.size)
    (hQ : ∀ h', h'.IsKeyIter it d (i + 1) es.size ep → Heap.SameBut it s.heap h' → Q (some es[i].key) { s with heap := h' }) : wpAny (model prog w) A (pyNext (.ref it)) Q E s := by
  obtain ⟨o, ho, hc, hd⟩ := id hit
  obtain ⟨od, hod, hcd, hdd⟩ := id hm
  unfold pyNext
  refine wpAny_bind (wpAny_attempt (wpAny_callSpecial?_slot (name := Str.ofString "__next__") hit.typeIs PySem.F.slot_dict_keyiterator_next
    (wpAny_call_entry PySem.F.slot_dict_keyiterator_next hit.typeIs PySem.F.entry_dict_keyiterator_next ?_ (PySem.F.args_dict_keyiterator_next_1 _))))
  refine wpAny_bind (wpAny_pure ?_)
  refine wpAny_bind ?_
  refine wpAny_bind ?_
  first | refine wpAny_bind (wpAny_typeNameOfWhole_keyiter hit.typeIs (wpAny_pure ?_)) | refine wpAny_bind (wpAny_typeNameOf_keyiter hit.typeIs (wpAny_pure ?_))
  refine wpAny_bind (wpAny_fieldsOf ho hd ?_)
  have hown : Builtin.Dict_items.ownsTuple "dict_keyiterator" = false := by decide
  simp only [hown, Bool.false_eq_true, if_false]
  show wpAny _ _ (if (Value.ref d == Value.none) = true then _ else _) _ _ s
  rw [if_neg (show ¬ ((Value.ref d == Value.none) = true) from Bool.false_ne_true)]
  refine wpAny_bind (wpAny_pure ?_)
  refine wpAny_bind (wpAny_dictEntries hod hdd ?_)
  rw [if_neg (by simp)]
  refine wpAny_bind (wpAny_pure ?_)
  refine wpAny_bind (wpAny_dictEpoch hod hdd ?_)
  rw [if_neg (by simp)]
  refine wpAny_pure ?_
  simp only [show ¬ ((i : Int) < 0) from by omega, if_false, Int.toNat_natCast, Array.getElem?_eq_getElem hlt']
  refine wpAny_bind ?_
  first | refine wpAny_bind (wpAny_typeNameOfWhole_keyiter hit.typeIs (wpAny_pure ?_)) | refine wpAny_bind (wpAny_typeNameOf_keyiter hit.typeIs (wpAny_pure ?_))
  refine wpAny_bind (wpAny_isOneOf_keyiter hit.typeIs ?_)
  show wpAny _ _ (setField (.ref it) 1 (rawInt ((i : Int) + 1)) >>= _) _ _ s
  refine wpAny_bind (wpAny_setField ho hd (by simp) ?_)
  have hit' : (s.heap.update it (Obj.mapFields (·.setIfInBounds 1 (rawInt ((i : Int) + 1))))).IsKeyIter it d (i + 1) es.size ep :=
    ⟨_, Heap.get?_update_self _ ho (Obj.isFreed_of_fields (Obj.data_mapFields hd _)), (Obj.cls_mapFields ..).trans hc, by rw [Obj.data_mapFields hd]; simp [rawInt]⟩
  refine wpAny_bind (wpAny_holding ?_)
  refine wpAny_bind (wpAny_isOneOf_keyiter (s := { s with heap := s.heap.update it (Obj.mapFields (·.setIfInBounds 1 (rawInt ((i : Int) + 1)))) }) hit'.typeIs ?_)
  show wpAny _ _ (pure es[i].key) _ _ _
  exact wpAny_pure (wpAny_pure ⟨_, rfl, wpAny_pure (hQ _ hit' (Heap.SameBut.update ..))⟩)
theorem raw_end {Q : Option Value → Shared → Prop} (hh : A.handled = none) (hit : s.heap.IsKeyIter it d i es.size ep) (hm : RawD s.heap d es ep) (hge : es.size ≤ i)
    (hQ : ∀ h', Heap.ExtBut it s.heap h' → Q none { s with heap := h' }) : wpAny (model prog w) A (pyNext (.ref it)) Q E s := by
  obtain ⟨o, ho, hc, hd⟩ := id hit
  obtain ⟨od, hod, hcd, hdd⟩ := id hm
  unfold pyNext
  refine wpAny_bind (wpAny_attempt (wpAny_callSpecial?_slot (name := Str.ofString "__next__") hit.typeIs PySem.F.slot_dict_keyiterator_next
    (wpAny_call_entry PySem.F.slot_dict_keyiterator_next hit.typeIs PySem.F.entry_dict_keyiterator_next ?_ (PySem.F.args_dict_keyiterator_next_1 _))))
  refine wpAny_bind (wpAny_pure ?_)
  refine wpAny_bind ?_
  refine wpAny_bind ?_
  first | refine wpAny_bind (wpAny_typeNameOfWhole_keyiter hit.typeIs (wpAny_pure ?_)) | refine wpAny_bind (wpAny_typeNameOf_keyiter hit.typeIs (wpAny_pure ?_))
  refine wpAny_bind (wpAny_fieldsOf ho hd ?_)
  have hown : Builtin.Dict_items.ownsTuple "dict_keyiterator" = false := by decide
  simp only [hown, Bool.false_eq_true, if_false]
  show wpAny _ _ (if (Value.ref d == Value.none) = true then _ else _) _ _ s
  rw [if_neg (show ¬ ((Value.ref d == Value.none) = true) from Bool.false_ne_true)]
  refine wpAny_bind (wpAny_pure ?_)
  refine wpAny_bind (wpAny_dictEntries hod hdd ?_)
  rw [if_neg (by simp)]
  refine wpAny_bind (wpAny_pure ?_)
  refine wpAny_bind (wpAny_dictEpoch hod hdd ?_)
  rw [if_neg (by simp)]
  refine wpAny_pure ?_
  simp only [show ¬ ((i : Int) < 0) from by omega, if_false, Int.toNat_natCast, Array.getElem?_eq_none hge]
  refine wpAny_bind ?_
  first | refine wpAny_bind (wpAny_typeNameOfWhole_keyiter hit.typeIs (wpAny_pure ?_)) | refine wpAny_bind (wpAny_typeNameOf_keyiter hit.typeIs (wpAny_pure ?_))
  show wpAny _ _ (setField (.ref it) 0 .none >>= _) _ _ s
  refine wpAny_bind (wpAny_setField ho hd (by simp) ?_)
  show wpAny _ _ (newExc (.type "StopIteration") [] >>= _) _ _ _
  refine wpAny_bind ?_
  simp only [newExc, newTuple]
  refine wpAny_bind (wpAny_newObj_type ?_ (by size_fits))
  refine wpAny_bind (m := firstArgMember _ _) (wpAny_of_eq (a := Value.none) (by first | rfl | (simp only [firstArgMember]; rfl)) ?_)
  refine wpAny_newObj_type ?_ (by size_fits)
  simp only [raiseNew]
  refine wpAny_bind (wpAny_handled ?_)
  rw [show A.in1.handled = none from hh]
  refine wpAny_bind (wpAny_pure (wpAny_throw ?_))
  refine wpAny_bind (wpAny_isInstance (T := "StopIteration") (b := true) ⟨_, Heap.get?_push_size _ rfl, rfl⟩ isSubtype_stop ?_)
  exact wpAny_pure (hQ _ (((Heap.SameBut.update ..).extBut.push _).push _))
theorem walks_raw (hh : A.handled = none) (I d : Addr) (hne : d ≠ I) (es : Array DictEntry) (ep : Nat) :
    Walks prog w A I [I, d] [I] es.size (fun i v => ∃ e, es[i]? = some e ∧ v = e.key) (fun i h => h.IsKeyIter I d i es.size ep ∧ RawD h d es ep) where
  sub := fun b hb => by simp at hb; simp [hb]
  frame := fun _ _ _ st hk => ⟨st.1.at fun o e => hk I (by simp) o e, st.2.keep fun o e => hk d (by simp) o e⟩
  item := fun i s Q E hi st hQ => by
    refine raw_item st.1 st.2 hi fun h' hit' hs' => ?_
    exact hQ es[i].key h' s.toks ⟨es[i], by simp [hi], rfl⟩ ⟨hit', st.2.keep fun o e => hs'.extBut d o hne e⟩ fun b o hb e => hs'.extBut b o (fun h => hb (by simp [h])) e
  done := fun s Q E st hQ => raw_end hh st.1 st.2 (Nat.le_refl _) fun h' he' => hQ h' s.toks fun b o hb e => he' b o (fun h => hb (by simp [h])) e
  self := fun _ _ _ _ st hQ => wpAny_pyIter_keyiter st.1 hQ
end
end Mine
end D1
section N16
open PySem PySem.W PyProof.Rows PySem.Calls PySem.Spec PyProof.V
set_option maxRecDepth 100000
set_option maxHeartbeats 8000000
set_option autoImplicit false
namespace Mine
/-- an own object among objects that stand, or in the ground -/
noncomputable def HasE (h₀ : Heap) (imm : List (Addr × Obj)) (x C : Addr) (fs : List (Str × Value)) : Prop :=
  ∀ g : Heap, (∀ b o, h₀.get? b = some o → g.get? b = some o) → (∀ p ∈ imm, g.get? p.1 = some p.2) → Has g x C fs
theorem HasE.at {h₀ g : Heap} {imm : List (Addr × Obj)} {x C : Addr} {fs : List (Str × Value)} (H : HasE h₀ imm x C fs) (k : ∀ b o, h₀.get? b = some o → g.get? b = some o) (hi : ∀ p ∈ imm, g.get? p.1 = some p.2) : Has g x C fs := H g k hi
section
variable {prog : Program} {w : World} {p : Program} {loose : List Str} {mean : ExcName → Option Value} {mg mb : Str → Option Value} {A A₀ : Around} {outer : List Env} {base h₀ : Heap} {L a : Addr} {m : Str → Option Value} {s : Shared} {news imm : List (Addr × Obj)} {R : Result → Shared → Prop} {cn : Str} {cs : Scope} {ccd : Value}
theorem enterXK (binds : List (Str × Value)) {name qual : Str} {params : Arguments} {body : List Stmt} {scope : Scope} {dV kV doc pm cdv ct oc : Value} {an od : Option Addr} {osl : Array (Option Value)} {f : Addr} {args : Args}
    (C : Ctx w p loose mean mg mb A A₀ (envOf cn cs L a ccd) outer base h₀ L s.heap m (news ++ imm)) (hdis : ∀ p ∈ imm, ∀ q ∈ news, p.1 ≠ q.1)
    (ho : (K w.params).lookup f = some ⟨oc, od, .func (fnOf name qual params body scope dV kV doc pm an cdv ct), osl⟩) (hcd : codeIn (K w.params) cdv qual = true) (hroom : A.depth < recursionLimit)
    (hbind : BindsTo s (fnOf name qual params body scope dV kV doc pm an cdv ct) args binds) (hloc : ∀ y ∈ binds, scope.names.lookup y.1 = some .local)
    (hco : scope.isCoroutine = false) (hgen : scope.isGenerator = false) (hk : scope.kind = .function)
    (hcell : ∀ x ∈ scope.names, x.2 ≠ .cell)
    (h : ∀ g L' h₁ tk, Fr h₀ L g m → Fr g L' h₁ (fun y => binds.reverse.lookup y) → News g L' h₁ news → Below A base (envOf cn cs L a ccd :: outer) g → (K w.params).In g → Top p loose mean mg mb g → (∀ p ∈ imm, g.get? p.1 = some p.2) →
      wpAny (model prog w) (A.deeper (envOf qual scope L' f cdv)) (execs body (envOf qual scope L' f cdv))
        (fun fl s' => LeaveK h₀ L m g (fun r s' => News h₀ L s'.heap imm → R r s') (match fl with | .ret v => v | _ => .none) s')
        (fun e s' => wpAny (model prog w) (A.deeper (envOf qual scope L' f cdv)) (leaving (envOf qual scope L' f cdv) e) (fun _ s'' => R (.error e) s'') (fun e' s'' => R (.error e') s'') s')
        { s with heap := h₁, toks := tk }) : codeAny (model prog w) A (.call (.ref f) args) R s := by
  obtain ⟨B, F, X₀, NA, T, hA, hf, hck, hh⟩ := C
  have N : News h₀ L s.heap news := News.sub NA fun q hq => List.mem_append_left _ hq
  have NI : News h₀ L s.heap imm := News.sub NA fun q hq => List.mem_append_right _ hq
  have X := X₀.keeps F.keep
  refine codeAny_call_def (fd := fnOf name qual params body scope dV kV doc pm an cdv ct) (body := body) (binds := binds) hroom (X _ _ ho) rfl (T.nolimit.keeps F.keep) (codeRec_of X hcd) rfl hbind hcell hloc (fun h₁ hns hk₁ => ?_) hco hgen hk
  obtain ⟨oL, es, ep, hLg, hLd, hN, hNs, st, B₂⟩ := kts_enter B F N hA hck
  have hI : ∀ p ∈ imm, (hideAll s.heap (news.map (·.1))).get? p.1 = some p.2 := fun p hp => hideAll_get _ (NI p hp).1 fun q => by
    obtain ⟨r, hr, e⟩ := List.mem_map.mp q
    exact hdis p hp r hr e.symm
  refine wpAny_mono (h _ s.heap.objs.size h₁ _ ⟨hN _ hLg, st, F.above⟩ ⟨hns, fun b o e => hk₁ b o (of_hideAll _ e), Nat.le_of_eq (hideAll_size _ _)⟩
    (fun p hp => ⟨hk₁ _ _ (N p hp).1, Nat.ne_of_lt (Heap.lt_size (N p hp).1), hideAll_none _ (List.mem_map_of_mem hp)⟩) B₂ (X₀.keeps st) (T.keeps st) hI) (fun fl s' hl => ?_) fun _ _ y => y
  obtain ⟨L', m', news', F', N', k⟩ := hl
  refine k ⟨hN _ (F'.keep _ _ hLg), fun b o e => F'.keep b o (st b o e), F.above⟩ (fun p hp => ⟨(N' p hp).1, fun q => ?_, ?_⟩) fun p hp => ⟨F'.keep _ _ (hI p hp), (NI p hp).2⟩
  · have := (N' p hp).2.2; rw [q, hLg] at this; cases this
  · cases q : h₀.get? p.1 with
    | none => rfl
    | some o => have := (N' p hp).2.2; rw [st _ _ q] at this; cases this
theorem enterX0 (binds : List (Str × Value)) {name qual : Str} {params : Arguments} {body : List Stmt} {scope : Scope} {dV kV doc pm cdv ct oc : Value} {an od : Option Addr} {osl : Array (Option Value)} {f : Addr} {args : Args}
    (C : Ctx w p loose mean mg mb A A₀ (envOf cn cs L a ccd) [] base h₀ L s.heap m (news ++ imm)) (hdis : ∀ p ∈ imm, ∀ q ∈ news, p.1 ≠ q.1)
    (ho : (K w.params).lookup f = some ⟨oc, od, .func (fnOf name qual params body scope dV kV doc pm an cdv ct), osl⟩) (hcd : codeIn (K w.params) cdv qual = true) (hroom : A.depth < recursionLimit)
    (hbind : BindsTo s (fnOf name qual params body scope dV kV doc pm an cdv ct) args binds) (hloc : ∀ y ∈ binds, scope.names.lookup y.1 = some .local)
    (hco : scope.isCoroutine = false) (hgen : scope.isGenerator = false) (hk : scope.kind = .function)
    (hcell : ∀ x ∈ scope.names, x.2 ≠ .cell)
    (h : ∀ g L' h₁ tk, Fr h₀ L g m → Fr g L' h₁ (fun y => binds.reverse.lookup y) → News g L' h₁ news → Below A base [envOf cn cs L a ccd] g → (K w.params).In g → Top p loose mean mg mb g → KtsDicts ([envOf cn cs L a ccd].filterMap (·.frame)) g → (∀ p ∈ imm, g.get? p.1 = some p.2) →
      wpAny (model prog w) (A.deeper (envOf qual scope L' f cdv)) (execs body (envOf qual scope L' f cdv))
        (fun fl s' => LeaveS0 ([envOf cn cs L a ccd].filterMap (·.frame)) h₀ L m g (fun r s' => News h₀ L s'.heap imm → R r s') (match fl with | .ret v => v | _ => .none) s')
        (fun e s' => wpAny (model prog w) (A.deeper (envOf qual scope L' f cdv)) (leaving (envOf qual scope L' f cdv) e) (fun _ s'' => R (.error e) s'') (fun e' s'' => R (.error e') s'') s')
        { s with heap := h₁, toks := tk }) : codeAny (model prog w) A (.call (.ref f) args) R s := by
  obtain ⟨B, F, X₀, NA, T, hA, hf, hck, hh⟩ := C
  have N : News h₀ L s.heap news := News.sub NA fun q hq => List.mem_append_left _ hq
  have NI : News h₀ L s.heap imm := News.sub NA fun q hq => List.mem_append_right _ hq
  have X := X₀.keeps F.keep
  refine codeAny_call_def (fd := fnOf name qual params body scope dV kV doc pm an cdv ct) (body := body) (binds := binds) hroom (X _ _ ho) rfl (T.nolimit.keeps F.keep) (codeRec_of X hcd) rfl hbind hcell hloc (fun h₁ hns hk₁ => ?_) hco hgen hk
  obtain ⟨oL, es, ep, hLg, hLd, hN, hNs, st, B₂⟩ := kts_enter B F N hA hck
  have hI : ∀ p ∈ imm, (hideAll s.heap (news.map (·.1))).get? p.1 = some p.2 := fun p hp => hideAll_get _ (NI p hp).1 fun q => by
    obtain ⟨r, hr, e⟩ := List.mem_map.mp q
    exact hdis p hp r hr e.symm
  refine wpAny_mono (h _ s.heap.objs.size h₁ _ ⟨hN _ hLg, st, F.above⟩ ⟨hns, fun b o e => hk₁ b o (of_hideAll _ e), Nat.le_of_eq (hideAll_size _ _)⟩
    (fun p hp => ⟨hk₁ _ _ (N p hp).1, Nat.ne_of_lt (Heap.lt_size (N p hp).1), hideAll_none _ (List.mem_map_of_mem hp)⟩) B₂ (X₀.keeps st) (T.keeps st) (fun b hb => by
      rcases kts_mem hb with rfl | z
      · exact ⟨oL, es, ep, hLg, hLd⟩
      · simp at z) hI) (fun fl s' hl => ?_) fun _ _ y => y
  obtain ⟨g', L', m', news', T', F', N', k⟩ := hl
  have nL₀ : h₀.get? L = none := kts_self F
  obtain ⟨sl, hs⟩ := T'.up hLg
  have off : ∀ b o, (hideAll s.heap (news.map (·.1))).get? b = some o → b ≠ L → s'.heap.get? b = some o := fun b o e hb => F'.keep b o (T'.other b o e fun q => by
    rcases kts_mem q with z | z
    · exact hb z
    · simp at z)
  refine k ⟨hNs sl _ (F'.keep _ _ hs), fun b o e => off b o (st b o e) (fun z => by rw [z, nL₀] at e; cases e), F.above⟩ (fun p hp => ⟨(N' p hp).1, fun q => ?_, ?_⟩) fun p hp => ⟨off _ _ (hI p hp) (NI p hp).2.1, (NI p hp).2⟩
  · have := (N' p hp).2.2; rw [q, hs] at this; cases this
  · cases q : h₀.get? p.1 with
    | none => rfl
    | some o =>
      obtain ⟨sl', hs'⟩ := T'.up (st _ _ q)
      have := (N' p hp).2.2
      rw [hs'] at this
      cases this
end
end Mine
end N16
section N17
open PySem PySem.W PyProof.Rows PySem.Calls PySem.Spec PyProof.V
set_option maxRecDepth 100000
set_option maxHeartbeats 8000000
set_option autoImplicit false
namespace Mine
noncomputable def HasI (imm : List (Addr × Obj)) (x C : Addr) (fs : List (Str × Value)) : Prop := ∃ dx H T k, (x, instObj C dx) ∈ imm ∧ (dx, dictOf (mkEs H T 0 fs) k) ∈ imm
theorem HasI.mono {imm imm' : List (Addr × Obj)} {x C : Addr} {fs : List (Str × Value)} (H : HasI imm x C fs) (hs : ∀ q ∈ imm, q ∈ imm') : HasI imm' x C fs := by
  obtain ⟨dx, H, T, k, h1, h2⟩ := H
  exact ⟨dx, H, T, k, hs _ h1, hs _ h2⟩
theorem HasI.has {imm : List (Addr × Obj)} {x C : Addr} {fs : List (Str × Value)} (H : HasI imm x C fs) {g : Heap} (hi : ∀ p ∈ imm, g.get? p.1 = some p.2) : Has g x C fs := by
  obtain ⟨dx, H, T, k, h1, h2⟩ := H
  exact ⟨instObj C dx, H, T, k, #[], ⟨hi _ h1, rfl, rfl, hi _ h2⟩⟩
theorem HasI.hasE {imm : List (Addr × Obj)} {x C : Addr} {fs : List (Str × Value)} (H : HasI imm x C fs) {h₀ : Heap} : HasE h₀ imm x C fs := fun _ _ hi => H.has hi
theorem hasI_of {imm : List (Addr × Obj)} {x dx C : Addr} {fs : List (Str × Value)} {H : Nat → Int} {T : Nat → Tok} {k : Nat} (h1 : (x, instObj C dx) ∈ imm) (h2 : (dx, dictOf (mkEs H T 0 fs) k) ∈ imm) : HasI imm x C fs := ⟨dx, H, T, k, h1, h2⟩
theorem IsFs.hasI {fs : Toks → List (Str × Value)} {D : Obj} (I : IsFs fs D) {imm : List (Addr × Obj)} {x dx C : Addr} (h1 : (x, instObj C dx) ∈ imm) (h2 : (dx, D) ∈ imm) : ∃ t1, HasI imm x C (fs t1) := by
  obtain ⟨H, T, t1, k, rfl⟩ := I
  exact ⟨t1, dx, H, T, k, h1, h2⟩
section
variable {g h : Heap} {L : Addr} {a b : List (Addr × Obj)}
theorem news_join (x : News g L h a) (y : News g L h b) : News g L h (a ++ b) := x.append y
end
section
variable {prog : Program} {w : World} {A : Around} {s : Shared} {KF : Frag} {x C L f : Addr} {h₀ : Heap} {m : Str → Option Value} {v : Value} {name : Str} {E : Value → Shared → Prop} {fs : List (Str × Value)} {attr : Option Value} {news : List (Addr × Obj)}
theorem own_getN {expr : Bool} {Q : Value → Shared → Prop} (D : HasI news x C fs) (N : News h₀ L s.heap news) (F : Fr h₀ L s.heap m) (X₀ : KF.In h₀) (hg : plainGet KF C name = true) (hh : hasDictIn KF C = true) (ha : findIn KF (.ref C) name = some attr) (hn : noGet KF attr = true)
    (hl : ∀ H T, getL name (mkEs H T 0 fs) = some (some v)) (hv : handedIn v = true) (h : Q v { s with toks := s.toks + 1 }) : wpAny (model prog w) A (getAttr (.ref x) name expr) Q E s := by
  obtain ⟨ox, H, T, n, sl, I⟩ := D.has fun p hp => (N p hp).1
  exact get_value (X₀.keeps F.keep) I (plainGet_of hg).1 (findObj_own hh ha hn (hl H T)) hv h
theorem own_methN {pl : Sem Bool} {Q : Value × List Value → Shared → Prop} (D : HasI news x C fs) (N : News h₀ L s.heap news) (F : Fr h₀ L s.heap m) (X₀ : KF.In h₀) (hg : plainGet KF C name = true) (hf : findIn KF (.ref C) name = some (some (.ref f))) (ht : isFn KF (.ref f) = true)
    (hl : ∀ H T, getL name (mkEs H T 0 fs) = some none) (h : Q (.ref f, [.ref x]) s) : wpAny (model prog w) A (getMethod (.ref x) name pl) Q E s := by
  obtain ⟨ox, H, T, n, sl, I⟩ := D.has fun p hp => (N p hp).1
  exact method_fn (X₀.keeps F.keep) I (plainGet_of hg).1 (plainGet_of hg).2 hf (beq_iff_eq.mp ht) (by show (lookIn name (dictOf (mkEs H T 0 fs) n)).map _ = _; rw [lookIn_dict, hl H T]; rfl) h
end
end Mine
end N17
section N18
open PySem PySem.W PyProof.Rows PySem.Calls PySem.Spec PyProof.V
set_option maxRecDepth 100000
set_option maxHeartbeats 8000000
set_option autoImplicit false
namespace Mine
noncomputable abbrev Cells := List ((Int × Int) × Int)
noncomputable def encK (k : Int × Int) : PyData := encTuple PyData.int [k.1, k.2]
noncomputable def encS (S : Cells) : List (PyData × PyData) := S.map fun e => (encK e.1, .int e.2)
noncomputable def setK (S : Cells) (k : Int × Int) (v : Int) : Cells := if S.any (fun e => decide (e.1 = k)) then S.map (fun e => if e.1 = k then (e.1, v) else e) else S ++ [(k, v)]
theorem same_encK (a b : Int × Int) : same (encK a) (encK b) = decide (a = b) := by
  unfold encK
  rw [same_encTuple PyProof.V.same_int]
  congr 1
  simp only [List.cons.injEq, and_true, eq_iff_iff]
  exact Prod.ext_iff.symm
theorem enc_set (S : Cells) (k : Int × Int) (v : Int) : putD (encK k) (.int v) (encS S) = encS (setK S k v) := by
  have e : ((encS S).any fun p => same p.1 (encK k)) = S.any (fun e => decide (e.1 = k)) := by
    unfold encS
    rw [List.any_map]
    congr 1
    funext e
    exact same_encK e.1 k
  unfold putD setK
  rw [e]
  split
  · unfold encS
    rw [List.map_map, List.map_map]
    refine List.map_congr_left fun e _ => ?_
    simp only [Function.comp_apply, same_encK]
    by_cases q : e.1 = k <;> simp [q]
  · unfold encS
    simp
theorem setK_nodup {S : Cells} {k : Int × Int} {v : Int} (h : (S.map (·.1)).Nodup) : ((setK S k v).map (·.1)).Nodup := by
  unfold setK
  split
  · have e : (S.map fun e => if e.1 = k then (e.1, v) else e).map (·.1) = S.map (·.1) := by
      rw [List.map_map]
      refine List.map_congr_left fun e _ => ?_
      simp only [Function.comp_apply]
      split <;> rfl
    rw [e]; exact h
  · rename_i hn
    rw [List.map_append, List.map_cons, List.map_nil]
    refine List.nodup_append.mpr ⟨h, by simp, ?_⟩
    intro a ha b hb q
    rw [List.mem_singleton] at hb
    subst q hb
    obtain ⟨e, he, rfl⟩ := List.mem_map.mp ha
    exact hn (List.any_eq_true.mpr ⟨e, he, by simp⟩)
theorem setK_len (S : Cells) (k : Int × Int) (v : Int) : (setK S k v).length ≤ S.length + 1 := by
  unfold setK
  split <;> simp
theorem lookup_encS {S : Cells} (h : (S.map (·.1)).Nodup) : ∀ {e}, e ∈ S → PySem.Spec.lookup (encK e.1) (encS S) = some (.int e.2) := by
  induction S with
  | nil => intro e he; cases he
  | cons a r ih =>
    intro e he
    rw [List.map_cons, List.nodup_cons] at h
    show PySem.Spec.lookup (encK e.1) ((encK a.1, .int a.2) :: encS r) = _
    unfold PySem.Spec.lookup
    by_cases q : a.1 = e.1
    · rcases List.mem_cons.mp he with z | z
      · subst z; simp [same_encK]
      · exact absurd (List.mem_map.mpr ⟨e, z, q.symm⟩) h.1
    · rcases List.mem_cons.mp he with z | z
      · exact absurd (by rw [z]) q
      · have hs : same (encK a.1) (encK e.1) = false := by rw [same_encK]; exact decide_eq_false q
        have hs' : same (encK e.1) (encK a.1) = false := by rw [same_encK]; exact decide_eq_false fun z => q z.symm
        simp only [hs, hs', Bool.false_eq_true, if_false]
        exact ih h.2 z
/-- the dict of cells, keyed by tuples -/
noncomputable def CT (prog : Program) (w : World) (news : List (Addr × Obj)) (d : Addr) (S : Cells) : Prop := TupTab (intKind prog w) PyData.int news d (encS S) ∧ (S.map (·.1)).Nodup
noncomputable def KeyO (a b : Int) (o : Obj) : Prop := ∃ dt t1 t2 n sl, o = ⟨.type "tuple", dt, .seq #[.int a t1, .int b t2] n, sl⟩
section
variable {prog : Program} {w : World} {A : Around} {E : Value → Shared → Prop} {s : Shared} {h₀ h : Heap} {L d t : Addr} {m : Str → Option Value} {news news' : List (Addr × Obj)} {S : Cells} {a b : Int} {o : Obj}
theorem CT.mono (T : CT prog w news d S) (hs : ∀ q ∈ news, q ∈ news') : CT prog w news' d S := by
  obtain ⟨⟨lo, o, es, ep, xs, hm, hc, hd, he, hn, hk, hf⟩, nd⟩ := T
  exact ⟨⟨lo, o, es, ep, xs, hs _ hm, hc, hd, he, hn, fun x hx => let ⟨k, hmk, t⟩ := hk x hx; ⟨k, hs _ hmk, t⟩, hf⟩, nd⟩
theorem KeyO.tup {t1 t2 : Tok} : KeyO a b (tupObj [.int a t1, .int b t2]) := ⟨none, t1, t2, 0, #[], rfl⟩
theorem KeyO.key (k : KeyO a b o) : TupKeyObj (intKind prog w) [a, b] o := by
  obtain ⟨dt, t1, t2, n, sl, rfl⟩ := k
  exact ⟨rfl, _, n, rfl, .cons (intKind_is _ _ _ _) (.cons (intKind_is _ _ _ _) .nil)⟩
theorem isInt_of {k : Int} {v : Value} (h : (intKind prog w).is k v = true) : ∃ t, v = .int k t := by
  cases v <;> simp [intKind, Value.isInt] at h
  rename_i i t
  exact ⟨t, by rw [h]⟩
theorem KeyO.of (k : TupKeyObj (intKind prog w) [a, b] o) : KeyO a b o := by
  obtain ⟨oc, od, odat, osl⟩ := o
  obtain ⟨hc, items, n, hd, hi⟩ := k
  dsimp only at hc hd
  subst hc hd
  cases hz : items.toList with
  | nil => rw [hz] at hi; cases hi
  | cons v r =>
    rw [hz] at hi
    cases hi with
    | cons h1 h2 =>
      obtain ⟨t1, rfl⟩ := isInt_of h1
      cases h2 with
      | cons h3 h4 =>
        cases h4
        obtain ⟨t2, rfl⟩ := isInt_of h3
        have : items = #[.int a t1, .int b t2] := by rw [← Array.toList_inj, hz]
        subst this
        exact ⟨od, t1, t2, n, osl, rfl⟩
theorem flat_int {v : Value} {i : Int} (h : Flat v (.int i)) : ∃ t, v = .int i t := by
  have := h { objs := #[] }
  cases this
  exact ⟨_, rfl⟩
theorem ct_set {tv : Tok} {v : Int} {Q : Unit → Shared → Prop} (hu : A.units + 1 < cLine) (F : Fr h₀ L s.heap m) (N : News h₀ L s.heap news) (T : CT prog w news d S) (hka : (t, o) ∈ news) (tk : KeyO a b o) (hl : S.length ≤ 1000)
    (h : ∀ h' news', Fr h₀ L h' m → News h₀ L h' news' → CT prog w news' d (setK S (a, b) v) → (∀ p ∈ news, p.1 ≠ d → p ∈ news') → Q () { s with heap := h', toks := s.toks + 3 }) :
    wpAny (model prog w) A (setItem (.ref d) (.ref t) (.int v tv)) Q E s := by
  refine setItem_tupTab PyProof.V.same_int hu (Flat.int v tv) F N T.1 hka tk.key (fun h' news' F' N' T' _ kp => h h' news' F' N' ⟨?_, setK_nodup T.2⟩ kp) (by rw [sizeLine_eq]; unfold encS; rw [List.length_map]; omega)
  have e := enc_set S (a, b) v
  unfold encK at e
  rw [← e]; exact T'
theorem ct_item {value slice : PySem.Expr} {v : Int} {Q : Value → Shared → Prop} (hu : A.units + 1 < cLine) (N : News h₀ L s.heap news) (T : CT prog w news d S) (hka : (t, o) ∈ news) (tk : KeyO a b o) (he : ((a, b), v) ∈ S)
    (h : ∀ tv, Q (.int v tv) { s with toks := s.toks + 3 })
    (hs : subscripted slice false (.ref d) (.ref t) = operate [.ref d, .ref t] (getItem (.ref d) (.ref t)) := by with_unfolding_all rfl) (hg : ∀ r, letTemporaryGo value (.ref d) r = pure () := by intro _; with_unfolding_all rfl) :
    wpAny (model prog w) A (subscriptTail value slice (.ref d) (.ref t)) Q E s := by
  refine item_tupTab PyProof.V.same_int hu N T.1 hka tk.key (lookup_encS T.2 he) (fun x hx => ?_) hs hg
  obtain ⟨tv, rfl⟩ := flat_int hx
  exact h tv
theorem ct_raw (N : News h₀ L h news) (T : CT prog w news d S) : (d == sysModules) = false ∧ ∃ es ep, RawD h d es ep ∧ es.size = S.length ∧ (∃ o, (d, o) ∈ news) ∧
    ∀ (i : Nat) (e : DictEntry), es[i]? = some e → ∃ t ok a b v, e.key = .ref t ∧ (t, ok) ∈ news ∧ KeyO a b ok ∧ S[i]? = some ((a, b), v) := by
  obtain ⟨⟨lo, o, es, ep, xs, hm, hc, hd, he, hn, hk, hf⟩, nd⟩ := T
  have key : ∀ (xs : List (List Int × Addr × Value)) (S : Cells), FlatPairs (encTuple PyData.int) (kvsOf xs) (encS S) → xs.length = S.length ∧ ∀ (i : Nat) (x : List Int × Addr × Value), xs[i]? = some x → ∃ e : (Int × Int) × Int, S[i]? = some e ∧ encTuple PyData.int x.1 = encK e.1 := by
    intro xs
    induction xs with
    | nil =>
      intro S h
      cases S with
      | nil => exact ⟨rfl, fun i x hx => by simp at hx⟩
      | cons e r => cases h
    | cons x xs ih =>
      intro S h
      cases S with
      | nil => cases h
      | cons e r =>
        have h' : FlatPairs (encTuple PyData.int) ((x.1, x.2.2) :: kvsOf xs) ((encK e.1, .int e.2) :: encS r) := h
        generalize hq : encK e.1 = ke at h'
        cases h' with
        | cons h1 h2 =>
          obtain ⟨l1, l2⟩ := ih r h2
          refine ⟨by simp [l1], fun i y hy => ?_⟩
          cases i with
          | zero =>
            simp at hy
            subst hy
            exact ⟨e, rfl, hq.symm⟩
          | succ i => exact l2 i y (by simpa using hy)
  obtain ⟨l1, l2⟩ := key xs S hf
  have hsz : es.size = S.length := by rw [← Array.length_toList, he, List.length_map, l1]
  refine ⟨lo, es, ep, ⟨o, (N _ hm).1, hc, hd⟩, hsz, ⟨o, hm⟩, fun i e hi => ?_⟩
  have hi' : (xs.map (entryOfKey (tupleKind (intKind prog w))))[i]? = some e := by rw [← he]; simpa using hi
  rw [List.getElem?_map] at hi'
  obtain ⟨x, hx, rfl⟩ := Option.map_eq_some_iff.mp hi'
  obtain ⟨⟨⟨a, b⟩, v⟩, hS, hx1⟩ := l2 i x hx
  obtain ⟨ok, hok, tk⟩ := hk x (List.mem_of_getElem? hx)
  have hx2 : x.1 = [a, b] := by
    unfold encK encTuple at hx1
    injection hx1 with hx1
    have : ∀ (l r : List Int), l.map PyData.int = r.map PyData.int → l = r := by
      intro l
      induction l with
      | nil => intro r h; cases r with | nil => rfl | cons => simp at h
      | cons x l ih => intro r h; cases r with | nil => simp at h | cons y r => simp at h; rw [h.1, ih r (by simpa using h.2)]
    exact this _ _ hx1
  rw [hx2] at tk
  exact ⟨x.2.1, ok, a, b, v, rfl, hok, KeyO.of tk, hS⟩
end
end Mine
end N18
section N19
open PySem PySem.W PyProof.Rows PySem.Calls PySem.Spec PyProof.V
set_option maxRecDepth 100000
set_option maxHeartbeats 8000000
set_option autoImplicit false
namespace Mine
section
variable {prog : Program} {w : World} {A : Around} {E : Value → Shared → Prop} {s : Shared} {env : Env} {h₀ : Heap} {target : PySem.Expr} {body : List Stmt} {Q : Flow → Shared → Prop} {m₀ : Str → Option Value} {news : List (Addr × Obj)}
theorem iterG_raw {d : Addr} {es : Array DictEntry} {ep : Nat} (xs : List Str) (J : Nat → List (Addr × Obj) → Prop) (hh : A.handled = none) (F : Fr h₀ env.locals s.heap m₀) (N : News h₀ env.locals s.heap news)
    (hd : (d == sysModules) = false) (hm : RawD s.heap d es ep) (hdl : d ≠ env.locals) (hj : J 0 news)
    (turn : ∀ (i : Nat) (e : DictEntry) (u : Str → Option Value) news₁ h tk own I, es[i]? = some e → J i news₁ → (∀ p ∈ news₁, p.1 ≠ I) → (∀ p ∈ own, p.1 = I ∨ p.1 = d) → (∃ o, (I, o) ∈ own ∧ o.cls = .type "dict_keyiterator") → Fr h₀ env.locals h (over u xs m₀) → News h₀ env.locals h (own ++ news₁) →
      wpAny (model prog w) A (assign target env e.key) (fun _ s₂ => wpAny (model prog w) A (execs body env) (StepG h₀ env.locals xs m₀ [I] own (J (i + 1)) s Q) E s₂) E { s with heap := h, toks := tk })
    (done : ∀ h' tk u news', Fr h₀ env.locals h' (over u xs m₀) → News h₀ env.locals h' news' → J es.size news' → Q .next { s with heap := h', toks := tk }) :
    wpAny (model prog w) A (pyIter (.ref d)) (fun it s₂ => LoopG prog w A h₀ env target body Q E it s₂) E s := by
  refine raw_iter hd hm ?_
  have hlt : d < s.heap.objs.size := let ⟨o, ho, _⟩ := hm; Heap.lt_size ho
  have hne : d ≠ s.heap.objs.size := Nat.ne_of_lt hlt
  have W := walks_raw (prog := prog) (w := w) hh s.heap.objs.size d hne es ep
  refine ⟨xs, m₀, _, _, _, es.size, _, _, news, J, rfl, W, ?_, ?_, ?_, ⟨⟨_, Heap.get?_push_size _ rfl, rfl, rfl⟩, hm.keep fun o e => Heap.get?_push_of_some _ e⟩, F.push _, (fun p hp => ⟨Heap.get?_push_of_some _ (N p hp).1, (N p hp).2⟩), hj, ?_, fun h' tk u news' F' N' hJ => done h' tk u news' F' N' hJ⟩
  · intro hm
    rcases List.mem_cons.mp hm with e | hm
    · exact absurd F.ns.lt (e ▸ Nat.lt_irrefl _)
    · exact hdl (List.mem_singleton.mp hm).symm
  · intro b hb
    rw [List.mem_singleton.mp hb]
    exact next_is_new F
  · intro p hp hI
    exact absurd (Heap.lt_size (N p hp).1) ((List.mem_singleton.mp hI) ▸ Nat.lt_irrefl _)
  · rintro i v u news₁ h tk own hi ⟨e, he, rfl⟩ hJ hoff hsub hown hst F₁ N₁
    refine turn i e u news₁ h tk own _ he hJ (fun p hp q => hoff p hp (by rw [q]; exact List.mem_singleton.mpr rfl)) (fun p hp => by simpa using hsub p hp) ?_ F₁ N₁
    obtain ⟨o, ho, hc, _⟩ := hst.1
    exact ⟨_, hown _ (List.mem_cons.mpr (.inl rfl)) (next_is_new F) _ ho, hc⟩
theorem iterG_listC {l : Addr} {items : Array Value} (xs : List Str) (J : Nat → List (Addr × Obj) → Prop) (hh : A.handled = none) (F : Fr h₀ env.locals s.heap m₀) (N : News h₀ env.locals s.heap news)
    (hl : s.heap.IsList l items) (hll : l ≠ env.locals) (hj : J 0 news)
    (turn : ∀ (i : Nat) v (u : Str → Option Value) news₁ h tk own I, items[i]? = some v → J i news₁ → (∀ p ∈ news₁, p.1 ≠ I) → (∀ p ∈ own, p.1 = I ∨ p.1 = l) → (∃ o, (I, o) ∈ own ∧ o.cls = .type "list_iterator") → Fr h₀ env.locals h (over u xs m₀) → News h₀ env.locals h (own ++ news₁) →
      wpAny (model prog w) A (assign target env v) (fun _ s₂ => wpAny (model prog w) A (execs body env) (StepG h₀ env.locals xs m₀ [I] own (J (i + 1)) s Q) E s₂) E { s with heap := h, toks := tk })
    (done : ∀ h' tk u news', Fr h₀ env.locals h' (over u xs m₀) → News h₀ env.locals h' news' → J items.size news' → Q .next { s with heap := h', toks := tk }) :
    wpAny (model prog w) A (pyIter (.ref l)) (fun it s₂ => LoopG prog w A h₀ env target body Q E it s₂) E s := by
  refine wpAny_pyIter_list hl ?_
  obtain ⟨ol, hol, _⟩ := id hl
  have hne : l ≠ s.heap.objs.size := Nat.ne_of_lt (Heap.lt_size hol)
  have W := Walks.list (prog := prog) (w := w) hh s.heap.objs.size l hne items
  refine ⟨xs, m₀, _, _, _, items.size, _, _, news, J, rfl, W, ?_, ?_, ?_, ⟨⟨_, Heap.get?_push_size _ rfl, rfl, rfl⟩, hl.at fun o e => Heap.get?_push_of_some _ e⟩, F.push _, (fun p hp => ⟨Heap.get?_push_of_some _ (N p hp).1, (N p hp).2⟩), hj, ?_, fun h' tk u news' F' N' hJ => done h' tk u news' F' N' hJ⟩
  · intro hm
    rcases List.mem_cons.mp hm with e | hm
    · exact absurd F.ns.lt (e ▸ Nat.lt_irrefl _)
    · exact hll (List.mem_singleton.mp hm).symm
  · intro b hb
    rw [List.mem_singleton.mp hb]
    exact next_is_new F
  · intro p hp hI
    exact absurd (Heap.lt_size (N p hp).1) ((List.mem_singleton.mp hI) ▸ Nat.lt_irrefl _)
  · rintro i v u news₁ h tk own hi hP hJ hoff hsub hown hst F₁ N₁
    refine turn i v u news₁ h tk own _ hP hJ (fun p hp q => hoff p hp (by rw [q]; exact List.mem_singleton.mpr rfl)) (fun p hp => by simpa using hsub p hp) ?_ F₁ N₁
    obtain ⟨o, ho, hc, _⟩ := hst.1
    exact ⟨_, hown _ (List.mem_cons.mpr (.inl rfl)) (next_is_new F) _ ho, hc⟩
end
noncomputable def ixS (pg : Int) (k : Int × Int) : Int := (k.1 * pg + 4 * k.2).fdiv 4
noncomputable def cellsN (pg : Int) (S : Cells) : Nat → Cs
  | 0 => []
  | n + 1 => match S[n]? with
    | some e => putS (cellsN pg S n) (ixS pg e.1) e.2
    | none => cellsN pg S n
theorem cellsN_step {pg : Int} {S : Cells} {n : Nat} {e : (Int × Int) × Int} (h : S[n]? = some e) : cellsN pg S (n + 1) = putS (cellsN pg S n) (ixS pg e.1) e.2 := by
  show (match S[n]? with | some e => putS (cellsN pg S n) (ixS pg e.1) e.2 | none => cellsN pg S n) = _
  rw [h]
theorem putS_len (c : Cs) (i v : Int) : (putS c i v).length ≤ c.length + 1 := by
  unfold putS
  split
  · have := kdyDel_len c i; omega
  · have := kdfPut_len c i v; omega
theorem cellsN_len {pg : Int} {S : Cells} : ∀ n, (cellsN pg S n).length ≤ n
  | 0 => Nat.le_refl _
  | n + 1 => by
    have ih := cellsN_len (pg := pg) (S := S) n
    show (match S[n]? with | some e => putS (cellsN pg S n) (ixS pg e.1) e.2 | none => cellsN pg S n).length ≤ _
    split
    · have := putS_len (cellsN pg S n) (ixS pg (by assumption : (Int × Int) × Int).1) (by assumption : (Int × Int) × Int).2
      omega
    · omega
/-- cells that a board takes -/
noncomputable def OKC (S : Cells) : Prop := S.length ≤ 100 ∧ ∀ e ∈ S, (0 ≤ e.1.1 ∧ e.1.1 ≤ 3) ∧ (0 ≤ e.1.2 ∧ e.1.2 ≤ 3) ∧ 0 ≤ e.2 ∧ e.2 < 65536
theorem spot_ok {b pg en lg ed a c : Int} (ln : LayN b pg en lg ed) (ha : 0 ≤ a ∧ a ≤ 3) (hc : 0 ≤ c ∧ c ≤ 3) : (0 ≤ a * pg + 4 * c ∧ a * pg + 4 * c + 4 ≤ 4 * pg) ∧ (a * pg + 4 * c).fmod 4 = 0 ∧ 0 ≤ a * pg ∧ a * pg ≤ 768 := by
  rw [Int.fmod_eq_emod_of_nonneg _ (by decide)]
  have : a = 0 ∨ a = 1 ∨ a = 2 ∨ a = 3 := by omega
  have := (layN_n ln).1
  have := (layN_b ln).2
  rcases ‹a = 0 ∨ _› with rfl | rfl | rfl | rfl <;> omega
end Mine
end N19
section N20
open PySem PySem.W PyProof.Rows PySem.Calls PySem.Spec PyProof.V
set_option maxRecDepth 100000
set_option maxHeartbeats 8000000
set_option autoImplicit false
namespace Mine
/-- a board: its objects that never change -/
structure Brd (prog : Program) (w : World) (imm : List (Addr × Obj)) (brd lay mem bus str wal tab pgs wd : Addr) (b pg en lg ed : Int) (tl tt : Toks) : Prop where
  hlay : HasI imm lay 182 (layF b pg en lg ed tl)
  hmem : HasI imm mem 607 (memF pg wd tt)
  hbus : HasI imm bus 714 (busF mem str)
  hwal : HasI imm wal 266 (walF bus lay)
  htab : HasI imm tab 418 (tabF mem lay pgs)
  hbrd : ∃ o, (brd, o) ∈ imm ∧ o.IsDictOf (PySem.strKind prog w) [(Str.ofString "layout", .ref lay), (Str.ofString "memory", .ref mem), (Str.ofString "walker", .ref wal), (Str.ofString "table", .ref tab)]
theorem Brd.mono {prog : Program} {w : World} {imm imm' : List (Addr × Obj)} {brd lay mem bus str wal tab pgs wd : Addr} {b pg en lg ed : Int} {tl tt : Toks} (B : Brd prog w imm brd lay mem bus str wal tab pgs wd b pg en lg ed tl tt) (hs : ∀ q ∈ imm, q ∈ imm') :
    Brd prog w imm' brd lay mem bus str wal tab pgs wd b pg en lg ed tl tt := by
  obtain ⟨a, b, c, d, e, o, ho, hd⟩ := B
  exact ⟨a.mono hs, b.mono hs, c.mono hs, d.mono hs, e.mono hs, o, hs _ ho, hd⟩
theorem fm1 {P : Addr × Obj → Prop} {x : Addr × Obj} {r : List (Addr × Obj)} (h : P x) (hr : ∀ p ∈ r, P p) : ∀ p ∈ x :: r, P p := List.forall_mem_cons.mpr ⟨h, hr⟩
theorem mem13 {a1 a2 a3 a4 a5 a6 a7 a8 a9 a10 a11 a12 w : Addr × Obj} {r : List (Addr × Obj)} : ∀ q ∈ w :: ([a1, a2, a3, a4, a5, a6, a7, a8, a10, a11, a12, a9] ++ r), q ∈ a1 :: a2 :: a3 :: a4 :: a5 :: a6 :: a7 :: a8 :: w :: a10 :: a11 :: a12 :: a9 :: r := fun q h => by
  rcases List.mem_cons.mp h with e | h
  · rw [e]; exact .tail _ (.tail _ (.tail _ (.tail _ (.tail _ (.tail _ (.tail _ (.tail _ (.head _))))))))
  · rcases List.mem_append.mp (show q ∈ [a1, a2, a3, a4, a5, a6, a7, a8] ++ ([a10, a11, a12, a9] ++ r) from h) with h | h
    · exact List.mem_append_left (bs := w :: a10 :: a11 :: a12 :: a9 :: r) h
    · exact List.mem_append_right (as := [a1, a2, a3, a4, a5, a6, a7, a8]) (.tail _ h)
section
variable {prog : Program} {w : World} {h₀ h : Heap} {L d lay dlay mem dmem wd bus dbus l wal dwal tab dtab pgs : Addr} {o od : Obj} {H1 H2 H3 H4 H5 : Nat → Int} {T1 T2 T3 T4 T5 : Nat → Tok} {k1 k2 k3 k4 k5 : Nat} {tl tt : Toks} {b pg en lg ed : Int} {news : List (Addr × Obj)} {a1 a2 a3 a4 : Tok}
theorem brd_mk (N : News h₀ L h ((tab, instObj 418 dtab) :: (dtab, dictOf (mkEs H5 T5 0 (tabF mem lay pgs)) k5) :: (wal, instObj 266 dwal) :: (dwal, dictOf (mkEs H4 T4 0 (walF bus lay)) k4) :: (bus, instObj 714 dbus) :: (dbus, dictOf (mkEs H3 T3 0 (busF mem l)) k3) :: (l, W.listOf #[] 0) :: (d, od) :: (wd, o) ::
      (mem, instObj 607 dmem) :: (dmem, dictOf (mkEs H2 T2 0 (memF pg wd tt)) k2) :: (lay, instObj 182 dlay) :: (dlay, dictOf (mkEs H1 T1 0 (layF b pg en lg ed tl)) k1) :: news))
    (hd : od.IsDictOf (PySem.strKind prog w) (strPairs [(.str (Str.ofString "layout") a1, .ref lay), (.str (Str.ofString "memory") a2, .ref mem), (.str (Str.ofString "walker") a3, .ref wal), (.str (Str.ofString "table") a4, .ref tab)]))
    (l1a : AllLt dlay news) (l2a : dlay < lay) (l1b : lay < dmem ∧ dlay < dmem ∧ AllLt dmem news) (l2b : dmem < mem) (l3 : mem < wd ∧ dmem < wd ∧ lay < wd ∧ dlay < wd ∧ AllLt wd news)
    (ld : wd < d ∧ mem < d ∧ dmem < d ∧ lay < d ∧ dlay < d ∧ AllLt d news)
    (lb : d < dbus ∧ wd < dbus ∧ mem < dbus ∧ dmem < dbus ∧ lay < dbus ∧ dlay < dbus ∧ AllLt dbus news) (lb2 : dbus < bus)
    (ll : bus < l ∧ dbus < l ∧ d < l ∧ wd < l ∧ mem < l ∧ dmem < l ∧ lay < l ∧ dlay < l ∧ AllLt l news)
    (lw : bus < dwal ∧ dbus < dwal ∧ l < dwal ∧ d < dwal ∧ wd < dwal ∧ mem < dwal ∧ dmem < dwal ∧ lay < dwal ∧ dlay < dwal ∧ AllLt dwal news) (lw2 : dwal < wal)
    (lt : wal < dtab ∧ dwal < dtab ∧ bus < dtab ∧ dbus < dtab ∧ l < dtab ∧ d < dtab ∧ wd < dtab ∧ mem < dtab ∧ dmem < dtab ∧ lay < dtab ∧ dlay < dtab ∧ AllLt dtab news) (lt2 : dtab < tab) :
    ∃ imm, News h₀ L h ((wd, o) :: (imm ++ news)) ∧ Brd prog w imm d lay mem bus l wal tab pgs wd b pg en lg ed tl tt ∧ (∀ p ∈ imm, p.1 ≠ wd) ∧ AllLt wd news ∧ (∀ p ∈ imm, ∀ q ∈ news, q.1 < p.1) := by
  refine ⟨[(tab, instObj 418 dtab), (dtab, dictOf (mkEs H5 T5 0 (tabF mem lay pgs)) k5), (wal, instObj 266 dwal), (dwal, dictOf (mkEs H4 T4 0 (walF bus lay)) k4), (bus, instObj 714 dbus), (dbus, dictOf (mkEs H3 T3 0 (busF mem l)) k3), (l, W.listOf #[] 0), (d, od),
      (mem, instObj 607 dmem), (dmem, dictOf (mkEs H2 T2 0 (memF pg wd tt)) k2), (lay, instObj 182 dlay), (dlay, dictOf (mkEs H1 T1 0 (layF b pg en lg ed tl)) k1)], News.sub N mem13, ⟨?_, ?_, ?_, ?_, ?_, od, ?_, hd⟩, ?_, l3.2.2.2.2, ?_⟩
  · exact ⟨dlay, H1, T1, k1, .tail _ (.tail _ (.tail _ (.tail _ (.tail _ (.tail _ (.tail _ (.tail _ (.tail _ (.tail _ (.head _)))))))))), .tail _ (.tail _ (.tail _ (.tail _ (.tail _ (.tail _ (.tail _ (.tail _ (.tail _ (.tail _ (.tail _ (.head _)))))))))))⟩
  · exact ⟨dmem, H2, T2, k2, .tail _ (.tail _ (.tail _ (.tail _ (.tail _ (.tail _ (.tail _ (.tail _ (.head _)))))))), .tail _ (.tail _ (.tail _ (.tail _ (.tail _ (.tail _ (.tail _ (.tail _ (.tail _ (.head _)))))))))⟩
  · exact ⟨dbus, H3, T3, k3, .tail _ (.tail _ (.tail _ (.tail _ (.head _)))), .tail _ (.tail _ (.tail _ (.tail _ (.tail _ (.head _)))))⟩
  · exact ⟨dwal, H4, T4, k4, .tail _ (.tail _ (.head _)), .tail _ (.tail _ (.tail _ (.head _)))⟩
  · exact ⟨dtab, H5, T5, k5, .head _, .tail _ (.head _)⟩
  · exact .tail _ (.tail _ (.tail _ (.tail _ (.tail _ (.tail _ (.tail _ (.head _)))))))
  · have e1 : wd < wal := Nat.lt_trans lw.2.2.2.2.1 lw2
    have e2 : wd < bus := Nat.lt_trans lb.2.1 lb2
    have e3 : wd < tab := Nat.lt_trans lt.2.2.2.2.2.2.1 lt2
    exact (fm1 (Nat.ne_of_gt e3) (fm1 (Nat.ne_of_gt lt.2.2.2.2.2.2.1) (fm1 (Nat.ne_of_gt e1) (fm1 (Nat.ne_of_gt lw.2.2.2.2.1) (fm1 (Nat.ne_of_gt e2) (fm1 (Nat.ne_of_gt lb.2.1) (fm1 (Nat.ne_of_gt ll.2.2.2.1) (fm1 (Nat.ne_of_gt ld.1) (fm1 (Nat.ne_of_lt l3.1) (fm1 (Nat.ne_of_lt l3.2.1) (fm1 (Nat.ne_of_lt l3.2.2.1) (fm1 (Nat.ne_of_lt l3.2.2.2.1) (fun _ h => nomatch h)))))))))))))
  · have z1 := allLt_mem l1a
    have z2 := allLt_mem l1b.2.2
    have z4 := allLt_mem ld.2.2.2.2.2
    have z5 := allLt_mem lb.2.2.2.2.2.2
    have z6 := allLt_mem ll.2.2.2.2.2.2.2.2
    have z7 := allLt_mem lw.2.2.2.2.2.2.2.2.2
    have z8 := allLt_mem lt.2.2.2.2.2.2.2.2.2.2.2
    exact (fm1 (fun q hq => Nat.lt_trans (z8 q hq) lt2) (fm1 (fun q hq => z8 q hq) (fm1 (fun q hq => Nat.lt_trans (z7 q hq) lw2) (fm1 (fun q hq => z7 q hq) (fm1 (fun q hq => Nat.lt_trans (z5 q hq) lb2) (fm1 (fun q hq => z5 q hq) (fm1 (fun q hq => z6 q hq) (fm1 (fun q hq => z4 q hq) (fm1 (fun q hq => Nat.lt_trans (z2 q hq) l2b) (fm1 (fun q hq => z2 q hq) (fm1 (fun q hq => Nat.lt_trans (z1 q hq) l2a) (fm1 (fun q hq => z1 q hq) (fun _ h => nomatch h)))))))))))))
end
end Mine
end N20
section N21
open PySem PySem.W PyProof.Rows PySem.Calls PySem.Spec PyProof.V
set_option maxRecDepth 100000
set_option maxHeartbeats 8000000
set_option autoImplicit false
namespace Mine
noncomputable abbrev flS (n : Int) : Int := (n.fdiv 16).fmod 256
noncomputable abbrev frS (n : Int) : Int := (n.fdiv 4096).fmod 40
noncomputable abbrev shS (n : Int) : Int := (n.fdiv 163840).fmod 6
noncomputable def entStep (S : Cells) (n : Int) : Cells :=
  if shS n < 4 then setK (setK S (0, n.fmod 4) (1024 * (1 + n.fmod 3) + 1)) (1 + n.fmod 3, (n.fdiv 4).fmod 4) (1024 * frS n + flS n)
  else if shS n = 4 then setK S (0, n.fmod 4) (if Builtin.bitAnd (flS n) 11 = 1 then Builtin.bitOr (flS n) 2 else flS n)
  else setK S (0, n.fmod 4) (1024 * (1 + (frS n).fmod 3) + flS n)
noncomputable def entN (ns : List Int) : Nat → Cells
  | 0 => []
  | i + 1 => match ns[i]? with
    | some n => entStep (entN ns i) n
    | none => entN ns i
theorem entN_step {ns : List Int} {i : Nat} {n : Int} (h : ns[i]? = some n) : entN ns (i + 1) = entStep (entN ns i) n := by
  show (match ns[i]? with | some n => entStep (entN ns i) n | none => entN ns i) = _
  rw [h]
theorem entStep_len (S : Cells) (n : Int) : (entStep S n).length ≤ S.length + 2 := by
  unfold entStep
  split
  · have := setK_len (setK S (0, n.fmod 4) (1024 * (1 + n.fmod 3) + 1)) (1 + n.fmod 3, (n.fdiv 4).fmod 4) (1024 * frS n + flS n)
    have := setK_len S (0, n.fmod 4) (1024 * (1 + n.fmod 3) + 1)
    omega
  · split
    · have := setK_len S (0, n.fmod 4) (if Builtin.bitAnd (flS n) 11 = 1 then Builtin.bitOr (flS n) 2 else flS n)
      omega
    · have := setK_len S (0, n.fmod 4) (1024 * (1 + (frS n).fmod 3) + flS n)
      omega
theorem entN_len (ns : List Int) : ∀ i, (entN ns i).length ≤ 2 * i
  | 0 => Nat.le_refl _
  | i + 1 => by
    have ih := entN_len ns i
    cases h : ns[i]? with
    | none =>
      show (match ns[i]? with | some n => entStep (entN ns i) n | none => entN ns i).length ≤ _
      rw [h]
      show (entN ns i).length ≤ _
      omega
    | some n =>
      rw [entN_step h]
      have := entStep_len (entN ns i) n
      omega
theorem es1 {S : Cells} {n : Int} (h : shS n < 4) : entStep S n = setK (setK S (0, n.fmod 4) (1024 * (1 + n.fmod 3) + 1)) (1 + n.fmod 3, (n.fdiv 4).fmod 4) (1024 * frS n + flS n) := by unfold entStep; rw [if_pos h]
theorem es2 {S : Cells} {n : Int} (h : ¬ shS n < 4) (h2 : shS n = 4) (h3 : Builtin.bitAnd (flS n) 11 = 1) : entStep S n = setK S (0, n.fmod 4) (Builtin.bitOr (flS n) 2) := by unfold entStep; rw [if_neg h, if_pos h2, if_pos h3]
theorem es3 {S : Cells} {n : Int} (h : ¬ shS n < 4) (h2 : shS n = 4) (h3 : Builtin.bitAnd (flS n) 11 ≠ 1) : entStep S n = setK S (0, n.fmod 4) (flS n) := by unfold entStep; rw [if_neg h, if_pos h2, if_neg h3]
theorem es4 {S : Cells} {n : Int} (h : ¬ shS n < 4) (h2 : shS n ≠ 4) : entStep S n = setK S (0, n.fmod 4) (1024 * (1 + (frS n).fmod 3) + flS n) := by unfold entStep; rw [if_neg h, if_neg h2]
section
variable {prog : Program} {w : World} {h₀ h h' : Heap} {L I cd : Addr} {m₀ m' : Str → Option Value} {xs : List Str} {X Z own news news₁ : List (Addr × Obj)} {S : Cells} {s : Shared} {tk : Nat} {oI : Obj}
theorem ct_filter (T : CT prog w X cd S) (N : News h₀ L h X) (hI : (I, oI) ∈ X) (hc : oI.cls = .type "list_iterator") : CT prog w (X.filter fun p => decide (p.1 ≠ I)) cd S := by
  obtain ⟨⟨lo, o, es, ep, xs, hm, hcd, hd, he, hn, hk, hf⟩, nd⟩ := T
  have ne : ∀ a ob (n : String), (a, ob) ∈ X → ob.cls = .type n → n ≠ "list_iterator" → a ≠ I := fun a ob n hm hcl hne e => by
    subst e
    obtain rfl : ob = oI := Option.some.inj ((N _ hm).1.symm.trans (N _ hI).1)
    rw [hcl] at hc
    injection hc with hc
    exact hne hc
  refine ⟨⟨lo, o, es, ep, xs, List.mem_filter.mpr ⟨hm, decide_eq_true (ne _ _ _ hm hcd.1 (by decide))⟩, hcd, hd, he, hn, fun x hx => ?_, hf⟩, nd⟩
  obtain ⟨k, hmk, t⟩ := hk x hx
  exact ⟨k, List.mem_filter.mpr ⟨hmk, decide_eq_true (ne _ _ _ hmk t.1 (by decide))⟩, t⟩
theorem ent_next (F : Fr h₀ L h' m') (hm : ∀ y, xs.contains y = false → m' y = m₀ y) (N : News h₀ L h' Z) (T : CT prog w Z cd S) (kp : ∀ p ∈ own ++ news₁, p.1 ≠ cd → p ∈ Z)
    (hown : ∀ p ∈ own, p.1 ≠ cd) (hnews : ∀ q ∈ news, q ∈ news₁) (hncd : ∀ q ∈ news, q.1 ≠ cd) (hoff : ∀ p ∈ news₁, p.1 ≠ I) (hI : (I, oI) ∈ own) (hc : oI.cls = .type "list_iterator") :
    NextG h₀ L xs m₀ [I] own (fun news₁ => CT prog w news₁ cd S ∧ ∀ q ∈ news, q ∈ news₁) s { s with heap := h', toks := tk } := by
  have hIZ : (I, oI) ∈ Z := kp _ (List.mem_append_left _ hI) (hown _ hI)
  refine ⟨h', tk, m', Z.filter fun p => decide (p.1 ≠ I), rfl, F, hm, News.sub N fun q hq => ?_, fun p hp q => ?_, ct_filter T N hIZ hc, fun q hq => ?_⟩
  · rcases List.mem_append.mp hq with hq | hq
    · exact kp _ (List.mem_append_left _ hq) (hown _ hq)
    · exact (List.mem_filter.mp hq).1
  · exact of_decide_eq_true (List.mem_filter.mp hp).2 (List.mem_singleton.mp q)
  · exact List.mem_filter.mpr ⟨kp _ (List.mem_append_right _ (hnews q hq)) (hncd q hq), decide_eq_true (hoff _ (hnews q hq))⟩
end
end Mine
end N21
section N22
open PySem PySem.W PyProof.Rows PySem.Calls PySem.Spec PyProof.V
set_option maxRecDepth 100000
set_option maxHeartbeats 8000000
set_option autoImplicit false
namespace Mine
/-- a dict with texts as keys, in the ground -/
noncomputable def DictG (prog : Program) (w : World) (g : Heap) (d : Addr) (kvs : List (Str × Value)) : Prop := ∃ o, g.get? d = some o ∧ o.IsDictOf (PySem.strKind prog w) kvs
theorem DictG.keeps {prog : Program} {w : World} {g g' : Heap} {d : Addr} {kvs : List (Str × Value)} (D : DictG prog w g d kvs) (k : ∀ b o, g.get? b = some o → g'.get? b = some o) : DictG prog w g' d kvs := let ⟨o, ho, hd⟩ := D; ⟨o, k _ _ ho, hd⟩
theorem IsDictOf.slots {prog : Program} {w : World} {o : Obj} {kvs : List (Str × Value)} {sl : Array (Option Value)} (h : o.IsDictOf (PySem.strKind prog w) kvs) (e : sl = o.slots) : ({ o with slots := sl } : Obj).IsDictOf (PySem.strKind prog w) kvs := by subst e; exact h
section
variable {prog : Program} {w : World} {A : Around} {E : Value → Shared → Prop} {s : Shared} {g : Heap} {d L : Addr} {kvs : List (Str × Value)} {m : Str → Option Value}
theorem brd_item {value slice : PySem.Expr} {x : Str} {t : Tok} {v : Value} {Q : Value → Shared → Prop} (D : DictG prog w g d kvs) (F : Fr g L s.heap m) (hv : valueAt kvs x = some v) (h : Q v { s with toks := s.toks + 1 })
    (hs : subscripted slice false (.ref d) (.str x t) = operate [.ref d, .str x t] (getItem (.ref d) (.str x t)) := by with_unfolding_all rfl) :
    wpAny (model prog w) A (subscriptTail value slice (.ref d) (.str x t)) Q E s := by
  obtain ⟨o, ho, hd⟩ := D
  have hm : s.heap.DictOf (PySem.strKind prog w) d kvs := Heap.dictOf_iff.mpr ⟨o, F.keep _ _ ho, hd⟩
  exact tail_any hm.typeIs slot_dict_getitem.lookup (wpAny_getItem_of (strKind_is prog w x t) hm.mapOf hv h) hs
theorem Brd.dictG {imm : List (Addr × Obj)} {brd lay mem bus str wal tab pgs wd : Addr} {b pg en lg ed : Int} {tl tt : Toks} (B : Brd prog w imm brd lay mem bus str wal tab pgs wd b pg en lg ed tl tt) (hi : ∀ p ∈ imm, g.get? p.1 = some p.2) :
    DictG prog w g brd [(Str.ofString "layout", .ref lay), (Str.ofString "memory", .ref mem), (Str.ofString "walker", .ref wal), (Str.ofString "table", .ref tab)] := by
  obtain ⟨o, ho, hd⟩ := B.hbrd
  exact ⟨o, hi _ ho, hd⟩
end
theorem sound_v1 {e : Int} (h : soundS e = true) : v1S e = true := by
  unfold soundS at h
  unfold v1S
  exact (Bool.and_eq_true_iff.mp h).1
noncomputable def kindS (fl : Int) : Str := if fl.fmod 3 = 0 then Str.ofString "fetch" else if fl.fmod 3 = 1 then Str.ofString "load" else Str.ofString "store"
theorem kindS_is (fl : Int) : KindIs (kindS fl) := by
  unfold kindS
  split
  · exact .inl rfl
  · split
    · exact .inr (.inl rfl)
    · exact .inr (.inr rfl)
noncomputable def addS (fl : Int) : Int := if (fl.fdiv 7).fmod 4 = 0 then 2 else if (fl.fdiv 7).fmod 4 = 1 then 4 else if (fl.fdiv 7).fmod 4 = 2 then 64 else 16
noncomputable def takeS (fl : Int) : Int := if (fl.fdiv 28).fmod 4 = 0 then 0 else if (fl.fdiv 28).fmod 4 = 1 then 2 else if (fl.fdiv 28).fmod 4 = 2 then 8 else 128
noncomputable def mvS (fl : Int) : Int := if fl.fmod 5 = 0 then 2 else if fl.fmod 5 = 1 then 22 else if fl.fmod 5 = 2 then 8 else if fl.fmod 5 = 3 then 4 else 0
theorem addS_lt (fl : Int) : 0 ≤ addS fl ∧ addS fl < 1024 := by unfold addS; (repeat' split) <;> decide
theorem takeS_lt (fl : Int) : 0 ≤ takeS fl ∧ takeS fl < 1024 := by unfold takeS; (repeat' split) <;> decide
theorem mvS_lt (fl : Int) : 0 ≤ mvS fl ∧ mvS fl < 1024 := by unfold mvS; (repeat' split) <;> decide
section
variable {prog : Program} {w : World} {A : Around} {E : Value → Shared → Prop} {s : Shared} {h₀ : Heap} {l L : Addr} {news : List (Addr × Obj)} {k : Nat} {i fl : Int} {u : Tok}
theorem fm {a : Int} {n : Int} (hn : 0 < n) : 0 ≤ a.fmod n ∧ a.fmod n < n := ⟨Int.fmod_nonneg_of_pos a hn, Int.fmod_lt_of_pos a hn⟩
theorem menu3 {value slice : PySem.Expr} {t0 t1 t2 : Tok} {Q : Value → Shared → Prop} (N : News h₀ L s.heap news) (hm : (l, listOf #[.str (Str.ofString "fetch") t0, .str (Str.ofString "load") t1, .str (Str.ofString "store") t2] k) ∈ news)
    (h : ∀ t, Q (.str (kindS fl) t) s)
    (hs : subscripted slice false (.ref l) (.int (fl.fmod 3) u) = operate [.ref l, .int (fl.fmod 3) u] (getItem (.ref l) (.int (fl.fmod 3) u)) := by with_unfolding_all rfl) :
    wpAny (model prog w) A (subscriptTail value slice (.ref l) (.int (fl.fmod 3) u)) Q E s := by
  refine kba_turn (value' := PySem.Expr.Name (PySem.Str.ofString "_") ⟨0, 0, 0, 0⟩) (fun _ => rfl) ?_
  have b := fm (a := fl) (n := 3) (by decide)
  have c : fl.fmod 3 = 0 ∨ fl.fmod 3 = 1 ∨ fl.fmod 3 = 2 := by omega
  unfold kindS at h
  rcases c with e | e | e <;> rw [e] at h hs ⊢
  · exact item_list (News.isList N hm) (by decide) (by decide) (by rfl) (h t0) hs (fun _ => rfl)
  · exact item_list (News.isList N hm) (by decide) (by decide) (by rfl) (h t1) hs (fun _ => rfl)
  · exact item_list (News.isList N hm) (by decide) (by decide) (by rfl) (h t2) hs (fun _ => rfl)
theorem menuA {value slice : PySem.Expr} {t0 t1 t2 t3 : Tok} {Q : Value → Shared → Prop} (N : News h₀ L s.heap news) (hm : (l, listOf #[.int 2 t0, .int 4 t1, .int 64 t2, .int 16 t3] k) ∈ news)
    (h : ∀ t, Q (.int (addS fl) t) s)
    (hs : subscripted slice false (.ref l) (.int ((fl.fdiv 7).fmod 4) u) = operate [.ref l, .int ((fl.fdiv 7).fmod 4) u] (getItem (.ref l) (.int ((fl.fdiv 7).fmod 4) u)) := by with_unfolding_all rfl) :
    wpAny (model prog w) A (subscriptTail value slice (.ref l) (.int ((fl.fdiv 7).fmod 4) u)) Q E s := by
  refine kba_turn (value' := PySem.Expr.Name (PySem.Str.ofString "_") ⟨0, 0, 0, 0⟩) (fun _ => rfl) ?_
  have b := fm (a := fl.fdiv 7) (n := 4) (by decide)
  have c : (fl.fdiv 7).fmod 4 = 0 ∨ (fl.fdiv 7).fmod 4 = 1 ∨ (fl.fdiv 7).fmod 4 = 2 ∨ (fl.fdiv 7).fmod 4 = 3 := by omega
  unfold addS at h
  rcases c with e | e | e | e <;> rw [e] at h hs ⊢
  · exact item_list (News.isList N hm) (by decide) (by decide) (by rfl) (h t0) hs (fun _ => rfl)
  · exact item_list (News.isList N hm) (by decide) (by decide) (by rfl) (h t1) hs (fun _ => rfl)
  · exact item_list (News.isList N hm) (by decide) (by decide) (by rfl) (h t2) hs (fun _ => rfl)
  · exact item_list (News.isList N hm) (by decide) (by decide) (by rfl) (h t3) hs (fun _ => rfl)
theorem menuT {value slice : PySem.Expr} {t0 t1 t2 t3 : Tok} {Q : Value → Shared → Prop} (N : News h₀ L s.heap news) (hm : (l, listOf #[.int 0 t0, .int 2 t1, .int 8 t2, .int 128 t3] k) ∈ news)
    (h : ∀ t, Q (.int (takeS fl) t) s)
    (hs : subscripted slice false (.ref l) (.int ((fl.fdiv 28).fmod 4) u) = operate [.ref l, .int ((fl.fdiv 28).fmod 4) u] (getItem (.ref l) (.int ((fl.fdiv 28).fmod 4) u)) := by with_unfolding_all rfl) :
    wpAny (model prog w) A (subscriptTail value slice (.ref l) (.int ((fl.fdiv 28).fmod 4) u)) Q E s := by
  refine kba_turn (value' := PySem.Expr.Name (PySem.Str.ofString "_") ⟨0, 0, 0, 0⟩) (fun _ => rfl) ?_
  have b := fm (a := fl.fdiv 28) (n := 4) (by decide)
  have c : (fl.fdiv 28).fmod 4 = 0 ∨ (fl.fdiv 28).fmod 4 = 1 ∨ (fl.fdiv 28).fmod 4 = 2 ∨ (fl.fdiv 28).fmod 4 = 3 := by omega
  unfold takeS at h
  rcases c with e | e | e | e <;> rw [e] at h hs ⊢
  · exact item_list (News.isList N hm) (by decide) (by decide) (by rfl) (h t0) hs (fun _ => rfl)
  · exact item_list (News.isList N hm) (by decide) (by decide) (by rfl) (h t1) hs (fun _ => rfl)
  · exact item_list (News.isList N hm) (by decide) (by decide) (by rfl) (h t2) hs (fun _ => rfl)
  · exact item_list (News.isList N hm) (by decide) (by decide) (by rfl) (h t3) hs (fun _ => rfl)
theorem menuM {value slice : PySem.Expr} {t0 t1 t2 t3 t4 : Tok} {Q : Value → Shared → Prop} (N : News h₀ L s.heap news) (hm : (l, listOf #[.int 2 t0, .int 22 t1, .int 8 t2, .int 4 t3, .int 0 t4] k) ∈ news)
    (h : ∀ t, Q (.int (mvS fl) t) s)
    (hs : subscripted slice false (.ref l) (.int (fl.fmod 5) u) = operate [.ref l, .int (fl.fmod 5) u] (getItem (.ref l) (.int (fl.fmod 5) u)) := by with_unfolding_all rfl) :
    wpAny (model prog w) A (subscriptTail value slice (.ref l) (.int (fl.fmod 5) u)) Q E s := by
  refine kba_turn (value' := PySem.Expr.Name (PySem.Str.ofString "_") ⟨0, 0, 0, 0⟩) (fun _ => rfl) ?_
  have b := fm (a := fl) (n := 5) (by decide)
  have c : fl.fmod 5 = 0 ∨ fl.fmod 5 = 1 ∨ fl.fmod 5 = 2 ∨ fl.fmod 5 = 3 ∨ fl.fmod 5 = 4 := by omega
  unfold mvS at h
  rcases c with e | e | e | e | e <;> rw [e] at h hs ⊢
  · exact item_list (News.isList N hm) (by decide) (by decide) (by rfl) (h t0) hs (fun _ => rfl)
  · exact item_list (News.isList N hm) (by decide) (by decide) (by rfl) (h t1) hs (fun _ => rfl)
  · exact item_list (News.isList N hm) (by decide) (by decide) (by rfl) (h t2) hs (fun _ => rfl)
  · exact item_list (News.isList N hm) (by decide) (by decide) (by rfl) (h t3) hs (fun _ => rfl)
  · exact item_list (News.isList N hm) (by decide) (by decide) (by rfl) (h t4) hs (fun _ => rfl)
end
end Mine
end N22
section N23
open PySem PySem.W PyProof.Rows PySem.Calls PySem.Spec PyProof.V
set_option maxRecDepth 100000
set_option maxHeartbeats 8000000
set_option autoImplicit false
namespace Mine
theorem DictG.turn {prog : Program} {w : World} {g g' : Heap} {l : List Addr} {d : Addr} {kvs : List (Str × Value)} (D : DictG prog w g d kvs) (hn : d ∉ l) (k : KtsTurn l g g') : DictG prog w g' d kvs := by
  obtain ⟨o, ho, hd⟩ := D
  exact ⟨_, k.other _ _ ho hn, hd⟩
theorem not_frame {cn : Str} {cs : Scope} {L a : Addr} {cd : Value} {d : Addr} (h : d ≠ L) : d ∉ ([envOf cn cs L a cd].filterMap (·.frame)) := fun q => h (by
  rcases kts_mem q with z | z
  · exact z
  · simp at z)
section
variable {prog : Program} {w : World} {A₀ : Around} {E : Value → Shared → Prop} {s' : Shared} {base g g₀ G : Heap} {outer : List Env} {L a e C : Addr} {m : Str → Option Value} {name : Str} {scope : Scope} {cd : Value}
  {n : Option Str} {body : List Stmt} {pos : Pos} {rest : List ExceptHandler} {Q : Flow → Shared → Prop} {news : List (Addr × Obj)} {KF : Frag} {tt : PySem.Expr}
  {p : Program} {loose : List Str} {mean : ExcName → Option Value} {mg mb : Str → Option Value} {dx : Option Addr}
/-- a handler of another class is passed over -/
theorem passD (R : Thr base G (envOf name scope L a cd :: outer) e C dx news s'.heap) (F : Fr g L G m) (K : Below A₀ base outer g) (XB : KF.In base) (TB : Top p loose mean mg mb base)
    (T : KtsTest prog w KF p loose mg mb name scope L a cd (.ref C) tt false)
    (k : ∀ h', Thr base G (envOf name scope L a cd :: outer) e C dx news h' → wpAny (model prog w) (A₀.deeper (envOf name scope L a cd)) (handleBy (.ref e) (envOf name scope L a cd) rest) Q E { s' with heap := h' }) :
    wpAny (model prog w) (A₀.deeper (envOf name scope L a cd)) (handleBy (.ref e) (envOf name scope L a cd) (.ExceptHandler (some tt) n body pos :: rest)) Q E s' := by
  obtain ⟨R, hsm, oe, hoe, hcE, hdE⟩ := R
  have R' := R
  obtain ⟨B, a0, hB, hBG, hl, hfl⟩ := R'
  obtain ⟨g₅, T₅, F₅, K₅⟩ := kts_ground K F hBG hfl.1 hsm
  refine wpAny_handleBy_cons (codeAny_handlers_test (T _ _ _ _ g₅ e m F₅ (XB.keeps K₅.stays) (topRead_of (TB.keeps K₅.stays)) R.ty fun h' kp => ?_)) (by intro q; cases q)
  exact k h' ⟨R.keeps kp, hsm.trans (Heap.UpToSlots.of_keeps kp), oe, kp _ _ hoe, hcE, hdE⟩
theorem hitD0 {b₀ : Stmt} {suite : List Stmt} (R : Thr base G (envOf name scope L a cd :: outer) e C dx news s'.heap) (F : Fr g L G m) (K : Below A₀ base outer g) (XB : KF.In base) (TB : Top p loose mean mg mb base)
    (D : KtsDicts (outer.filterMap (·.frame)) g) (T0 : KtsTurn (outer.filterMap (·.frame)) g₀ g) (T : KtsTest prog w KF p loose mg mb name scope L a cd (.ref C) tt true)
    (k : ∀ h' g', KtsTurn (outer.filterMap (·.frame)) g₀ g' → Fr g' L h' m → News g' L h' news → Below A₀ base outer g' → KF.In g' → Top p loose mean mg mb g' → KtsDicts (outer.filterMap (·.frame)) g' →
      wpAny (model prog w) ((A₀.deeper (envOf name scope L a cd)).mark (some (.ref e))) (execs (b₀ :: suite) (envOf name scope L a cd)) Q E { s' with heap := h' })
    (hE : PassesOwnAt (model prog w) ((A₀.deeper (envOf name scope L a cd)).mark (some (.ref e))) (A₀.deeper (envOf name scope L a cd)) (envOf name scope L a cd) E := by passes_own) :
    wpAny (model prog w) (A₀.deeper (envOf name scope L a cd)) (handleBy (.ref e) (envOf name scope L a cd) (.ExceptHandler (some tt) none (b₀ :: suite) pos :: rest)) Q E s' :=
  hit_SN0 R.R F K R.U XB TB D T0 T k hE
end
/-- what a place is told as -/
noncomputable def seenD (pg v : Int) : PyData := .tuple [.int (v.fdiv pg), .int ((v.fmod pg * 16).fdiv pg)]
noncomputable def argD : PyData := .list [.str (Str.ofString "argument")]
noncomputable abbrev trA (b pg en lg ad fl : Int) (c : Cs) : Option (Int × Cs) := trS b pg en lg ad c (kindS fl) ((fl.fdiv 3).fmod 2) (((fl.fdiv 6).fmod 4).fmod 2) (((fl.fdiv 6).fmod 4).fdiv 2)
noncomputable def trapD (b pg en ad fl : Int) : PyData := .list [.str (Str.ofString "trap"), .int (pfS (kindS fl)), .tuple [.int (pF b ad), .int (pS b en ad)], .int ((pO pg ad * 16).fdiv pg)]
noncomputable def optD (pg : Int) : Option Int → PyData
  | none => .none
  | some v => seenD pg v
noncomputable def ask0 (b pg en lg ad fl : Int) (c : Cs) : PyData × Cs := match trA b pg en lg ad fl c with
  | some (v, c') => (.list [seenD pg v, .bool true], c')
  | none => (trapD b pg en ad fl, c)
noncomputable def ask1 (b pg en lg ad : Int) (c : Cs) : PyData × Cs := (.list [.int (enS b en ad c), optD pg (phS b en pg lg ad c)], c)
noncomputable def ask2 (b pg en ad : Int) (c : Cs) : PyData × Cs :=
  if npS b en (downS pg ad) c = true then (.list [.int ((physS b (e2S b en (downS pg ad) c)).fdiv pg)], putS c ((p2S b en (downS pg ad) c).fdiv 4) 0) else (argD, c)
noncomputable def ask3 (b pg en ad fl : Int) (c : Cs) : PyData × Cs :=
  if (npS b en (downS pg ad) c && nfS (cfS (e2S b en (downS pg ad) c) (addS fl) (takeS fl))) = true then
    (.list [.int (Builtin.bitOr (chS (e2S b en (downS pg ad) c) (addS fl) (takeS fl)) 1)], putS c ((p2S b en (downS pg ad) c).fdiv 4) (Builtin.bitOr (chS (e2S b en (downS pg ad) c) (addS fl) (takeS fl)) 1)) else (argD, c)
noncomputable def ask4 (b pg en ad fl : Int) (c : Cs) : PyData × Cs :=
  if (npS b en (downS pg ad) c && nfS (mvS fl)) = true then
    (.list [.int ((physS b (e2S b en (downS pg ad) c)).fdiv pg)], putS c ((p2S b en (downS pg ad) c).fdiv 4) (entS b ((fl.fdiv 5).fmod 40 * pg) (Builtin.bitOr (mvS fl) 1))) else (argD, c)
noncomputable def askS (b pg en lg ad fl way : Int) (c : Cs) : PyData × Cs :=
  if way = 0 then ask0 b pg en lg ad fl c else if way = 1 then ask1 b pg en lg ad c else if way = 2 then ask2 b pg en ad c else if way = 3 then ask3 b pg en ad fl c else ask4 b pg en ad fl c
/-- what stands in a ledger reads as d -/
noncomputable def RI (res : List (Addr × Obj)) (v : Value) (d : PyData) : Prop := ∀ h : Heap, (∀ p ∈ res, h.get? p.1 = some p.2) → ∃ as, Reads h v d as
noncomputable def RIs (res : List (Addr × Obj)) (vs : List Value) (ds : List PyData) : Prop := ∀ h : Heap, (∀ p ∈ res, h.get? p.1 = some p.2) → ∃ as, ReadsAll h vs ds as
section
variable {res : List (Addr × Obj)} {a : Addr} {v : Value} {d : PyData} {vs : List Value} {ds : List PyData}
theorem RI.mono {res' : List (Addr × Obj)} (r : RI res v d) (hs : ∀ q ∈ res, q ∈ res') : RI res' v d := fun h hk => r h fun p hp => hk p (hs p hp)
theorem RI.int (i : Int) (t : Tok) : RI res (.int i t) (.int i) := fun _ _ => ⟨_, .int i t⟩
theorem RI.str (x : Str) (t : Tok) : RI res (.str x t) (.str x) := fun _ _ => ⟨_, .str x t⟩
theorem RI.bool (b : Bool) : RI res (.bool b) (.bool b) := fun _ _ => ⟨_, .bool b⟩
theorem RI.none : RI res .none .none := fun _ _ => ⟨_, .none⟩
theorem RIs.nil : RIs res [] [] := fun _ _ => ⟨_, .nil⟩
theorem RIs.cons (r : RI res v d) (rs : RIs res vs ds) : RIs res (v :: vs) (d :: ds) := fun h hk => by
  obtain ⟨as, ra⟩ := r h hk
  obtain ⟨bs, rb⟩ := rs h hk
  exact ⟨as ++ bs, .cons ra rb⟩
theorem RI.tup (hm : (a, tupObj vs) ∈ res) (r : RIs res vs ds) : RI res (.ref a) (.tuple ds) := fun h hk => by
  obtain ⟨as, ra⟩ := r h hk
  exact ⟨as, .tuple (hk _ hm) rfl rfl (by rw [List.toList_toArray]; exact ra)⟩
theorem RI.list {o : Obj} {A : Array Value} {k : Nat} (hm : (a, o) ∈ res) (hc : o.cls = .type "list") (hd : o.data = .seq A k) (r : RIs res A.toList ds) : RI res (.ref a) (.list ds) := fun h hk => by
  obtain ⟨as, ra⟩ := r h hk
  exact ⟨a :: as, .list (hk _ hm) hc hd ra⟩
end
end Mine
end N23
section N24
open PySem PySem.W PyProof.Rows PySem.Calls PySem.Spec PyProof.V
set_option maxRecDepth 100000
set_option maxHeartbeats 8000000
set_option autoImplicit false
namespace Mine
theorem no_some {α : Type} {x : α} {P : Prop} (h : none = some x) : P := nomatch h
theorem no_none {α : Type} {x : α} {P : Prop} (h : some x = none) : P := nomatch h
structure TrIs (b pg en lg ad fl : Int) (c : Cs) (x : Option (Int × Cs)) : Prop where
  to : trA b pg en lg ad fl c = x
section
variable {b pg en lg ed ad fl : Int} {c : Cs}
theorem phys_lt {e : Int} (ln : LayN b pg en lg ed) (he : 0 ≤ e ∧ e < 65536) : 0 ≤ physS b e ∧ physS b e < 65536 := by
  have z : e.fdiv (2 ^ Int.toNat 10) = e / 1024 := by rw [show (2 : Int) ^ Int.toNat 10 = 1024 from by decide]; exact Int.fdiv_eq_ediv_of_nonneg _ (by decide)
  unfold physS
  rw [z]
  rcases pow_cases (layN_b ln).1 with ⟨e, _⟩ | ⟨e, _⟩ | ⟨e, _⟩ | ⟨e, _⟩ | ⟨e, _⟩ <;> rw [e] <;> omega
theorem tr_lt {k : Str} {mode sm mx v : Int} {c' : Cs} (ln : LayN b pg en lg ed) (hc : ∀ i, 0 ≤ kdfLook c i 0 ∧ kdfLook c i 0 < 65536) (h : trS b pg en lg ad c k mode sm mx = some (v, c')) : 0 ≤ v ∧ v < 65536 := by
  have b1 := bitAnd_range ad (y := lg - 1) (by have := layN_b ln; omega)
  have b2 := bitAnd_range ad (y := pg - 1) (by have := layN_b ln; omega)
  have := layN_b ln
  unfold trS at h
  (repeat' split at h) <;> first | (cases h; done) | (injection h with h; injection h with h1 h2; subst h1; first | exact or_lt (phys_lt ln (hc _)) ⟨b1.1, by omega⟩ | exact or_lt (phys_lt ln (hc _)) ⟨b2.1, by show Builtin.bitAnd _ _ < _; omega⟩)
theorem ph_lt {v : Int} (ln : LayN b pg en lg ed) (hc : ∀ i, 0 ≤ kdfLook c i 0 ∧ kdfLook c i 0 < 65536) (h : phS b en pg lg ad c = some v) : 0 ≤ v ∧ v < 65536 := by
  have b1 := bitAnd_range ad (y := lg - 1) (by have := layN_b ln; omega)
  have b2 := bitAnd_range ad (y := pg - 1) (by have := layN_b ln; omega)
  have := layN_b ln
  unfold phS at h
  split at h
  · cases h
  · injection h with h1
    subst h1
    split
    · exact or_lt (phys_lt ln (en_lt hc)) ⟨b1.1, by omega⟩
    · exact or_lt (phys_lt ln (en_lt hc)) ⟨b2.1, by show Builtin.bitAnd _ _ < _; omega⟩
theorem ph_lt32 {v : Int} (ln : LayN b pg en lg ed) (hc : ∀ i, 0 ≤ kdfLook c i 0 ∧ kdfLook c i 0 < 65536) (h : phS b en pg lg ad c = some v) : 0 ≤ v ∧ v < 4294967296 := by have := ph_lt ln hc h; omega
theorem tr_lt32 {k : Str} {mode sm mx v : Int} {c' : Cs} (ln : LayN b pg en lg ed) (hc : ∀ i, 0 ≤ kdfLook c i 0 ∧ kdfLook c i 0 < 65536) (h : trS b pg en lg ad c k mode sm mx = some (v, c')) : 0 ≤ v ∧ v < 4294967296 := by have := tr_lt ln hc h; omega
theorem layN_pow (ln : LayN b pg en lg ed) : ∃ k : Nat, pg = 2 ^ k := by
  rcases ln with ⟨rfl, rfl, rfl, rfl, rfl⟩ | ⟨rfl, rfl, rfl, rfl, rfl⟩ | ⟨rfl, rfl, rfl, rfl, rfl⟩ | ⟨rfl, rfl, rfl, rfl, rfl⟩ | ⟨rfl, rfl, rfl, rfl, rfl⟩
  · exact ⟨4, rfl⟩
  · exact ⟨5, rfl⟩
  · exact ⟨6, rfl⟩
  · exact ⟨7, rfl⟩
  · exact ⟨8, rfl⟩
theorem mvp_ok (ln : LayN b pg en lg ed) : 0 ≤ (fl.fdiv 5).fmod 40 * pg ∧ (fl.fdiv 5).fmod 40 * pg < 40 * pg := by
  have h := fm (a := fl.fdiv 5) (n := 40) (by decide)
  have := (layN_b ln).2.1
  exact ⟨Int.mul_nonneg h.1 (by omega), Int.mul_lt_mul_of_pos_right h.2 (by omega)⟩
theorem mvp_pO (ln : LayN b pg en lg ed) : pO pg ((fl.fdiv 5).fmod 40 * pg) = 0 := by
  obtain ⟨k, rfl⟩ := layN_pow ln
  unfold pO
  rw [kbt_mask]
  exact Int.mul_emod_left _ _
theorem part_lt {part : Int} (ln : LayN b pg en lg ed) (hp : 0 ≤ part ∧ part < 16) : 0 ≤ (part * pg).fdiv 16 ∧ (part * pg).fdiv 16 < 256 := by
  rw [Int.fdiv_eq_ediv_of_nonneg _ (by decide)]
  rcases ln with ⟨rfl, rfl, rfl, rfl, rfl⟩ | ⟨rfl, rfl, rfl, rfl, rfl⟩ | ⟨rfl, rfl, rfl, rfl, rfl⟩ | ⟨rfl, rfl, rfl, rfl, rfl⟩ | ⟨rfl, rfl, rfl, rfl, rfl⟩ <;> omega
theorem ask0_s {v : Int} {c' : Cs} (h : TrIs b pg en lg ad fl c (some (v, c'))) : ask0 b pg en lg ad fl c = (.list [seenD pg v, .bool true], c') := by unfold ask0; rw [h.to]
theorem ask0_n (h : TrIs b pg en lg ad fl c none) : ask0 b pg en lg ad fl c = (trapD b pg en ad fl, c) := by unfold ask0; rw [h.to]
theorem ask1_n (h : phS b en pg lg ad c = none) : ask1 b pg en lg ad c = (.list [.int (enS b en ad c), .none], c) := by unfold ask1; rw [h]; rfl
theorem ask1_s {v : Int} (h : phS b en pg lg ad c = some v) : ask1 b pg en lg ad c = (.list [.int (enS b en ad c), seenD pg v], c) := by unfold ask1; rw [h]; rfl
theorem ask2_t (h : npS b en (downS pg ad) c = true) : ask2 b pg en ad c = (.list [.int ((physS b (e2S b en (downS pg ad) c)).fdiv pg)], putS c ((p2S b en (downS pg ad) c).fdiv 4) 0) := by unfold ask2; rw [if_pos h]
theorem ask2_f (h : npS b en (downS pg ad) c = false) : ask2 b pg en ad c = (argD, c) := by unfold ask2; rw [if_neg (by rw [h]; decide)]
theorem ask3_t (h : npS b en (downS pg ad) c = true) (h2 : nfS (cfS (e2S b en (downS pg ad) c) (addS fl) (takeS fl)) = true) : ask3 b pg en ad fl c = (.list [.int (Builtin.bitOr (chS (e2S b en (downS pg ad) c) (addS fl) (takeS fl)) 1)], putS c ((p2S b en (downS pg ad) c).fdiv 4) (Builtin.bitOr (chS (e2S b en (downS pg ad) c) (addS fl) (takeS fl)) 1)) := by unfold ask3; rw [if_pos (by rw [h, h2]; rfl)]
theorem ask3_f (h : (npS b en (downS pg ad) c && nfS (cfS (e2S b en (downS pg ad) c) (addS fl) (takeS fl))) = false) : ask3 b pg en ad fl c = (argD, c) := by unfold ask3; rw [if_neg (by rw [h]; decide)]
theorem ask4_t (h : npS b en (downS pg ad) c = true) (h2 : nfS (mvS fl) = true) : ask4 b pg en ad fl c = (.list [.int ((physS b (e2S b en (downS pg ad) c)).fdiv pg)], putS c ((p2S b en (downS pg ad) c).fdiv 4) (entS b ((fl.fdiv 5).fmod 40 * pg) (Builtin.bitOr (mvS fl) 1))) := by unfold ask4; rw [if_pos (by rw [h, h2]; rfl)]
theorem ask4_f (h : (npS b en (downS pg ad) c && nfS (mvS fl)) = false) : ask4 b pg en ad fl c = (argD, c) := by unfold ask4; rw [if_neg (by rw [h]; decide)]
end
theorem sub12 {a b : Addr × Obj} {r : List (Addr × Obj)} : ∀ q ∈ r, q ∈ a :: b :: r := fun _ h => .tail _ (.tail _ h)
theorem sub13 {a b c : Addr × Obj} {r : List (Addr × Obj)} : ∀ q ∈ r, q ∈ a :: b :: c :: r := fun _ h => .tail _ (.tail _ (.tail _ h))
section
variable {res imm : List (Addr × Obj)} {l : Addr} {wd : Addr} {h₀ h : Heap} {L : Addr} {own : List (Addr × Obj)} {o : Obj}
/-- the last item of a list is no false -/
noncomputable def LastOk (res : List (Addr × Obj)) (l : Addr) : Prop := ∃ (B : Array Value) (z : Value) (k : Nat), (l, W.listOf (B.push z) k) ∈ res ∧ (z = .bool true ∨ ∃ n t, z = .int n t)
theorem news_res (N : News h₀ L h own) (NI : News h₀ L h imm) (hs : ∀ q ∈ (wd, o) :: res, q ∈ own) : News h₀ L h ((wd, o) :: (res ++ imm)) := fun p hp => by
  rcases List.mem_cons.mp hp with hp | hp
  · exact N _ (hs _ (List.mem_cons.mpr (.inl hp)))
  · rcases List.mem_append.mp hp with hp | hp
    · exact N _ (hs _ (List.mem_cons_of_mem _ hp))
    · exact NI _ hp
end
/-- what a call needs where an exception is being handled -/
structure CtxM (w : World) (p : Program) (loose : List Str) (mean : ExcName → Option Value) (mg mb : Str → Option Value) (A A₀ : Around) (env : Env) (outer : List Env) (base h₀ : Heap) (L : Addr) (h : Heap) (m : Str → Option Value) (news : List (Addr × Obj)) : Prop where
  B : Below A₀ base outer h₀
  F : Fr h₀ L h m
  X : (K w.params).In h₀
  N : News h₀ L h news
  T : Top p loose mean mg mb h₀
  hA : A.frames = some (env :: outer)
  hf : env.frame = some L
  hke : env.scope.kind = .function
section
variable {prog : Program} {w : World} {p : Program} {loose : List Str} {mean : ExcName → Option Value} {mg mb : Str → Option Value} {A A₀ : Around} {env : Env} {outer : List Env} {base h₀ : Heap} {L : Addr} {m : Str → Option Value} {s : Shared} {news : List (Addr × Obj)} {R : Result → Shared → Prop}
theorem enterM (binds : List (Str × Value)) {name qual : Str} {params : Arguments} {body : List Stmt} {scope : Scope} {dV kV doc pm cdv ct oc : Value} {an od : Option Addr} {osl : Array (Option Value)} {f : Addr} {args : Args}
    (C : CtxM w p loose mean mg mb A A₀ env outer base h₀ L s.heap m news)
    (ho : (K w.params).lookup f = some ⟨oc, od, .func (fnOf name qual params body scope dV kV doc pm an cdv ct), osl⟩) (hcd : codeIn (K w.params) cdv qual = true) (hroom : A.depth < recursionLimit)
    (hbind : BindsTo s (fnOf name qual params body scope dV kV doc pm an cdv ct) args binds) (hloc : ∀ y ∈ binds, scope.names.lookup y.1 = some .local)
    (hco : scope.isCoroutine = false) (hgen : scope.isGenerator = false) (hk : scope.kind = .function)
    (hcell : ∀ x ∈ scope.names, x.2 ≠ .cell)
    (h : ∀ g L' h₁ tk, Fr h₀ L g m → Fr g L' h₁ (fun y => binds.reverse.lookup y) → News g L' h₁ news → Below A base (env :: outer) g → (K w.params).In g → Top p loose mean mg mb g →
      wpAny (model prog w) (A.deeper (envOf qual scope L' f cdv)) (execs body (envOf qual scope L' f cdv))
        (fun fl s' => LeaveK h₀ L m g R (match fl with | .ret v => v | _ => .none) s')
        (fun e s' => wpAny (model prog w) (A.deeper (envOf qual scope L' f cdv)) (leaving (envOf qual scope L' f cdv) e) (fun _ s'' => R (.error e) s'') (fun e' s'' => R (.error e') s'') s')
        { s with heap := h₁, toks := tk }) : codeAny (model prog w) A (.call (.ref f) args) R s := by
  obtain ⟨B, F, X, N, T, hA, hf, hke⟩ := C
  exact code_def B F X N T hA hf hke ho hcd hroom hbind hloc (fun g L' h₁ a b c d e f => h g L' h₁ _ a b c d e f) hco hgen hk hcell
end
end Mine
end N24
section N25
open PySem PySem.W PyProof.Rows PySem.Calls PySem.Spec PyProof.V
set_option maxRecDepth 100000
set_option maxHeartbeats 8000000
set_option autoImplicit false
namespace Mine
section
variable {prog : Program} {w : World} {A : Around} {E : Value → Shared → Prop} {s : Shared} {h₀ : Heap} {L : Addr} {m : Str → Option Value} {news : List (Addr × Obj)}
theorem applied_two {sl : Addr} {u : Tok} {Q : Int × Int × Nat → Shared → Prop} (hs : s.heap.IsSliceOf sl .none (.int 2 u) .none) (h : Q (0, 1, 2) s) :
    wpAny (model prog w) A (Builtin.Slice.sliceApplied (.ref sl) (pure (3 : Int))) Q E s := by
  obtain ⟨os, hos, hcs, hds⟩ := id hs
  unfold Builtin.Slice.sliceApplied Builtin.Slice.sliceFields
  refine wpAny_bind (wpAny_bind (wpAny_field hos hds (x := .none) rfl (wpAny_bind (wpAny_field hos hds (x := .int 2 u) rfl (wpAny_bind (wpAny_field hos hds (x := .none) rfl (wpAny_pure ?_)))))))
  refine wpAny_bind (slicePart_none ?_)
  show wpAny _ _ (if ((1 : Int) == 0) = true then _ else _) _ _ s
  rw [if_neg (by decide)]
  refine wpAny_bind (slicePart_none (wpAny_bind (slicePart_int (wpAny_bind (wpAny_pure ?_)))))
  exact wpAny_pure h
theorem getItem_two {t sl : Addr} {x y z : Value} {u : Tok} {Q : Value → Shared → Prop} (ht : IsTup s.heap t #[x, y, z]) (hs : s.heap.IsSliceOf sl .none (.int 2 u) .none)
    (h : Q (.ref s.heap.objs.size) { s with heap := s.heap.push (tupObj [x, y]) }) : wpAny (model prog w) A (getItem (.ref t) (.ref sl)) Q E s := by
  have hdrop : sizeOk (.seq [x, y].toArray) := by
    show (2 : Nat) ≤ sizeLine
    rw [sizeLine_eq]
    exact Nat.le_of_ble_eq_true rfl
  obtain ⟨os, hos, hcs, hds⟩ := id hs
  have hTs : s.TypeIs (.ref sl) "slice" := ⟨os, hos, hcs⟩
  unfold getItem
  try with_reducible refine wpAny_holding ?_
  first | refine wpAny_bind (wpAny_pure ?_) | skip
  refine wpAny_bind (wpAny_sequenceKey ht.typeIs (by decide) ?_)
  refine wpAny_bind (wpAny_callSpecial?_slot (name := Str.ofString "__getitem__") ht.typeIs slot_tuple_getitem
    (wpAny_call_entry slot_tuple_getitem ht.typeIs entry_tuple_getitem ?_ (args_tuple_getitem _ _)))
  show wpAny _ _ (Builtin.Tuple.tupleItemsOf (.ref t) >>= _) _ _ s
  refine wpAny_bind (tupleItemsOf_ ht ?_)
  refine wpAny_bind (wpAny_typeOf hTs ?_)
  rw [if_pos (by decide)]
  refine wpAny_bind (applied_two hs ?_)
  show wpAny _ _ (if ((0 : Int) == 0 && (1 : Int) == 1 && (2 : Nat) == 3) = true then _ else _) _ _ s
  rw [if_neg (show ¬ (((0 : Int) == 0 && (1 : Int) == 1 && (2 : Nat) == 3) = true) by decide)]
  have e3 : (List.filterMap (fun (k : Nat) => (#[x, y, z] : Array Value)[((0 : Int) + (k : Int) * 1).toNat]?) (List.range 2)).toArray = [x, y].toArray := rfl
  rw [e3]
  first
    | exact wpAny_bind (m := Builtin.Tuple.tupleExact _) (wpAny_newObj_type (wpAny_pure ⟨_, rfl, wpAny_pure h⟩) hdrop)
    | exact wpAny_bind (m := Builtin.Tuple.tupleExact _) (wpAny_newObj_type (wpAny_bind (wpAny_pure (wpAny_pure ⟨_, rfl, wpAny_pure h⟩))) hdrop)
    | exact wpAny_bind (wpAny_bind (m := Builtin.Tuple.tupleExact _) (wpAny_newObj_type (wpAny_pure (wpAny_pure ⟨_, rfl, wpAny_pure h⟩)) hdrop))
    | exact wpAny_bind (wpAny_bind (m := Builtin.Tuple.tupleExact _) (wpAny_newObj_type (wpAny_pure ⟨_, rfl, wpAny_pure h⟩) hdrop))
theorem slice_two {value slice : PySem.Expr} {t : Addr} {x y z : Value} {u : Tok} {Q : Value → Shared → Prop}
    (F : Fr h₀ L s.heap m) (N : News h₀ L s.heap news) (ht : IsTup s.heap t #[x, y, z])
    (h : ∀ D h', Fr h₀ L h' m → News h₀ L h' ((D, tupObj [x, y]) :: news) → (∀ p ∈ news, p.1 < D) → Q (.ref D) { s with heap := h' })
    (hs : subscripted slice false (.ref t) (.ref s.heap.objs.size) = operate [.ref s.heap.objs.size, .ref t] (getItem (.ref t) (.ref s.heap.objs.size)) := by with_unfolding_all rfl)
    (hg : ∀ r, letTemporaryGo value (.ref t) r = pure () := by intro _; with_unfolding_all rfl) :
    wpAny (model prog w) A (subscriptTail value slice (.ref t) (.ref s.heap.objs.size)) Q E { s with heap := s.heap.push { cls := .type "slice", data := .fields #[.none, .int 2 u, .none] } } := by
  have ht' : IsTup (s.heap.push { cls := .type "slice", data := .fields #[.none, .int 2 u, .none] }) t #[x, y, z] := ht.keeps fun _ _ e => Heap.get?_push_of_some _ e
  refine subscriptTail_ops (s := { s with heap := s.heap.push { cls := .type "slice", data := .fields #[.none, .int 2 u, .none] } }) ht'.typeIs slot_tuple_getitem.lookup
    (getItem_two ht' (Heap.IsSliceOf.new ..) ?_) hs hg
  have N1 := News.push (F.push { cls := .type "slice", data := .fields #[.none, .int 2 u, .none] }) (N.grown fun _ _ e => Heap.get?_push_of_some _ e) (tupObj [x, y])
  rw [Heap.size_push] at N1
  show Q (.ref (s.heap.push _).objs.size) _
  rw [Heap.size_push]
  exact h _ _ ((F.push _).push _) N1 fun p hp => Nat.lt_succ_of_lt (Heap.lt_size (N p hp).1)
end
section
variable {w a b d e f x : Addr × Obj} {r : List (Addr × Obj)}
theorem own1 : ∀ q ∈ w :: a :: [], q ∈ a :: w :: r := fun q h => by simp only [List.mem_cons, List.not_mem_nil, or_false] at h ⊢; grind
theorem own2 : ∀ q ∈ w :: a :: b :: [], q ∈ a :: b :: w :: r := fun q h => by simp only [List.mem_cons, List.not_mem_nil, or_false] at h ⊢; grind
theorem own3 : ∀ q ∈ w :: a :: [], q ∈ a :: d :: w :: r := fun q h => by simp only [List.mem_cons, List.not_mem_nil, or_false] at h ⊢; grind
theorem own4 : ∀ q ∈ w :: a :: b :: [], q ∈ a :: b :: x :: e :: d :: w :: r := fun q h => by simp only [List.mem_cons, List.not_mem_nil, or_false] at h ⊢; grind
theorem own5 : ∀ q ∈ w :: a :: [], q ∈ a :: d :: e :: w :: r := fun q h => by simp only [List.mem_cons, List.not_mem_nil, or_false] at h ⊢; grind
theorem own6 : ∀ q ∈ w :: a :: [], q ∈ a :: d :: e :: f :: w :: r := fun q h => by simp only [List.mem_cons, List.not_mem_nil, or_false] at h ⊢; grind
theorem off_nil {wd : Addr} : ∀ p ∈ ([] : List (Addr × Obj)), p.1 ≠ wd := fun p hp => nomatch hp
theorem off_cons {wd l : Addr} {o : Obj} {r : List (Addr × Obj)} (h : wd < l) (hr : ∀ p ∈ r, p.1 ≠ wd) : ∀ p ∈ (l, o) :: r, p.1 ≠ wd := List.forall_mem_cons.mpr ⟨Nat.ne_of_gt h, hr⟩
theorem RI.bool_t {res : List (Addr × Obj)} {b : Bool} (h : b = true) : RI res (.bool b) (.bool true) := by subst h; exact RI.bool _
end
section
variable {g g' h : Heap} {L : Addr} {own res imm : List (Addr × Obj)} {wo : Addr × Obj} {fs : List Addr}
theorem disj_res (N : News g L h own) (HI : ∀ p ∈ imm, g.get? p.1 = some p.2) (hs : ∀ q ∈ wo :: res, q ∈ own) : ∀ p ∈ res, ∀ q ∈ imm, q.1 ≠ p.1 := fun p hp q hq e => by
  have h1 := (N _ (hs _ (List.mem_cons_of_mem _ hp))).2.2
  rw [← e, HI q hq] at h1
  cases h1
theorem disj_resT (T : KtsTurn fs g g') (N : News g' L h own) (HI : ∀ p ∈ imm, g.get? p.1 = some p.2) (hs : ∀ q ∈ wo :: res, q ∈ own) : ∀ p ∈ res, ∀ q ∈ imm, q.1 ≠ p.1 := fun p hp q hq e => by
  have h1 := (N _ (hs _ (List.mem_cons_of_mem _ hp))).2.2
  obtain ⟨sl, h2⟩ := T.up (HI q hq)
  rw [← e, h2] at h1
  cases h1
end
end Mine
end N25
section N26
open PySem PySem.W PyProof.Rows PySem.Calls PySem.Spec PyProof.V
set_option maxRecDepth 100000
set_option maxHeartbeats 8000000
set_option autoImplicit false
namespace Mine
section
variable {prog : Program} {w : World} {p : Program} {loose : List Str} {mean : ExcName → Option Value} {mg mb : Str → Option Value} {A A₀ : Around} {env : Env} {outer : List Env} {base h₀ : Heap} {L : Addr} {m : Str → Option Value} {s : Shared} {news : List (Addr × Obj)} {R : Result → Shared → Prop}
/-- a def one of whose names is a cell -/
theorem enterC (binds : List (Str × Value)) {name qual : Str} {params : Arguments} {body : List Stmt} {scope : Scope} {dV kV doc pm cdv ct oc : Value} {an od : Option Addr} {osl : Array (Option Value)} {f : Addr} {args : Args}
    (C : Ctx w p loose mean mg mb A A₀ env outer base h₀ L s.heap m news)
    (ho : (K w.params).lookup f = some ⟨oc, od, .func (fnOf name qual params body scope dV kV doc pm an cdv ct), osl⟩) (hcd : codeIn (K w.params) cdv qual = true) (hroom : A.depth < recursionLimit)
    (hbind : BindsTo s (fnOf name qual params body scope dV kV doc pm an cdv ct) args binds) (hkind : (binds.all fun y => scope.names.lookup y.1 == some .local || scope.names.lookup y.1 == some .cell) = true)
    (hnd : ((cellsFrom 0 scope.names []).map (·.1)).Nodup) (hco : scope.isCoroutine = false) (hgen : scope.isGenerator = false) (hk : scope.kind = .function)
    (h : ∀ g L' h₁ tk cells, Fr h₀ L g m → Fr g L' h₁ (bindL (envOfC qual scope L' f cdv).kindOf binds fun _ => none) → News g L' h₁ (cells ++ news) →
      CellsAre (bindC (envOfC qual scope L' f cdv).kindOf binds fun _ => none) (cellsFrom (L' + 1) scope.names []) cells → Below A base (env :: outer) g → (K w.params).In g → Top p loose mean mg mb g → (∀ p ∈ news, p.1 < L') →
      wpAny (model prog w) (A.deeper (envOfC qual scope L' f cdv)) (execs body (envOfC qual scope L' f cdv))
        (fun fl s' => LeaveK h₀ L m g R (match fl with | .ret v => v | _ => .none) s')
        (fun e s' => wpAny (model prog w) (A.deeper (envOfC qual scope L' f cdv)) (leaving (envOfC qual scope L' f cdv) e) (fun _ s'' => R (.error e) s'') (fun e' s'' => R (.error e') s'') s')
        { s with heap := h₁, toks := tk }) : codeAny (model prog w) A (.call (.ref f) args) R s := by
  obtain ⟨B, F, X, N, T, hA, hf, hke, hh⟩ := C
  exact code_defC B F X N T hA hf hke ho hcd hroom hbind hkind hnd h hco hgen hk
end
section
open LCg
variable {prog : Program} {w : World} {A : Around} {s : Shared} {h₀ : Heap} {L : Addr} {m : Str → Option Value} {env : Env} {elt : PySem.Expr} {x x₂ : Str} {scope : Scope} {cl : List (Str × Addr)} {S : List (Addr × Obj) → Prop} {P : Nat → Value → Prop} {Fin : List Value → List (Addr × Obj) → Prop} {news : List (Addr × Obj)} {n : Nat}
/-- what an item of a comprehension ends in -/
noncomputable def EndC (h₀ : Heap) (L : Addr) (m : Str → Option Value) (s₁ : Shared) (I : Addr) (oI : Obj) (C : Addr) (oC : Obj) (D : Addr) (oD : Obj) (S : List (Addr × Obj) → Prop) (rest : Value → List (Addr × Obj) → Prop) (y : Value) (s₂ : Shared) : Prop :=
  ∃ h' tk news', s₂ = { s₁ with heap := h', toks := tk } ∧ Fr h₀ L h' m ∧ News h₀ L h' ((I, oI) :: (C, oC) :: (D, oD) :: news') ∧ (∀ p ∈ news', p.1 ≠ I ∧ p.1 ≠ C ∧ p.1 ≠ D) ∧ S news' ∧ rest y news'
theorem EndC.to {s₁ s₂ : Shared} {I C D : Addr} {oI oC oD : Obj} {rest rest' : Value → List (Addr × Obj) → Prop} {y : Value} (h : EndC h₀ L m s₁ I oI C oC D oD S rest y s₂) (k : ∀ nw, rest y nw → rest' y nw) : CompEnd h₀ L m s₁ I oI C oC D oD S rest' y s₂ := by
  obtain ⟨h', tk, nw, e, F, N, o, hS, r⟩ := h
  exact ⟨h', tk, nw, e, F, N, Off3.of o, hS, k _ r⟩
theorem comp_inv (J : Nat → List Value → List (Addr × Obj) → Prop) (h0 : J 0 [] news)
    (turn : ∀ i v ys news I oI C oC D m₂ h tk (E' : Value → Shared → Prop), i < n → P i v → J i ys news → NsObj oC m₂ → m₂ x = some v → Fr h₀ L h m → News h₀ L h ((I, oI) :: (C, oC) :: (D, lst ys) :: news) → (∀ p ∈ news, p.1 ≠ I ∧ p.1 ≠ C ∧ p.1 ≠ D) →
      wpAny (model prog w) A (eval elt (compEnvC scope cl C env)) (EndC h₀ L m { s with heap := h, toks := tk } I oI C oC D (lst ys) S (fun y news' => J (i + 1) (ys ++ [y]) news')) E' { s with heap := h, toks := tk })
    (fin : ∀ ys news', J n ys news' → Fin ys news') : CompRest prog w A h₀ L m env elt x scope cl s S P Fin n 0 [] news := by
  have key : ∀ k i ys nw, i + k = n → J i ys nw → CompRest prog w A h₀ L m env elt x scope cl s S P Fin k i ys nw := by
    intro k
    induction k with
    | zero =>
      intro i ys nw e hj
      have : i = n := by omega
      subst this
      exact CompRest.zero (fin _ _ hj)
    | succ k ih =>
      intro i ys nw e hj
      refine CompRest.succ fun v I oI C oC D m₂ h tk E' hp hC hx F N off ne => ?_
      exact wpAny_mono (turn i v ys nw I oI C oC D m₂ h tk E' (by omega) hp hj hC hx F N off.mem) (fun y s₂ q => q.to fun nw' r => ih (i + 1) _ _ (by omega) r) fun _ _ z => z
  exact key n 0 [] news (by omega) h0
theorem comp_invP (J : Nat → List Value → List (Addr × Obj) → Prop) (h0 : J 0 [] news)
    (turn : ∀ i v ys news, i < n → P i v → J i ys news → ∃ (t : Addr) (ot : Obj) (v₁ v₂ : Value) (nt : Nat), v = .ref t ∧ (t, ot) ∈ news ∧ ot.cls = .type "tuple" ∧ ot.data = .seq #[v₁, v₂] nt ∧
      ∀ I oI C oC D m₂ h tk (E' : Value → Shared → Prop), NsObj oC m₂ → m₂ x = some v₁ → m₂ x₂ = some v₂ → Fr h₀ L h m → News h₀ L h ((I, oI) :: (C, oC) :: (D, lst ys) :: news) → (∀ p ∈ news, p.1 ≠ I ∧ p.1 ≠ C ∧ p.1 ≠ D) →
      wpAny (model prog w) A (eval elt (compEnvC scope cl C env)) (EndC h₀ L m { s with heap := h, toks := tk } I oI C oC D (lst ys) S (fun y news' => J (i + 1) (ys ++ [y]) news')) E' { s with heap := h, toks := tk })
    (fin : ∀ ys news', J n ys news' → Fin ys news') : LCp.CompRestP prog w A h₀ L m env elt x x₂ scope cl s S P Fin n 0 [] news := by
  have key : ∀ k i ys nw, i + k = n → J i ys nw → LCp.CompRestP prog w A h₀ L m env elt x x₂ scope cl s S P Fin k i ys nw := by
    intro k
    induction k with
    | zero =>
      intro i ys nw e hj
      have : i = n := by omega
      subst this
      exact LCp.CompRestP.zero (fin _ _ hj)
    | succ k ih =>
      intro i ys nw e hj
      refine LCp.CompRestP.succ fun v hp => ?_
      obtain ⟨t, ot, v1, v2, nt, e1, e2, e3, e4, turn'⟩ := turn i v ys nw (by omega) hp hj
      refine ⟨t, ot, v1, v2, nt, e1, e2, e3, e4, fun I oI C oC D m₂ h tk E' hC hx hx2 F N off ne => ?_⟩
      exact wpAny_mono (turn' I oI C oC D m₂ h tk E' hC hx hx2 F N off.mem) (fun y s₂ q => q.to fun nw' r => ih (i + 1) _ _ (by omega) r) fun _ _ z => z
  exact key n 0 [] news (by omega) h0
end
section
open LCg
variable {prog : Program} {w : World} {A : Around} {E : Value → Shared → Prop} {s : Shared} {h₀ : Heap} {L : Addr} {m : Str → Option Value} {env : Env} {elt iter : PySem.Expr} {x x₂ : Str} {scope : Scope} {cl : List (Str × Addr)} {Q : Value → Shared → Prop} {px px₂ tp pos : Pos} {tk : Nat}
noncomputable def SrcO (prog : Program) (w : World) (A : Around) (h₀ : Heap) (L : Addr) (m : Str → Option Value) (env : Env) (elt : PySem.Expr) (x : Str) (scope : Scope) (cl : List (Str × Addr)) (Q : Value → Shared → Prop) (xv : Value) (s₁ : Shared) : Prop :=
  CompSrc prog w A h₀ L m env elt x scope cl (fun s₂ => FinE h₀ L m s₂ Q) xv s₁
noncomputable def SrcOP (prog : Program) (w : World) (A : Around) (h₀ : Heap) (L : Addr) (m : Str → Option Value) (env : Env) (elt : PySem.Expr) (x x₂ : Str) (scope : Scope) (cl : List (Str × Addr)) (Q : Value → Shared → Prop) (xv : Value) (s₁ : Shared) : Prop :=
  LCp.SrcLP prog w A h₀ L m env elt x x₂ scope cl (fun s₂ => FinE h₀ L m s₂ Q) xv s₁
theorem listComp_O (F₀ : Fr h₀ L s.heap m)
    (hclos : closureFor scope env = pure cl) (hcell : ∀ y ∈ scope.names, y.2 ≠ .cell) (hkind : scope.kind = .function)
    (hnames : ∀ y ∈ scope.names, y.2 = .local → scope.names.lookup y.1 = some .local) (hx : scope.names.lookup x = some .local)
    (h : wpAny (model prog w) A (eval iter env) (SrcO prog w A h₀ L m env elt x scope cl Q) E s)
    (hs : ∀ x, foldedSetIterable iter env x = pure x := by intro _; rfl) :
    wpAny (model prog w) A (eval (.ListComp elt [⟨.Name x px, iter, [], 0⟩] scope pos) env) Q E s := LCg.ListComp_U F₀ hclos hcell hkind hnames hx h hs
theorem listComp_OP (F₀ : Fr h₀ L s.heap m)
    (hclos : closureFor scope env = pure cl) (hcell : ∀ y ∈ scope.names, y.2 ≠ .cell) (hkind : scope.kind = .function)
    (hnames : ∀ y ∈ scope.names, y.2 = .local → scope.names.lookup y.1 = some .local) (hx : scope.names.lookup x = some .local) (hx₂ : scope.names.lookup x₂ = some .local) (hxx : x ≠ x₂)
    (h : wpAny (model prog w) A (eval iter env) (SrcOP prog w A h₀ L m env elt x x₂ scope cl Q) E s)
    (hs : ∀ x, foldedSetIterable iter env x = pure x := by intro _; rfl) :
    wpAny (model prog w) A (eval (.ListComp elt [⟨.Tuple [.Name x px, .Name x₂ px₂] tk tp, iter, [], 0⟩] scope pos) env) Q E s := LCp.ListComp_P F₀ hclos hcell hkind hnames hx hx₂ hxx h hs
theorem SrcO.ledger {ax : Addr} {its : Array Value} {k : Nat} {news : List (Addr × Obj)} {s₁ : Shared} (hh : A.handled = none) (F : Fr h₀ L s₁.heap m) (N : News h₀ L s₁.heap news) (hm : (ax, PySem.W.listOf its k) ∈ news) (hsz : its.size ≤ sizeLine)
    (h : ∀ g, CompRest prog w A h₀ L m env elt x scope cl { s₁ with heap := g } (SrcAt h₀ ax its) (fun i v => its[i]? = some v) (FinE h₀ L m { s₁ with heap := g } Q) its.size 0 [] news) :
    SrcO prog w A h₀ L m env elt x scope cl Q (.ref ax) s₁ := CompSrc.ledger hh F N hm hsz h
theorem SrcOP.ledger {ax : Addr} {its : Array Value} {k : Nat} {news : List (Addr × Obj)} {s₁ : Shared} (hh : A.handled = none) (F : Fr h₀ L s₁.heap m) (N : News h₀ L s₁.heap news) (hm : (ax, PySem.W.listOf its k) ∈ news) (hsz : its.size ≤ sizeLine)
    (h : ∀ g, LCp.CompRestP prog w A h₀ L m env elt x x₂ scope cl { s₁ with heap := g } (SrcAt h₀ ax its) (fun i v => its[i]? = some v) (FinE h₀ L m { s₁ with heap := g } Q) its.size 0 [] news) :
    SrcOP prog w A h₀ L m env elt x x₂ scope cl Q (.ref ax) s₁ := LCp.SrcLP.ledger hh F N hm hsz h
end
/-- the keys of a dict of ints, put in order -/
theorem keysD_ints : ∀ (c : Cs) (Cn : List Value → Prop), (∀ vs, IntsAre vs (c.map (·.1)) → Cn vs) → KdlKeysD (kdfD c) Cn
  | [], Cn, h => h [] .nil
  | q :: r, Cn, h => fun v hv => by
    obtain ⟨t, rfl⟩ := Flat.int_inv hv
    exact keysD_ints r _ fun vs hvs => h _ (.cons _ _ hvs)
section
variable {prog : Program} {w : World} {A : Around} {E : Value → Shared → Prop} {s : Shared} {h₀ : Heap} {L d : Addr} {m : Str → Option Value} {news : List (Addr × Obj)} {o : Obj} {c : Cs}
theorem w_sorted (Wd : WD prog w d o c) (hh : A.handled = none) (F : Fr h₀ L s.heap m) (N : News h₀ L s.heap news) (hp : (d, o) ∈ news) (h64 : c.length < 64) {Q : Value → Shared → Prop}
    (h : ∀ B vs ks k h' tk, Fr h₀ L h' m → News h₀ L h' ((B, PySem.W.listOf vs.toArray k) :: news) → (∀ q ∈ news, q.1 < B) → IntsAre vs ks → ks.Perm (c.map (·.1)) → ks.Pairwise (· ≤ ·) → Q (.ref B) { s with heap := h', toks := tk }) :
    wpAny (model prog w) A (call (.builtin "sorted") [.ref d]) Q E s := by
  refine kdu_sortedD (fun k v hk => ?_) hh F N (w_tab Wd N hp) (by rw [kdfD_length]; omega) fun B h' tk => keysD_ints c _ fun vs hvs F' N' l1 => ?_
  · obtain ⟨t, rfl⟩ : ∃ t, v = .int k t := by
      cases v <;> simp [intKind, Value.isInt] at hk
      subst hk
      exact ⟨_, rfl⟩
    exact .int _ _
  · have hlen : (c.map (·.1)).length < 64 := by rw [List.length_map]; exact h64
    exact ksk_lsort (news' := fun o => (B, o) :: news) F' N' (fun o => Upd.head fun p hp => Nat.ne_of_lt (l1 p hp)) (by rw [List.toList_toArray]) hvs hlen fun vs' ks k h2 F2 N2 hI _ hp hs _ => h B vs' ks k h2 tk F2 N2 l1 hI hp hs
end
end Mine
end N26
section N27
open PySem PySem.W PyProof.Rows PySem.Calls PySem.Spec PyProof.V
set_option maxRecDepth 100000
set_option maxHeartbeats 8000000
set_option autoImplicit false
namespace Mine
section
variable {prog : Program} {w : World} {A : Around} {E : Value → Shared → Prop} {s : Shared} {h₀ : Heap} {L d : Addr} {m : Str → Option Value} {news : List (Addr × Obj)} {o : Obj} {c : Cs}
theorem w_item (Wd : WD prog w d o c) (N : News h₀ L s.heap news) (hp : (d, o) ∈ news) {k : Int} {tk : Tok} (hk : kdfHas c k = true) {value slice : PySem.Expr} {Q : Value → Shared → Prop} (h : ∀ t, Q (.int (kdfLook c k 0) t) { s with toks := s.toks + 1 })
    (hs : subscripted slice false (.ref d) (.int k tk) = operate [.ref d, .int k tk] (getItem (.ref d) (.int k tk)) := by with_unfolding_all rfl) (hg : ∀ r, letTemporaryGo value (.ref d) r = pure () := by intro _; with_unfolding_all rfl) :
    wpAny (model prog w) A (subscriptTail value slice (.ref d) (.int k tk)) Q E s := kdf_item (w_tab Wd N hp) hk h hs hg
end
/-- pairs of ints that stand as tuples -/
noncomputable def PairAt (tl : List (Addr × Obj)) (v : Value) (r : Int × Int) : Prop := ∃ t t1 t2, v = .ref t ∧ (t, tupObj [.int r.1 t1, .int r.2 t2]) ∈ tl
noncomputable def PairsAt (tl : List (Addr × Obj)) : List Value → List (Int × Int) → Prop
  | [], [] => True
  | v :: vs, d :: ds => PairAt tl v d ∧ PairsAt tl vs ds
  | _, _ => False
theorem PairAt.mono {tl tl' : List (Addr × Obj)} {v : Value} {r : Int × Int} (h : PairAt tl v r) (hs : ∀ q ∈ tl, q ∈ tl') : PairAt tl' v r := by
  obtain ⟨t, t1, t2, e, hm⟩ := h
  exact ⟨t, t1, t2, e, hs _ hm⟩
theorem PairsAt.mono {tl tl' : List (Addr × Obj)} : ∀ {vs : List Value} {D : List (Int × Int)}, PairsAt tl vs D → (∀ q ∈ tl, q ∈ tl') → PairsAt tl' vs D
  | [], [], _, _ => trivial
  | _ :: _, _ :: _, h, hs => ⟨h.1.mono hs, h.2.mono hs⟩
  | [], _ :: _, h, _ => h.elim
  | _ :: _, [], h, _ => h.elim
theorem PairsAt.append {tl : List (Addr × Obj)} : ∀ {vs vs' : List Value} {D D' : List (Int × Int)}, PairsAt tl vs D → PairsAt tl vs' D' → PairsAt tl (vs ++ vs') (D ++ D')
  | [], _, [], _, _, h' => h'
  | _ :: _, _, _ :: _, _, h, h' => ⟨h.1, h.2.append h'⟩
  | [], _, _ :: _, _, h, _ => h.elim
  | _ :: _, _, [], _, h, _ => h.elim
theorem PairsAt.get {tl : List (Addr × Obj)} : ∀ {vs : List Value} {D : List (Int × Int)} (i : Nat) {v : Value}, PairsAt tl vs D → vs[i]? = some v → ∃ r, D[i]? = some r ∧ PairAt tl v r
  | v :: _, d :: _, 0, _, h, e => ⟨d, rfl, by have : v = _ := Option.some.inj e; exact this ▸ h.1⟩
  | _ :: _, _ :: _, i + 1, _, h, e => PairsAt.get i h.2 e
  | [], [], _, _, _, e => by simp at e
  | [], _ :: _, _, _, h, _ => h.elim
  | _ :: _, [], _, _, h, _ => h.elim
theorem PairsAt.len {tl : List (Addr × Obj)} : ∀ {vs : List Value} {D : List (Int × Int)}, PairsAt tl vs D → vs.length = D.length
  | [], [], _ => rfl
  | _ :: _, _ :: _, h => by simp [h.2.len]
  | [], _ :: _, h => h.elim
  | _ :: _, [], h => h.elim
noncomputable abbrev memF2 (c : Cs) (k : Int) : Int × Int := (k * 2 ^ Int.toNat 2, kdfLook c k 0)
theorem has_of_perm {c : Cs} {ks : List Int} (p : ks.Perm (c.map (·.1))) {k : Int} (h : k ∈ ks) : kdfHas c k = true := by
  have h2 := p.mem_iff.mp h
  obtain ⟨q, hq, rfl⟩ := List.mem_map.mp h2
  exact List.any_eq_true.mpr ⟨q, hq, by simp⟩
theorem key_of_perm {c : Cs} {ks : List Int} (p : ks.Perm (c.map (·.1))) (hb : ∀ q ∈ c, 0 ≤ q.1 ∧ q.1 < 256) {k : Int} (h : k ∈ ks) : 0 ≤ k ∧ k < 256 := by
  have h2 := p.mem_iff.mp h
  obtain ⟨q, hq, rfl⟩ := List.mem_map.mp h2
  exact hb q hq
theorem take_succ {α β : Type} {l : List α} {i : Nat} {a : α} (f : α → β) (h : l[i]? = some a) : (l.take (i + 1)).map f = (l.take i).map f ++ [f a] := by
  rw [List.take_succ, h]; simp
noncomputable def JM (wd : Addr) (base : List (Addr × Obj)) (D : List (Int × Int)) (ys : List Value) (nw : List (Addr × Obj)) : Prop := ∃ tl, nw = tl ++ base ∧ PairsAt tl ys D ∧ ∀ p ∈ tl, p.1 ≠ wd
section
open LCg
variable {h₀ h' : Heap} {L I C D x wd : Addr} {m : Str → Option Value} {s₁ : Shared} {oI oC oD : Obj} {S : List (Addr × Obj) → Prop} {tl bs : List (Addr × Obj)} {c1 c2 : Addr × Obj} {a b : Int} {t1 t2 : Tok} {ys : List Value} {Dt : List (Int × Int)} {tk : Nat}
theorem jm_next (F : Fr h₀ L h' m) (N : News h₀ L h' ((x, tupObj [.int a t1, .int b t2]) :: c1 :: c2 :: (I, oI) :: (C, oC) :: (D, oD) :: (tl ++ bs))) (hp : PairsAt tl ys Dt) (ht : ∀ p ∈ tl, p.1 ≠ wd) (off : ∀ p ∈ tl ++ bs, p.1 ≠ I ∧ p.1 ≠ C ∧ p.1 ≠ D)
    (hx : c1.1 < x ∧ c2.1 < x ∧ I < x ∧ C < x ∧ D < x ∧ AllLt x (tl ++ bs)) (hw : wd < x) (hS : S (((x, tupObj [.int a t1, .int b t2]) :: tl) ++ bs)) :
    EndC h₀ L m s₁ I oI C oC D oD S (fun y nw => JM wd bs (Dt ++ [(a, b)]) (ys ++ [y]) nw) (.ref x) { s₁ with heap := h', toks := tk } := by
  refine ⟨h', tk, ((x, tupObj [.int a t1, .int b t2]) :: tl) ++ bs, rfl, F, News.sub N fun q hq => ?_, fun p hp => ?_, hS, (x, tupObj [.int a t1, .int b t2]) :: tl, rfl, ?_, fun p hp => ?_⟩
  · simp only [List.cons_append, List.mem_cons] at hq ⊢; grind
  · rw [List.cons_append] at hp
    rcases List.mem_cons.mp hp with e | hp
    · rw [e]; exact ⟨Nat.ne_of_gt hx.2.2.1, Nat.ne_of_gt hx.2.2.2.1, Nat.ne_of_gt hx.2.2.2.2.1⟩
    · exact off p hp
  · exact (hp.mono fun q hq => .tail _ hq).append ⟨⟨x, t1, t2, rfl, .head _⟩, trivial⟩
  · rcases List.mem_cons.mp hp with e | hp
    · rw [e]; exact Nat.ne_of_gt hw
    · exact ht p hp
theorem off1_mem {D : Addr} : ∀ {l : List (Addr × Obj)}, Off1 D l → ∀ p ∈ l, p.1 ≠ D
  | [], _, _, h => nomatch h
  | _ :: _, x, p, h => by
    rcases List.mem_cons.mp h with rfl | h
    · exact x.1
    · exact off1_mem x.2 p h
end
section
variable {prog : Program} {w : World} {p : Program} {loose : List Str} {mean : ExcName → Option Value} {mg mb : Str → Option Value} {A A₀ : Around} {outer : List Env} {base h₀ : Heap} {L a : Addr} {m : Str → Option Value} {s : Shared} {news imm : List (Addr × Obj)} {R : Result → Shared → Prop} {cn : Str} {cs : Scope} {ccd : Value}
theorem enterXC (binds : List (Str × Value)) {name qual : Str} {params : Arguments} {body : List Stmt} {scope : Scope} {dV kV doc pm cdv ct oc : Value} {an od : Option Addr} {osl : Array (Option Value)} {f : Addr} {args : Args}
    (C : Ctx w p loose mean mg mb A A₀ (envOf cn cs L a ccd) outer base h₀ L s.heap m (news ++ imm)) (hdis : ∀ p ∈ imm, ∀ q ∈ news, p.1 ≠ q.1)
    (ho : (K w.params).lookup f = some ⟨oc, od, .func (fnOf name qual params body scope dV kV doc pm an cdv ct), osl⟩) (hcd : codeIn (K w.params) cdv qual = true) (hroom : A.depth < recursionLimit)
    (hbind : BindsTo s (fnOf name qual params body scope dV kV doc pm an cdv ct) args binds) (hkind : (binds.all fun y => scope.names.lookup y.1 == some .local || scope.names.lookup y.1 == some .cell) = true)
    (hnd : ((cellsFrom 0 scope.names []).map (·.1)).Nodup) (hco : scope.isCoroutine = false) (hgen : scope.isGenerator = false) (hk : scope.kind = .function)
    (h : ∀ g L' h₁ tk cells, Fr h₀ L g m → Fr g L' h₁ (bindL (envOfC qual scope L' f cdv).kindOf binds fun _ => none) → News g L' h₁ (cells ++ news) →
      CellsAre (bindC (envOfC qual scope L' f cdv).kindOf binds fun _ => none) (cellsFrom (L' + 1) scope.names []) cells → Below A base (envOf cn cs L a ccd :: outer) g → (K w.params).In g → Top p loose mean mg mb g → (∀ p ∈ news, p.1 < L') → (∀ p ∈ imm, g.get? p.1 = some p.2) →
      wpAny (model prog w) (A.deeper (envOfC qual scope L' f cdv)) (execs body (envOfC qual scope L' f cdv))
        (fun fl s' => LeaveK h₀ L m g (fun r s' => News h₀ L s'.heap imm → R r s') (match fl with | .ret v => v | _ => .none) s')
        (fun e s' => wpAny (model prog w) (A.deeper (envOfC qual scope L' f cdv)) (leaving (envOfC qual scope L' f cdv) e) (fun _ s'' => R (.error e) s'') (fun e' s'' => R (.error e') s'') s')
        { s with heap := h₁, toks := tk }) : codeAny (model prog w) A (.call (.ref f) args) R s := by
  obtain ⟨B, F, X₀, NA, T, hA, hf, hck, hh⟩ := C
  have N : News h₀ L s.heap news := News.sub NA fun q hq => List.mem_append_left _ hq
  have NI : News h₀ L s.heap imm := News.sub NA fun q hq => List.mem_append_right _ hq
  obtain ⟨FG, BG, st, lv⟩ := groundX (R := fun r s' => News h₀ L s'.heap imm → R r s') B F N hA hf hck
  have hI : ∀ p ∈ imm, (hideAll s.heap (news.map (·.1))).get? p.1 = some p.2 := fun p hp => hideAll_get _ (NI p hp).1 fun q => by
    obtain ⟨r, hr, e⟩ := List.mem_map.mp q
    exact hdis p hp r hr e.symm
  refine codeAny_call_function hroom ((X₀.keeps F.keep) _ _ ho) rfl hco hgen rfl (codeRec_of (X₀.keeps F.keep) hcd) (hbind _ _ _ _ ?_)
  refine wpAny_newFunctionEnv_cells hk (kindsX hkind _) fun env' he s' x => ?_
  subst he
  refine ⟨(T.nolimit.keeps F.keep).keeps x.toInCall.keep, codeAny_func ?_⟩
  obtain ⟨h₁, tk, rfl, _⟩ := x.done
  have hk₁ := x.toInCall.keep
  obtain ⟨cells, NC, Y⟩ := Cl.news (h₀ := s.heap) (Nat.le_refl _) fun n c hm => ⟨x.cell n c (lookup_of_mem_nodup (cellsFrom_names scope.names 0 (s.heap.objs.size + 1) [] [] rfl ▸ hnd) hm), x.above n c hm⟩
  refine wpAny_mono (h _ s.heap.objs.size h₁ tk cells FG ⟨x.toInCall.ns, fun b o e => hk₁ b o (of_hideAll _ e), Nat.le_of_eq (hideAll_size _ _)⟩ (fun p hp => ?_) Y BG (X₀.keeps st) (T.keeps st) (fun p hp => Heap.lt_size (N p hp).1) hI) (fun fl s' hl => ?_) fun _ _ y => y
  · rcases List.mem_append.mp hp with hp | hp
    · refine ⟨(NC p hp).1, (NC p hp).2.1, ?_⟩
      cases q : (hideAll s.heap (news.map (·.1))).get? p.1 with
      | none => rfl
      | some o => have := of_hideAll _ q; rw [(NC p hp).2.2] at this; cases this
    · exact ⟨hk₁ _ _ (N p hp).1, Nat.ne_of_lt (Heap.lt_size (N p hp).1), hideAll_none _ (List.mem_map_of_mem hp)⟩
  · have hl' := hl
    obtain ⟨L', m', news', F', N', k⟩ := hl'
    exact lv _ _ hl fun p hp => ⟨F'.keep _ _ (hI p hp), (NI p hp).2⟩
end
/-- what is told of one cell -/
noncomputable def cellD (pg : Int) (c : Cs) (k : Int) : PyData := .tuple [.int ((k * 2 ^ Int.toNat 2).fdiv pg), .int (((k * 2 ^ Int.toNat 2).fmod pg).fdiv 4), .int (kdfLook c k 0)]
theorem readsAll_append {h : Heap} : ∀ {vs vs' : List Value} {ds ds' : List PyData} {as as' : List Addr}, ReadsAll h vs ds as → ReadsAll h vs' ds' as' → ∃ bs, ReadsAll h (vs ++ vs') (ds ++ ds') bs
  | _, _, _, _, _, _, .nil, r => ⟨_, r⟩
  | _, _, _, _, _, _, .cons a b, r => by
    obtain ⟨bs, rb⟩ := readsAll_append b r
    exact ⟨_, .cons a rb⟩
theorem RIs.mono {res res' : List (Addr × Obj)} {vs : List Value} {ds : List PyData} (r : RIs res vs ds) (hs : ∀ q ∈ res, q ∈ res') : RIs res' vs ds := fun h hk => r h fun p hp => hk p (hs p hp)
theorem RIs.append {res : List (Addr × Obj)} {vs vs' : List Value} {ds ds' : List PyData} (r : RIs res vs ds) (r' : RIs res vs' ds') : RIs res (vs ++ vs') (ds ++ ds') := fun h hk => by
  obtain ⟨as, ra⟩ := r h hk
  obtain ⟨bs, rb⟩ := r' h hk
  exact readsAll_append ra rb
noncomputable def JR2 (wd : Addr) (base : List (Addr × Obj)) (D : List PyData) (ys : List Value) (nw : List (Addr × Obj)) : Prop := ∃ tl, nw = tl ++ base ∧ RIs tl ys D ∧ ∀ p ∈ tl, p.1 ≠ wd
section
open LCg
variable {h₀ h' : Heap} {L I C D x wd : Addr} {m : Str → Option Value} {s₁ : Shared} {oI oC oD ox : Obj} {S : List (Addr × Obj) → Prop} {tl bs : List (Addr × Obj)} {c1 c2 : Addr × Obj} {ys : List Value} {Dt : List PyData} {d : PyData} {tk : Nat}
theorem jr2_next (F : Fr h₀ L h' m) (N : News h₀ L h' ((x, ox) :: c1 :: c2 :: (I, oI) :: (C, oC) :: (D, oD) :: (tl ++ bs))) (hp : RIs tl ys Dt) (hr : RI [(x, ox)] (.ref x) d) (ht : ∀ p ∈ tl, p.1 ≠ wd) (off : ∀ p ∈ tl ++ bs, p.1 ≠ I ∧ p.1 ≠ C ∧ p.1 ≠ D)
    (hx : c1.1 < x ∧ c2.1 < x ∧ I < x ∧ C < x ∧ D < x ∧ AllLt x (tl ++ bs)) (hw : wd < x) (hS : S (((x, ox) :: tl) ++ bs)) :
    EndC h₀ L m s₁ I oI C oC D oD S (fun y nw => JR2 wd bs (Dt ++ [d]) (ys ++ [y]) nw) (.ref x) { s₁ with heap := h', toks := tk } := by
  refine ⟨h', tk, ((x, ox) :: tl) ++ bs, rfl, F, News.sub N fun q hq => ?_, fun p hp => ?_, hS, (x, ox) :: tl, rfl, ?_, fun p hp => ?_⟩
  · simp only [List.cons_append, List.mem_cons] at hq ⊢; grind
  · rw [List.cons_append] at hp
    rcases List.mem_cons.mp hp with e | hp
    · rw [e]; exact ⟨Nat.ne_of_gt hx.2.2.1, Nat.ne_of_gt hx.2.2.2.1, Nat.ne_of_gt hx.2.2.2.2.1⟩
    · exact off p hp
  · exact (hp.mono fun q hq => .tail _ hq).append (.cons (hr.mono fun q hq => by rw [List.mem_singleton.mp hq]; exact .head _) .nil)
  · rcases List.mem_cons.mp hp with e | hp
    · rw [e]; exact Nat.ne_of_gt hw
    · exact ht p hp
end
end Mine
end N27
section N28
open PySem PySem.W PyProof.Rows PySem.Calls PySem.Spec PyProof.V
set_option maxRecDepth 100000
set_option maxHeartbeats 8000000
set_option autoImplicit false
namespace Mine
/-- what is told of one row -/
noncomputable def rowD (b pg en lg : Int) (r : Row) : PyData := .tuple [.tuple [.int (pF b r.1), .int (pS b en r.1)], .int (r.2.1.fdiv pg), .int r.2.2.1, .bool (r.2.2.2 == lg)]
noncomputable def JF (fd : Addr) (bs : List (Addr × Obj)) (D : List PyData) (news₁ : List (Addr × Obj)) : Prop :=
  ∃ (its : Array Value) (tl : List (Addr × Obj)) (k : Nat), news₁ = (fd, W.listOf its k) :: (tl ++ bs) ∧ RIs tl its.toList D ∧ its.size = D.length ∧ ∀ p ∈ tl, fd < p.1
section
variable {h₀ h' : Heap} {L I fd x y : Addr} {m₀ m' : Str → Option Value} {xs : List Str} {bs own tl : List (Addr × Obj)} {its : Array Value} {D : List PyData} {d : PyData} {s : Shared} {k k' : Nat} {tk : Nat} {oI ox oy ob : Obj}
theorem jf_next (F : Fr h₀ L h' m') (hm : ∀ z, xs.contains z = false → m' z = m₀ z) {all : List (Addr × Obj)} (N : News h₀ L h' all) (ha : ∀ q ∈ own ++ ((fd, W.listOf (its.push (.ref y)) k') :: (((y, oy) :: (x, ox) :: tl) ++ bs)), q ∈ all)
    (hr : RIs tl its.toList D) (hz : its.size = D.length) (ht : ∀ p ∈ tl, fd < p.1) (hd : RI [(y, oy), (x, ox)] (.ref y) d) (hy : fd < y) (hx : fd < x) (hoff : ∀ p ∈ (fd, ob) :: (tl ++ bs), p.1 ≠ I) (hIy : I < y) (hIx : I < x) :
    NextG h₀ L xs m₀ [I] own (JF fd bs (D ++ [d])) s { s with heap := h', toks := tk } := by
  refine ⟨h', tk, m', (fd, W.listOf (its.push (.ref y)) k') :: (((y, oy) :: (x, ox) :: tl) ++ bs), rfl, F, hm, News.sub N ha, fun p hp hI => ?_, its.push (.ref y), (y, oy) :: (x, ox) :: tl, k', rfl, ?_, ?_, fun p hp => ?_⟩
  · have e := List.mem_singleton.mp hI
    rcases List.mem_cons.mp hp with q | hp
    · exact hoff _ (.head _) (by rw [q] at e; exact e)
    · rcases List.mem_append.mp hp with hp | hp
      · rcases List.mem_cons.mp hp with q | hp
        · rw [q] at e; exact absurd e (Nat.ne_of_gt hIy)
        · rcases List.mem_cons.mp hp with q | hp
          · rw [q] at e; exact absurd e (Nat.ne_of_gt hIx)
          · exact hoff p (.tail _ (List.mem_append_left _ hp)) e
      · exact hoff p (.tail _ (List.mem_append_right _ hp)) e
  · rw [Array.toList_push]
    refine (hr.mono fun q hq => .tail _ (.tail _ hq)).append (.cons (hd.mono fun q hq => ?_) .nil)
    simp only [List.mem_cons, List.not_mem_nil, or_false] at hq ⊢
    rcases hq with h | h
    · exact .inl h
    · exact .inr (.inl h)
  · rw [Array.size_push, hz, List.length_append]; rfl
  · rcases List.mem_cons.mp hp with q | hp
    · rw [q]; exact hy
    · rcases List.mem_cons.mp hp with q | hp
      · rw [q]; exact hx
      · exact ht p hp
end
end Mine
end N28
section N29
open PySem PySem.W PyProof.Rows PySem.Calls PySem.Spec PyProof.V
set_option maxRecDepth 100000
set_option maxHeartbeats 8000000
set_option autoImplicit false
namespace Mine
section
variable {prog : Program} {w : World} {A : Around} {E : Value → Shared → Prop} {s : Shared} {env : Env} {h₀ : Heap} {body : List Stmt} {Q : Flow → Shared → Prop} {m₀ : Str → Option Value} {news : List (Addr × Obj)}
structure LoopGT (prog : Program) (w : World) (A : Around) (h₀ : Heap) (env : Env) (target : PySem.Expr) (body : List Stmt) (Q : Flow → Shared → Prop) (E : Value → Shared → Prop) (it : Value) (s : Shared) : Prop where
  ex : ∃ (xs : List Str) (m₀ : Str → Option Value) (I : Addr) (fp wr : List Addr) (n : Nat) (P : Nat → Value → Prop) (St : Nat → Heap → Prop) (news : List (Addr × Obj)) (J : Nat → List (Addr × Obj) → Prop),
    it = .ref I ∧ Walks prog w A I fp wr n P St ∧ (∀ i h, St i h → ∃ l j, h.IsListIter I l j) ∧ (∀ i v, P i v → ∃ t, v = .ref t) ∧ env.locals ∉ fp ∧ (∀ b ∈ wr, h₀.get? b = none) ∧ (∀ p ∈ news, p.1 ∉ wr) ∧ St 0 s.heap ∧ Fr h₀ env.locals s.heap m₀ ∧ News h₀ env.locals s.heap news ∧ J 0 news ∧
    (∀ i v (u : Str → Option Value) news₁ h tk own, i < n → P i v → J i news₁ → (∀ p ∈ news₁, p.1 ∉ wr) → (∀ p ∈ own, p.1 ∈ fp) → (∀ b ∈ fp, h₀.get? b = none → ∀ o, h.get? b = some o → (b, o) ∈ own) → St (i + 1) h →
      Fr h₀ env.locals h (over u xs m₀) → News h₀ env.locals h (own ++ news₁) →
      wpAny (model prog w) A (assign target env v) (fun _ s₂ => wpAny (model prog w) A (execs body env) (StepG h₀ env.locals xs m₀ wr own (J (i + 1)) s Q) E s₂) E { s with heap := h, toks := tk }) ∧
    ∀ h' tk u news', Fr h₀ env.locals h' (over u xs m₀) → News h₀ env.locals h' news' → J n news' → Q .next { s with heap := h', toks := tk }
theorem For_GT {iter : PySem.Expr} {elts : List PySem.Expr} {tx : Nat} {tp : Pos} {pos : Pos} {m : Str → Option Value} (_F : Fr h₀ env.locals s.heap m)
    (h : wpAny (model prog w) A (eval iter env) (fun xv s₁ => wpAny (model prog w) A (pyIter xv) (fun it s₂ => LoopGT prog w A h₀ env (.Tuple elts tx tp) body Q E it s₂) E s₁) E s)
    (hs : ∀ x, foldedSetIterable iter env x = pure x := by intro _; rfl)
    (hE : PassesOwn (model prog w) A env E := by passes_own) :
    wpAny (model prog w) A (exec (.For (.Tuple elts tx tp) iter body [] pos) env) Q E s := by
  refine wpAny_For (wpAny_mono h (fun xv s₁ h₁ => wpAny_mono h₁ (fun it s₂ h₂ => ?_) fun _ _ e => e) fun _ _ e => e) hs
  obtain ⟨⟨xs, m₀, I, fp, wr, n, P, St, news, J, rfl, W, hLI, hPr, hLf, hwr, hnw, hst, F, N, h0, step, hQ⟩⟩ := h₂
  have hLw : env.locals ∉ wr := fun h => hLf (W.sub _ h)
  have old : ∀ b o, h₀.get? b = some o → b ∉ wr := fun b o e hb => by rw [hwr b hb] at e; cases e
  have F0 : Fr h₀ env.locals s₂.heap (over m₀ xs m₀) := by rw [over_same fun _ _ => rfl]; exact F
  refine codeAny_forLoop_any
    (fun k s' => ∃ h' tk u news' i, s' = { s₂ with heap := h', toks := tk } ∧ St i h' ∧ Fr h₀ env.locals h' (over u xs m₀) ∧ News h₀ env.locals h' news' ∧ (∀ p ∈ news', p.1 ∉ wr) ∧ J i news' ∧ i ≤ n ∧ k = n + 1 - i) ?_ (n + 1)
    ⟨s₂.heap, s₂.toks, m₀, news, 0, rfl, hst, F0, N, hnw, h0, Nat.zero_le _, rfl⟩
  rintro k s' ⟨h', tk, u, news', i, rfl, hst', F', N', hnw', hJ, hi, rfl⟩
  have next : ∀ h₁ : Heap, (∀ b o, b ∉ wr → h'.get? b = some o → h₁.get? b = some o) → Fr h₀ env.locals h₁ (over u xs m₀) ∧ News h₀ env.locals h₁ news' := fun h₁ hk₁ =>
    ⟨⟨F'.ns.at' fun o e => hk₁ _ o hLw e, fun b o e => hk₁ b o (old b o e) (F'.keep b o e), F'.above⟩, fun p hp => ⟨hk₁ _ _ (hnw' p hp) (N' p hp).1, (N' p hp).2⟩⟩
  by_cases hlt : i < n
  · refine W.item i _ _ _ hlt hst' fun v h₁ tk₁ hP hst₁ hk₁ => ?_
    obtain ⟨F₁, N₁⟩ := next h₁ hk₁
    have Nown : News h₀ env.locals h₁ (ownOf h₀ fp h₁) := news_ownOf hLf
    have st := step i v u news' h₁ tk₁ (ownOf h₀ fp h₁) hlt hP hJ hnw' ownOf_sub (fun b hb hn o e => mem_ownOf hb hn e) hst₁ F₁ (Nown.append N₁)
    have fin : ∀ s₃, NextG h₀ env.locals xs m₀ wr (ownOf h₀ fp h₁) (J (i + 1)) s₂ s₃ → ∃ m, m < n + 1 - i ∧ ∃ h' tk u news' j, s₃ = { s₂ with heap := h', toks := tk } ∧ St j h' ∧ Fr h₀ env.locals h' (over u xs m₀) ∧ News h₀ env.locals h' news' ∧ (∀ p ∈ news', p.1 ∉ wr) ∧ J j news' ∧ j ≤ n ∧ m = n + 1 - j := by
      rintro s₃ ⟨h₃, tk₃, m₃, news₃, rfl, F₃, hm, N₃, ha₃, hJ₃⟩
      refine ⟨n + 1 - (i + 1), by omega, h₃, tk₃, m₃, news₃, i + 1, rfl, ?_, by rw [over_same hm]; exact F₃, N₃.right, ha₃, hJ₃, hlt, rfl⟩
      refine W.frame _ _ _ hst₁ fun b hb o e => ?_
      cases hn : h₀.get? b with
      | some o₀ =>
        have : o₀ = o := by have := F₁.keep b o₀ hn; rw [e] at this; exact (Option.some.inj this).symm
        exact this ▸ F₃.keep b o₀ hn
      | none => exact (N₃ _ (List.mem_append_left _ (mem_ownOf hb hn e))).1
    obtain ⟨tv, rfl⟩ := hPr _ _ hP
    obtain ⟨lI, jI, hLi⟩ := hLI _ _ hst₁
    refine wpAny_letOwnedTupleGo_listiter hLi ?_
    refine wpAny_mono (wpAny_passesOwn hE st) (fun _ s₃ h₃ => ?_) fun _ _ e => e
    refine wpAny_mono (wpAny_passesOwn hE h₃) (fun f s₄ h₄ => ?_) fun _ _ e => e
    cases f with
    | ret v => exact h₄
    | brk => exact h₄
    | cont => exact fin s₄ h₄
    | next => exact fin s₄ h₄
  · have hin : i = n := by omega
    subst hin
    refine W.done _ _ _ hst' fun h₁ tk₁ hk₁ => wpAny_execs_nil ?_
    obtain ⟨F₁, N₁⟩ := next h₁ hk₁
    exact hQ h₁ tk₁ u news' F₁ N₁ hJ
theorem iterGT_list {elts : List PySem.Expr} {tx : Nat} {tp : Pos} {l : Addr} {items : Array Value} (xs : List Str) (J : Nat → List (Addr × Obj) → Prop) (hh : A.handled = none) (F : Fr h₀ env.locals s.heap m₀) (N : News h₀ env.locals s.heap news)
    (hl : s.heap.IsList l items) (hll : l ≠ env.locals) (hrf : ∀ v ∈ items, ∃ t, v = .ref t) (hj : J 0 news)
    (turn : ∀ (i : Nat) v (u : Str → Option Value) news₁ h tk own I, items[i]? = some v → J i news₁ → (∀ p ∈ news₁, p.1 ≠ I) → (∀ p ∈ own, p.1 = I ∨ p.1 = l) → (∃ o, (I, o) ∈ own) → Fr h₀ env.locals h (over u xs m₀) → News h₀ env.locals h (own ++ news₁) →
      wpAny (model prog w) A (assign (.Tuple elts tx tp) env v) (fun _ s₂ => wpAny (model prog w) A (execs body env) (StepG h₀ env.locals xs m₀ [I] own (J (i + 1)) s Q) E s₂) E { s with heap := h, toks := tk })
    (done : ∀ h' tk u news', Fr h₀ env.locals h' (over u xs m₀) → News h₀ env.locals h' news' → J items.size news' → Q .next { s with heap := h', toks := tk }) :
    wpAny (model prog w) A (pyIter (.ref l)) (fun it s₂ => LoopGT prog w A h₀ env (.Tuple elts tx tp) body Q E it s₂) E s := by
  refine wpAny_pyIter_list hl ?_
  obtain ⟨ol, hol, _⟩ := id hl
  have hne : l ≠ s.heap.objs.size := Nat.ne_of_lt (Heap.lt_size hol)
  have W := Walks.list (prog := prog) (w := w) hh s.heap.objs.size l hne items
  refine ⟨⟨xs, m₀, _, _, _, items.size, _, _, news, J, rfl, W, (fun i h st => ⟨l, i, st.1⟩), (fun i v hv => hrf v (Array.mem_of_getElem? hv)), ?_, ?_, ?_, ⟨⟨_, Heap.get?_push_size _ rfl, rfl, rfl⟩, hl.at fun o e => Heap.get?_push_of_some _ e⟩, F.push _, (fun p hp => ⟨Heap.get?_push_of_some _ (N p hp).1, (N p hp).2⟩), hj, ?_, fun h' tk u news' F' N' hJ => done h' tk u news' F' N' hJ⟩⟩
  · intro hm
    rcases List.mem_cons.mp hm with e | hm
    · exact absurd F.ns.lt (e ▸ Nat.lt_irrefl _)
    · exact hll (List.mem_singleton.mp hm).symm
  · intro b hb
    rw [List.mem_singleton.mp hb]
    exact next_is_new F
  · intro p hp hI
    exact absurd (Heap.lt_size (N p hp).1) ((List.mem_singleton.mp hI) ▸ Nat.lt_irrefl _)
  · rintro i v u news₁ h tk own hi hP hJ hoff hsub hown hst F₁ N₁
    refine turn i v u news₁ h tk own _ hP hJ (fun p hp q => hoff p hp (by rw [q]; exact List.mem_singleton.mpr rfl)) (fun p hp => by simpa using hsub p hp) ?_ F₁ N₁
    obtain ⟨o, ho, _⟩ := hst.1
    exact ⟨_, hown _ (List.mem_cons.mpr (.inl rfl)) (next_is_new F) _ ho⟩
end
theorem sub_jf {y x z f t : Addr × Obj} {own tl bs : List (Addr × Obj)} : ∀ q ∈ own ++ (f :: ((y :: x :: tl) ++ bs)), q ∈ y :: x :: z :: f :: t :: (own ++ tl ++ bs) := fun q hq => by
  simp only [List.mem_append, List.mem_cons] at hq ⊢
  rcases hq with h | h | (h | h | h) | h <;> simp [h]
end Mine
end N29
section P0
open PySem PySem.W PyProof.Rows PySem.Calls PySem.Spec PyProof.V
set_option maxRecDepth 100000
set_option maxHeartbeats 8000000
set_option autoImplicit false
namespace Mine
noncomputable def pgB (b : Int) : Int := 2 ^ b.toNat
noncomputable def enB (b : Int) : Int := 2 ^ (b - 2).toNat
noncomputable def lgB (b : Int) : Int := 2 ^ (2 * b - 2).toNat
noncomputable def edB (b : Int) : Int := 2 ^ (3 * b - 4).toNat
theorem layN_at {b : Int} (h : 4 ≤ b ∧ b ≤ 8) : LayN b (pgB b) (enB b) (lgB b) (edB b) := by
  have : b = 4 ∨ b = 5 ∨ b = 6 ∨ b = 7 ∨ b = 8 := by omega
  unfold LayN
  rcases this with rfl | rfl | rfl | rfl | rfl <;> decide
theorem bits1 (x : Int) : 4 ≤ 4 + x.fmod 3 ∧ 4 + x.fmod 3 ≤ 8 := by
  have := fm (a := x) (n := 3) (by decide); omega
theorem bits2 (x : Int) : 4 ≤ 4 + x.fmod 5 ∧ 4 + x.fmod 5 ≤ 8 := by
  have := fm (a := x) (n := 5) (by decide); omega
/-- a mark -/
noncomputable def markS' (k' : Int) : Int := (if k' < 0 then -k' else k').fmod (10 ^ Int.toNat 12)
noncomputable abbrev marksS (xs : List Int) : List Int := List.map (fun k' => (if k' < 0 then -k' else k').fmod (10 ^ Int.toNat 12)) (List.take 8 xs) ++ (List.replicate (if decide (xs = []) = true then 1 else 0 : Int).toNat [3, 361]).flatten
theorem marks_ok (xs : List Int) : ∀ n ∈ marksS xs, 0 ≤ n ∧ n < 1000000000000 := by
  intro n hn
  rcases List.mem_append.mp hn with h | h
  · obtain ⟨k, _, rfl⟩ := List.mem_map.mp h
    exact fm (by decide)
  · split at h
    · have : n ∈ [(3 : Int), 361] := by simpa using h
      simp only [List.mem_cons, List.not_mem_nil, or_false] at this
      rcases this with rfl | rfl <;> decide
    · simp at h
theorem marks_len (xs : List Int) : (marksS xs).length ≤ 10 := by
  rw [List.length_append, List.length_map, List.length_take]
  split <;> simp <;> omega
/-- the tables as they stand, apart from any layout: by the page and the place in it -/
noncomputable abbrev Tab := Int → Int → Int
structure Rel (b : Int) (c : Cs) (S : Tab) : Prop where
  nd : (c.map (·.1)).Nodup
  keys : ∀ q ∈ c, ∃ a s, (0 ≤ a ∧ a ≤ 3) ∧ (0 ≤ s ∧ s ≤ 3) ∧ q.1 = ixS (pgB b) (a, s)
  nz : ∀ q ∈ c, q.2 ≠ 0
  look : ∀ a s, (0 ≤ a ∧ a ≤ 3) → (0 ≤ s ∧ s ≤ 3) → kdfLook c (ixS (pgB b) (a, s)) 0 = S a s
/-- an entry of the first table -/
noncomputable def FE (e : Int) : Prop := v1S e = false ∨ (v1S e = true ∧ leafS e = true ∧ e < 4096) ∨ (v1S e = true ∧ leafS e = false ∧ 1024 ≤ e ∧ e < 4096)
structure Inv (S : Tab) : Prop where
  val : ∀ a s, 0 ≤ S a s ∧ S a s < 65536
  first : ∀ s, FE (S 0 s)
noncomputable def Same (b1 b2 : Int) (c1 c2 : Cs) : Prop := ∃ S, Rel b1 c1 S ∧ Rel b2 c2 S ∧ Inv S
noncomputable abbrev adB (b f g part : Int) : Int := addrS b f g ((part * pgB b).fdiv 16)
noncomputable abbrev askB (b f g part way fl : Int) (c : Cs) : PyData × Cs := askS b (pgB b) (enB b) (lgB b) (adB b f g part) fl way c
end Mine
end P0
section Q1
open PySem PySem.W PyProof.Rows PySem.Calls PySem.Spec PyProof.V
set_option maxRecDepth 100000
set_option maxHeartbeats 8000000
set_option autoImplicit false
namespace Mine
/-- a table with one entry anew -/
noncomputable def upd (S : Tab) (a s v : Int) : Tab := fun a' s' => if a' = a ∧ s' = s then v else S a' s'
theorem look_nil {j : Int} : kdfLook [] j 0 = 0 := rfl
theorem look_cons {q : Int × Int} {r : Cs} {j : Int} : kdfLook (q :: r) j 0 = if q.1 = j then q.2 else kdfLook r j 0 := by
  unfold kdfLook
  rw [List.find?_cons]
  by_cases h : q.1 = j
  · rw [if_pos h, decide_eq_true h]; rfl
  · rw [if_neg h, decide_eq_false h]
theorem look_map {k v j : Int} : ∀ {c : Cs}, kdfLook (c.map (fun p => if decide (p.1 = k) then (p.1, v) else p)) j 0 = if j = k ∧ k ∈ c.map (·.1) then v else kdfLook c j 0
  | [] => by simp [look_nil]
  | q :: r => by
    rw [List.map_cons, look_cons, look_map, look_cons]
    by_cases h1 : q.1 = k
    · simp only [h1, decide_true, if_true]
      by_cases h2 : j = k
      · subst h2; simp [h1]
      · have : ¬ k = j := fun e => h2 e.symm
        simp [h2, this, h1]
    · have hd : decide (q.1 = k) = false := decide_eq_false h1
      simp only [hd, Bool.false_eq_true, if_false]
      by_cases h2 : j = k
      · subst h2
        have : ¬ j = q.1 := fun e => h1 e.symm
        simp only [List.map_cons, List.mem_cons, this, false_or, if_neg h1]
      · simp [h2]
theorem look_app {k v j : Int} : ∀ {c : Cs}, k ∉ c.map (·.1) → kdfLook (c ++ [(k, v)]) j 0 = if j = k then v else kdfLook c j 0
  | [], _ => by
    show kdfLook [(k, v)] j 0 = _
    rw [look_cons, look_nil]
    by_cases h : k = j
    · rw [if_pos h, if_pos h.symm]
    · rw [if_neg h, if_neg fun e => h e.symm]
  | q :: r, hn => by
    rw [List.map_cons, List.mem_cons, not_or] at hn
    rw [List.cons_append, look_cons, look_app hn.2, look_cons]
    by_cases h : j = k
    · subst h
      rw [if_pos rfl, if_neg fun e => hn.1 e.symm, if_pos rfl]
    · rw [if_neg h, if_neg h]
theorem any_key {c : Cs} {k : Int} : c.any (fun p => decide (p.1 = k)) = true ↔ k ∈ c.map (·.1) := by
  rw [List.any_eq_true, List.mem_map]
  exact ⟨fun ⟨p, hp, h⟩ => ⟨p, hp, of_decide_eq_true h⟩, fun ⟨p, hp, h⟩ => ⟨p, hp, decide_eq_true h⟩⟩
theorem look_put {c : Cs} {k v j : Int} : kdfLook (kdfPut c k v) j 0 = if j = k then v else kdfLook c j 0 := by
  unfold kdfPut
  by_cases h : k ∈ c.map (·.1)
  · rw [if_pos (any_key.mpr h), look_map]
    simp only [h, and_true]
  · rw [if_neg (fun e => h (any_key.mp e)), look_app h]
theorem look_del {k j : Int} : ∀ {c : Cs}, kdfLook (kdyDel c k) j 0 = if j = k then 0 else kdfLook c j 0
  | [] => by simp [kdyDel, look_nil]
  | q :: r => by
    have ih := look_del (k := k) (j := j) (c := r)
    unfold kdyDel at ih ⊢
    rw [List.filter_cons]
    by_cases h : q.1 = k
    · have hd : (!decide (q.1 = k)) = false := by simp [h]
      rw [hd, if_neg (by decide), ih, look_cons]
      by_cases h2 : j = k
      · rw [if_pos h2, if_pos h2]
      · rw [if_neg h2, if_neg h2, if_neg fun e => h2 (e.symm.trans h)]
    · have hd : (!decide (q.1 = k)) = true := by simp [h]
      rw [hd, if_pos rfl, look_cons, ih, look_cons]
      by_cases h2 : j = k
      · subst h2
        rw [if_pos rfl, if_pos rfl, if_neg h]
      · rw [if_neg h2, if_neg h2]
theorem look_putS {c : Cs} {k v j : Int} : kdfLook (putS c k v) j 0 = if j = k then v else kdfLook c j 0 := by
  unfold putS
  by_cases h : v = 0
  · rw [if_pos h, look_del, h]
  · rw [if_neg h, look_put]
theorem keys_put {c : Cs} {k v : Int} : (kdfPut c k v).map (·.1) = if k ∈ c.map (·.1) then c.map (·.1) else c.map (·.1) ++ [k] := by
  unfold kdfPut
  by_cases h : k ∈ c.map (·.1)
  · rw [if_pos (any_key.mpr h), if_pos h, List.map_map]
    refine List.map_congr_left fun p _ => ?_
    show (if decide (p.1 = k) = true then (p.1, v) else p).1 = p.1
    split <;> rfl
  · rw [if_neg (fun e => h (any_key.mp e)), if_neg h, List.map_append]; rfl
theorem mem_put {c : Cs} {k v : Int} {q : Int × Int} (h : q ∈ kdfPut c k v) : q = (k, v) ∨ q ∈ c := by
  unfold kdfPut at h
  split at h
  · obtain ⟨p, hp, e⟩ := List.mem_map.mp h
    by_cases h2 : p.1 = k
    · rw [decide_eq_true h2, if_pos rfl] at e
      exact .inl (by rw [← e, h2])
    · rw [decide_eq_false h2, if_neg (by decide)] at e
      exact .inr (e ▸ hp)
  · rcases List.mem_append.mp h with h | h
    · exact .inr h
    · exact .inl (List.mem_singleton.mp h)
theorem nd_putS {c : Cs} {k v : Int} (h : (c.map (·.1)).Nodup) : ((putS c k v).map (·.1)).Nodup := by
  unfold putS
  split
  · exact h.sublist ((List.filter_sublist).map _)
  · rw [keys_put]
    split
    · exact h
    · rw [List.nodup_append]
      refine ⟨h, by simp, fun a ha b hb => ?_⟩
      rw [List.mem_singleton.mp hb]
      exact fun e => (by assumption : ¬ k ∈ c.map (·.1)) (e ▸ ha)
theorem mem_putS {c : Cs} {k v : Int} {q : Int × Int} (h : q ∈ putS c k v) : (q = (k, v) ∧ v ≠ 0) ∨ q ∈ c := by
  unfold putS at h
  split at h
  · exact .inr (List.mem_filter.mp h).1
  · rcases mem_put h with h | h
    · exact .inl ⟨h, by assumption⟩
    · exact .inr h
theorem look_mem {j : Int} : ∀ {c : Cs}, kdfLook c j 0 ≠ 0 → (j, kdfLook c j 0) ∈ c
  | [], h => absurd look_nil h
  | q :: r, h => by
    rw [look_cons] at h ⊢
    by_cases e : q.1 = j
    · rw [if_pos e]
      exact List.mem_cons.mpr (.inl (by rw [← e]))
    · rw [if_neg e] at h ⊢
      exact List.mem_cons_of_mem _ (look_mem h)
theorem look_of_mem : ∀ {c : Cs} {q : Int × Int}, (c.map (·.1)).Nodup → q ∈ c → kdfLook c q.1 0 = q.2
  | p :: r, q, hn, h => by
    rw [List.map_cons, List.nodup_cons] at hn
    rw [look_cons]
    rcases List.mem_cons.mp h with e | h
    · rw [e, if_pos rfl]
    · rw [if_neg fun e => hn.1 (List.mem_map.mpr ⟨q, h, e.symm⟩), look_of_mem hn.2 h]
theorem look_zero {c : Cs} {j : Int} (h : j ∉ c.map (·.1)) : kdfLook c j 0 = 0 := by
  refine Decidable.byContradiction fun e => h ?_
  exact List.mem_map.mpr ⟨_, look_mem e, rfl⟩
section
variable {b a s a' s' : Int} {c : Cs} {S : Tab} {v : Int}
theorem ix_eq (hb : 4 ≤ b ∧ b ≤ 8) (a s : Int) : ixS (pgB b) (a, s) = a * enB b + s := by
  show (a * pgB b + 4 * s).fdiv 4 = _
  rw [Int.fdiv_eq_ediv_of_nonneg _ (by decide)]
  have := layN_at hb
  rcases this with ⟨_, h1, h2, _⟩ | ⟨_, h1, h2, _⟩ | ⟨_, h1, h2, _⟩ | ⟨_, h1, h2, _⟩ | ⟨_, h1, h2, _⟩ <;> rw [h1, h2] <;> omega
theorem ix_inj (hb : 4 ≤ b ∧ b ≤ 8) (hs : 0 ≤ s ∧ s ≤ 3) (hs' : 0 ≤ s' ∧ s' ≤ 3) (h : ixS (pgB b) (a, s) = ixS (pgB b) (a', s')) : a = a' ∧ s = s' := by
  rw [ix_eq hb, ix_eq hb] at h
  have := layN_at hb
  rcases this with ⟨_, h1, h2, _⟩ | ⟨_, h1, h2, _⟩ | ⟨_, h1, h2, _⟩ | ⟨_, h1, h2, _⟩ | ⟨_, h1, h2, _⟩ <;> rw [h2] at h <;> omega
theorem ix_rng (hb : 4 ≤ b ∧ b ≤ 8) (ha : 0 ≤ a ∧ a ≤ 3) (hs : 0 ≤ s ∧ s ≤ 3) : 0 ≤ ixS (pgB b) (a, s) ∧ ixS (pgB b) (a, s) < 256 := by
  rw [ix_eq hb]
  have := layN_at hb
  rcases this with ⟨_, h1, h2, _⟩ | ⟨_, h1, h2, _⟩ | ⟨_, h1, h2, _⟩ | ⟨_, h1, h2, _⟩ | ⟨_, h1, h2, _⟩ <;> rw [h2] <;> omega
theorem Rel.put (hb : 4 ≤ b ∧ b ≤ 8) (R : Rel b c S) (ha : 0 ≤ a ∧ a ≤ 3) (hs : 0 ≤ s ∧ s ≤ 3) : Rel b (putS c (ixS (pgB b) (a, s)) v) (upd S a s v) := by
  refine ⟨nd_putS R.nd, fun q hq => ?_, fun q hq => ?_, fun a' s' ha' hs' => ?_⟩
  · rcases mem_putS hq with ⟨e, _⟩ | h
    · exact ⟨a, s, ha, hs, by rw [e]⟩
    · exact R.keys q h
  · rcases mem_putS hq with ⟨e, h⟩ | h
    · rw [e]; exact h
    · exact R.nz q h
  · rw [look_putS]
    unfold upd
    by_cases h : a' = a ∧ s' = s
    · rw [if_pos (by rw [h.1, h.2]), if_pos h]
    · rw [if_neg fun e => h (ix_inj hb hs' hs e), if_neg h]
      exact R.look a' s' ha' hs'
theorem Rel.nil : Rel b [] (fun _ _ => 0) := ⟨List.nodup_nil, fun q h => (nomatch h), fun q h => (nomatch h), fun _ _ _ _ => look_nil⟩
theorem upd_same (h : S a s = v) : upd S a s v = S := by
  funext a' s'
  unfold upd
  split
  · rename_i e; rw [e.1, e.2, h]
  · rfl
theorem nodup_len : ∀ (l m : List Int), l.Nodup → (∀ x ∈ l, x ∈ m) → l.length ≤ m.length
  | [], m, _, _ => Nat.zero_le _
  | x :: r, m, hn, hs => by
    rw [List.nodup_cons] at hn
    have hx := hs x (.head _)
    have ih := nodup_len r (m.erase x) hn.2 fun y hy => (List.mem_erase_of_ne (fun e => hn.1 (by rw [← e]; exact hy))).mpr (hs y (.tail _ hy))
    rw [List.length_erase_of_mem hx] at ih
    have := List.length_pos_of_mem hx
    rw [List.length_cons]
    omega
noncomputable def allIx (b : Int) : List Int := (List.range 4).flatMap fun (a : Nat) => (List.range 4).map fun (s : Nat) => ixS (pgB b) ((a : Int), (s : Int))
theorem mem_allIx (ha : 0 ≤ a ∧ a ≤ 3) (hs : 0 ≤ s ∧ s ≤ 3) : ixS (pgB b) (a, s) ∈ allIx b := by
  refine List.mem_flatMap.mpr ⟨a.toNat, List.mem_range.mpr (by omega), List.mem_map.mpr ⟨s.toNat, List.mem_range.mpr (by omega), ?_⟩⟩
  rw [Int.toNat_of_nonneg ha.1, Int.toNat_of_nonneg hs.1]
theorem Rel.length (R : Rel b c S) : c.length < 60 := by
  have h1 := nodup_len (c.map (·.1)) (allIx b) R.nd fun k hk => by
    obtain ⟨q, hq, rfl⟩ := List.mem_map.mp hk
    obtain ⟨a, s, ha, hs, e⟩ := R.keys q hq
    rw [e]
    exact mem_allIx ha hs
  rw [List.length_map] at h1
  have h2 : (allIx b).length = 16 := rfl
  omega
end
end Mine
end Q1
section Q2
open PySem PySem.W PyProof.Rows PySem.Calls PySem.Spec PyProof.V
set_option maxRecDepth 100000
set_option maxHeartbeats 8000000
set_option autoImplicit false
namespace Mine
/-- what holds of an address: its parts and where it lies -/
noncomputable def adT (b f g p : Int) : Bool :=
  let ad := adB b f g p
  let dn := downS (pgB b) ad
  decide (pF b ad = f) && decide (pS b (enB b) ad = g) && decide ((pO (pgB b) ad * 16).fdiv (pgB b) = p) && decide (0 ≤ ad) && decide (ad < edB b) &&
  decide (pF b dn = f) && decide (pS b (enB b) dn = g) && decide (0 ≤ dn) && decide (dn < edB b) && decide (pO (pgB b) ad < pgB b) && decide (0 ≤ pO (pgB b) ad) &&
  decide (Builtin.bitAnd ad (lgB b - 1) = g * pgB b + pO (pgB b) ad)
theorem adT_all : ((List.range 5).all fun (b : Nat) => (List.range 4).all fun (f : Nat) => (List.range 4).all fun (g : Nat) => (List.range 16).all fun (p : Nat) => adT (4 + (b : Int)) (f : Int) (g : Int) (p : Int)) = true := by decide +kernel
theorem adT_at {b f g p : Int} (hb : 4 ≤ b ∧ b ≤ 8) (hf : 0 ≤ f ∧ f < 4) (hg : 0 ≤ g ∧ g < 4) (hp : 0 ≤ p ∧ p < 16) : adT b f g p = true := by
  have h := adT_all
  have h1 := List.all_eq_true.mp h (b - 4).toNat (List.mem_range.mpr (by omega))
  have h2 := List.all_eq_true.mp h1 f.toNat (List.mem_range.mpr (by omega))
  have h3 := List.all_eq_true.mp h2 g.toNat (List.mem_range.mpr (by omega))
  have h4 := List.all_eq_true.mp h3 p.toNat (List.mem_range.mpr (by omega))
  rw [Int.toNat_of_nonneg (by omega), Int.toNat_of_nonneg (by omega), Int.toNat_of_nonneg (by omega), Int.toNat_of_nonneg (by omega)] at h4
  have e : 4 + (b - 4) = b := by omega
  rw [e] at h4
  exact h4
structure AdF (b f g p ad : Int) : Prop where
  ff : pF b ad = f
  fs : pS b (enB b) ad = g
  fo : (pO (pgB b) ad * 16).fdiv (pgB b) = p
  lo : 0 ≤ ad
  hi : ad < edB b
  df : pF b (downS (pgB b) ad) = f
  ds : pS b (enB b) (downS (pgB b) ad) = g
  dlo : 0 ≤ downS (pgB b) ad
  dhi : downS (pgB b) ad < edB b
  ohi : pO (pgB b) ad < pgB b
  olo : 0 ≤ pO (pgB b) ad
  lg : Builtin.bitAnd ad (lgB b - 1) = g * pgB b + pO (pgB b) ad
theorem adF {b f g p : Int} (hb : 4 ≤ b ∧ b ≤ 8) (hf : 0 ≤ f ∧ f < 4) (hg : 0 ≤ g ∧ g < 4) (hp : 0 ≤ p ∧ p < 16) : AdF b f g p (adB b f g p) := by
  have h := adT_at hb hf hg hp
  unfold adT at h
  simp only [Bool.and_eq_true, decide_eq_true_eq] at h
  obtain ⟨⟨⟨⟨⟨⟨⟨⟨⟨⟨⟨a1, a2⟩, a3⟩, a4⟩, a5⟩, a6⟩, a7⟩, a8⟩, a9⟩, a10⟩, a11⟩, a12⟩ := h
  exact ⟨a1, a2, a3, a4, a5, a6, a7, a8, a9, a10, a11, a12⟩
/-- pages times size, with a rest -/
theorem or_low {b x o : Int} (hb : 4 ≤ b ∧ b ≤ 8) (hx : 0 ≤ x) (ho : 0 ≤ o ∧ o < pgB b) : Builtin.bitOr (x * pgB b) o = x * pgB b + o := by
  have key : ∀ (k : Nat) (x o : Int), 0 ≤ o → o < 2 ^ k → Builtin.bitAnd (x * 2 ^ k) o = 0 := by
    intro k
    induction k with
    | zero =>
      intro x o h1 h2
      have : o = 0 := by simp at h2; omega
      subst this
      have := bitAnd_range (x * 2 ^ 0) (y := 0) (by decide)
      omega
    | succ k ih =>
      intro x o h1 h2
      have e : x * (2 : Int) ^ (k + 1) = x * 2 ^ k * 2 := by rw [Int.pow_succ, Int.mul_assoc]
      rw [e, kbt_halves]
      have e1 : x * (2 : Int) ^ k * 2 / 2 = x * 2 ^ k := Int.mul_ediv_cancel _ (by decide)
      have e2 : (x * (2 : Int) ^ k * 2) % 2 = 0 := Int.mul_emod_left _ _
      rw [e1, e2, ih x (o / 2) (by omega) (by rw [Int.pow_succ] at h2; generalize (2 : Int) ^ k = z at h2 ⊢; omega)]
      rfl
  have hpg : pgB b = 2 ^ b.toNat := rfl
  rw [bitOr_and, hpg, key _ _ _ ho.1 (by rw [← hpg]; exact ho.2)]
  omega
theorem or_pages {b x y o : Int} (hb : 4 ≤ b ∧ b ≤ 8) (hx : 0 ≤ x ∧ x < 4) (hy : 0 ≤ y ∧ y < 4) (ho : 0 ≤ o ∧ o < pgB b) : Builtin.bitOr (x * pgB b) (y * pgB b + o) = Builtin.bitOr x y * pgB b + o := by
  have key : ∀ (k : Nat) (x y o : Int), 0 ≤ o → o < 2 ^ k → Builtin.bitAnd (x * 2 ^ k) (y * 2 ^ k + o) = Builtin.bitAnd x y * 2 ^ k := by
    intro k
    induction k with
    | zero =>
      intro x y o h1 h2
      have : o = 0 := by simp at h2; omega
      subst this
      simp
    | succ k ih =>
      intro x y o h1 h2
      have e : ∀ z : Int, z * (2 : Int) ^ (k + 1) = z * 2 ^ k * 2 := fun z => by rw [Int.pow_succ, Int.mul_assoc]
      rw [e, e, e, kbt_halves]
      have e1 : x * (2 : Int) ^ k * 2 / 2 = x * 2 ^ k := Int.mul_ediv_cancel _ (by decide)
      have e2 : (x * (2 : Int) ^ k * 2) % 2 = 0 := Int.mul_emod_left _ _
      have e3 : (y * (2 : Int) ^ k * 2 + o) / 2 = y * 2 ^ k + o / 2 := by omega
      rw [e1, e2, e3, ih x y (o / 2) (by omega) (by rw [Int.pow_succ] at h2; generalize (2 : Int) ^ k = z at h2 ⊢; omega)]
      simp
      omega
  have hpg : pgB b = 2 ^ b.toNat := rfl
  rw [bitOr_and, bitOr_and, hpg, key _ _ _ _ ho.1 (by rw [← hpg]; exact ho.2), Int.sub_mul, Int.add_mul]
  omega
theorem pg_pos {b : Int} (hb : 4 ≤ b ∧ b ≤ 8) : 0 < pgB b := by have := (layN_b (layN_at hb)).2.1; omega
theorem div_page {b x o : Int} (hb : 4 ≤ b ∧ b ≤ 8) (ho : 0 ≤ o ∧ o < pgB b) : (x * pgB b + o).fdiv (pgB b) = x ∧ (x * pgB b + o).fmod (pgB b) = o := by
  have hp := pg_pos hb
  rw [Int.fdiv_eq_ediv_of_nonneg _ (Int.le_of_lt hp), Int.fmod_eq_emod_of_nonneg _ (Int.le_of_lt hp)]
  exact kbt_unique hp (by rw [Int.mul_comm (pgB b)]; omega) ho.1 ho.2
end Mine
end Q2
section Q3
open PySem PySem.W PyProof.Rows PySem.Calls PySem.Spec PyProof.V
set_option maxRecDepth 100000
set_option maxHeartbeats 8000000
set_option autoImplicit false
namespace Mine
/-- the page that an entry names -/
noncomputable def frE (e : Int) : Int := e.fdiv (2 ^ Int.toNat 10)
theorem frE_eq (e : Int) : frE e = e / 1024 := by
  unfold frE
  rw [show (2 : Int) ^ Int.toNat 10 = 1024 from by decide]
  exact Int.fdiv_eq_ediv_of_nonneg _ (by decide)
theorem phys_fr (b e : Int) : physS b e = frE e * pgB b := rfl
section
variable {b f g p fl ad : Int} {c : Cs} {S : Tab}
theorem Inv.fr (I : Inv S) (a s : Int) : 0 ≤ frE (S a s) ∧ frE (S a s) < 64 := by
  rw [frE_eq]; have := I.val a s; omega
theorem Inv.leaf (I : Inv S) {s : Int} (hv : v1S (S 0 s) = true) (hl : leafS (S 0 s) = true) : frE (S 0 s) < 4 := by
  rw [frE_eq]
  rcases I.first s with h | ⟨_, _, h⟩ | ⟨_, h, _⟩
  · rw [hv] at h; cases h
  · omega
  · rw [hl] at h; cases h
theorem Inv.node (I : Inv S) {s : Int} (hv : v1S (S 0 s) = true) (hl : leafS (S 0 s) = false) : 1 ≤ frE (S 0 s) ∧ frE (S 0 s) ≤ 3 := by
  rw [frE_eq]
  rcases I.first s with h | ⟨_, h, _⟩ | ⟨_, _, h1, h2⟩
  · rw [hv] at h; cases h
  · rw [hl] at h; cases h
  · omega
theorem e1_at (R : Rel b c S) (hf : 0 ≤ f ∧ f < 4) (h : pF b ad = f) : e1S b ad c = S 0 f := by
  have := R.look 0 f (by decide) (by omega)
  rw [← this]
  show kdfLook c ((0 + 4 * pF b ad).fdiv 4) 0 = kdfLook c ((0 * pgB b + 4 * f).fdiv 4) 0
  rw [h, Int.zero_mul]
theorem p1_ix (h : pF b ad = f) : (p1S b ad).fdiv 4 = ixS (pgB b) (0, f) := by
  show (0 + 4 * pF b ad).fdiv 4 = (0 * pgB b + 4 * f).fdiv 4
  rw [h, Int.zero_mul]
theorem p2_ix (R : Rel b c S) (hf : 0 ≤ f ∧ f < 4) (h : pF b ad = f) (h2 : pS b (enB b) ad = g) : (p2S b (enB b) ad c).fdiv 4 = ixS (pgB b) (frE (S 0 f), g) := by
  show (physS b (e1S b ad c) + 4 * pS b (enB b) ad).fdiv 4 = (frE (S 0 f) * pgB b + 4 * g).fdiv 4
  rw [e1_at R hf h, h2, phys_fr]
theorem e2_at (R : Rel b c S) (hf : 0 ≤ f ∧ f < 4) (hg : 0 ≤ g ∧ g < 4) (h : pF b ad = f) (h2 : pS b (enB b) ad = g) (hn : 1 ≤ frE (S 0 f) ∧ frE (S 0 f) ≤ 3) : e2S b (enB b) ad c = S (frE (S 0 f)) g := by
  have := R.look (frE (S 0 f)) g (by omega) (by omega)
  rw [← this]
  show kdfLook c ((p2S b (enB b) ad c).fdiv 4) 0 = _
  rw [p2_ix R hf h h2]
/-- what the walker finds in the tables: the page and the tables after -/
noncomputable def trT (S : Tab) (f g : Int) (k : Str) (mode sm mx : Int) : Option (Int × Tab) :=
  if soundS (S 0 f) = true then
    if leafS (S 0 f) = true then
      if (decide (frE (S 0 f) = 0) && mayS (S 0 f) k mode sm mx) = true then some (g, upd S 0 f (markS (S 0 f) k)) else none
    else if soundS (S (frE (S 0 f)) g) = true then
      if leafS (S (frE (S 0 f)) g) = true then
        if mayS (S (frE (S 0 f)) g) k mode sm mx = true then some (frE (S (frE (S 0 f)) g), upd S (frE (S 0 f)) g (markS (S (frE (S 0 f)) g) k)) else none
      else none
    else none
  else none
theorem sound_v1' {e : Int} (h : soundS e = true) : v1S e = true := sound_v1 h
theorem Rel.mark (hb : 4 ≤ b ∧ b ≤ 8) (R : Rel b c S) {a s e : Int} {k : Str} (ha : 0 ≤ a ∧ a ≤ 3) (hs : 0 ≤ s ∧ s ≤ 3) (he : S a s = e) : Rel b (markC c (ixS (pgB b) (a, s)) e k) (upd S a s (markS e k)) := by
  by_cases h : markS e k = e
  · rw [markC_eq h, h, upd_same he]; exact R
  · rw [markC_ne h]; exact R.put hb ha hs
theorem frame0 (hb : 4 ≤ b ∧ b ≤ 8) {x : Int} (hx : 0 ≤ x ∧ x < 4) : ((x * pgB b).fmod (lgB b) = 0) = (x = 0) := by
  have h := layN_at hb
  rw [Int.fmod_eq_emod_of_nonneg _ (by have := (layN_b h).2.2.2.1; omega)]
  refine propext ?_
  rcases h with ⟨_, h1, h2, h3, _⟩ | ⟨_, h1, h2, h3, _⟩ | ⟨_, h1, h2, h3, _⟩ | ⟨_, h1, h2, h3, _⟩ | ⟨_, h1, h2, h3, _⟩ <;> rw [h1, h3] <;> omega
theorem okL_at (hb : 4 ≤ b ∧ b ≤ 8) {e : Int} {k : Str} {mode sm mx : Int} (hx : 0 ≤ frE e ∧ frE e < 4) : okL b (lgB b) e k mode sm mx = (decide (frE e = 0) && mayS e k mode sm mx) := by
  unfold okL
  have := frame0 hb hx
  rw [phys_fr]
  congr 1
  rw [decide_eq_decide, this]
/-- both: the same page, the rest of the address; the tables after -/
theorem tr_at (hb : 4 ≤ b ∧ b ≤ 8) (hf : 0 ≤ f ∧ f < 4) (hg : 0 ≤ g ∧ g < 4) (R : Rel b c S) (I : Inv S) (F : AdF b f g p ad) (k : Str) (mode sm mx : Int) :
    match trS b (pgB b) (enB b) (lgB b) ad c k mode sm mx, trT S f g k mode sm mx with
    | some (v, c'), some (x, S') => v.fdiv (pgB b) = x ∧ (v.fmod (pgB b) * 16).fdiv (pgB b) = p ∧ Rel b c' S'
    | none, none => True
    | _, _ => False := by
  have ho : 0 ≤ pO (pgB b) ad ∧ pO (pgB b) ad < pgB b := ⟨F.olo, F.ohi⟩
  unfold trS trT
  rw [e1_at R hf F.ff]
  by_cases h1 : soundS (S 0 f) = true
  · rw [if_pos h1, if_pos h1]
    by_cases h2 : leafS (S 0 f) = true
    · have hx := I.leaf (sound_v1 h1) h2
      have hx0 := (I.fr 0 f).1
      rw [if_pos h2, if_pos h2, okL_at hb ⟨hx0, hx⟩]
      by_cases h3 : (decide (frE (S 0 f) = 0) && mayS (S 0 f) k mode sm mx) = true
      · rw [if_pos h3, if_pos h3]
        have h0 : frE (S 0 f) = 0 := by simp only [Bool.and_eq_true, decide_eq_true_eq] at h3; exact h3.1
        have hv : Builtin.bitOr (physS b (S 0 f)) (Builtin.bitAnd ad (lgB b - 1)) = g * pgB b + pO (pgB b) ad := by
          rw [F.lg, phys_fr, or_pages hb ⟨hx0, hx⟩ hg ho, h0]
          congr 2
          rw [bitOr_and]
          have := bitAnd_range g (y := 0) (by decide)
          rw [bitAnd_comm] at this
          omega
        refine ⟨?_, ?_, ?_⟩
        · rw [hv]; exact (div_page hb ho).1
        · rw [hv, (div_page hb ho).2]; exact F.fo
        · rw [p1_ix F.ff]
          exact R.mark hb (by decide) (by omega) rfl
      · rw [if_neg h3, if_neg h3]; trivial
    · have h2' : leafS (S 0 f) = false := by simpa using h2
      have hn := I.node (sound_v1 h1) h2'
      rw [if_neg h2, if_neg h2, e2_at R hf hg F.ff F.fs hn]
      by_cases h3 : soundS (S (frE (S 0 f)) g) = true
      · rw [if_pos h3, if_pos h3]
        by_cases h4 : leafS (S (frE (S 0 f)) g) = true
        · rw [if_pos h4, if_pos h4]
          by_cases h5 : mayS (S (frE (S 0 f)) g) k mode sm mx = true
          · rw [if_pos h5, if_pos h5]
            have hv : Builtin.bitOr (physS b (S (frE (S 0 f)) g)) (pO (pgB b) ad) = frE (S (frE (S 0 f)) g) * pgB b + pO (pgB b) ad := by
              rw [phys_fr, or_low hb (I.fr _ _).1 ho]
            refine ⟨?_, ?_, ?_⟩
            · rw [hv]; exact (div_page hb ho).1
            · rw [hv, (div_page hb ho).2]; exact F.fo
            · rw [p2_ix R hf F.ff F.fs]
              exact R.mark hb (by omega) (by omega) rfl
          · rw [if_neg h5, if_neg h5]; trivial
        · rw [if_neg h4, if_neg h4]; trivial
      · rw [if_neg h3, if_neg h3]; trivial
  · rw [if_neg h1, if_neg h1]; trivial
end
end Mine
end Q3
section Q4
open PySem PySem.W PyProof.Rows PySem.Calls PySem.Spec PyProof.V
set_option maxRecDepth 100000
set_option maxHeartbeats 8000000
set_option autoImplicit false
namespace Mine
noncomputable def askT0 (S : Tab) (f g p fl : Int) : PyData × Tab :=
  match trT S f g (kindS fl) ((fl.fdiv 3).fmod 2) (((fl.fdiv 6).fmod 4).fmod 2) (((fl.fdiv 6).fmod 4).fdiv 2) with
  | some (x, S') => (.list [.tuple [.int x, .int p], .bool true], S')
  | none => (.list [.str (Str.ofString "trap"), .int (pfS (kindS fl)), .tuple [.int f, .int g], .int p], S)
noncomputable def enT (S : Tab) (f g : Int) : Int := if v1S (S 0 f) = true then (if leafS (S 0 f) = true then S 0 f else if v1S (S (frE (S 0 f)) g) = true then S (frE (S 0 f)) g else 0) else 0
noncomputable def phT (S : Tab) (f g p : Int) : PyData := if enT S f g = 0 then .none else .tuple [.int (if leafS (S 0 f) = true then Builtin.bitOr (frE (S 0 f)) g else frE (enT S f g)), .int p]
noncomputable def npT (S : Tab) (f g : Int) : Bool := v1S (S 0 f) && !leafS (S 0 f) && v1S (S (frE (S 0 f)) g)
noncomputable def askT2 (S : Tab) (f g : Int) : PyData × Tab := if npT S f g = true then (.list [.int (frE (S (frE (S 0 f)) g))], upd S (frE (S 0 f)) g 0) else (argD, S)
noncomputable def askT3 (S : Tab) (f g fl : Int) : PyData × Tab :=
  if (npT S f g && nfS (cfS (S (frE (S 0 f)) g) (addS fl) (takeS fl))) = true then (.list [.int (Builtin.bitOr (chS (S (frE (S 0 f)) g) (addS fl) (takeS fl)) 1)], upd S (frE (S 0 f)) g (Builtin.bitOr (chS (S (frE (S 0 f)) g) (addS fl) (takeS fl)) 1)) else (argD, S)
noncomputable def askT4 (S : Tab) (f g fl : Int) : PyData × Tab :=
  if (npT S f g && nfS (mvS fl)) = true then (.list [.int (frE (S (frE (S 0 f)) g))], upd S (frE (S 0 f)) g (Builtin.bitOr ((fl.fdiv 5).fmod 40 * 2 ^ Int.toNat 10) (Builtin.bitOr (mvS fl) 1))) else (argD, S)
noncomputable def askT (S : Tab) (f g p way fl : Int) : PyData × Tab :=
  if way = 0 then askT0 S f g p fl else if way = 1 then (.list [.int (enT S f g), phT S f g p], S) else if way = 2 then askT2 S f g else if way = 3 then askT3 S f g fl else askT4 S f g fl
section
variable {b f g p fl way ad : Int} {c : Cs} {S : Tab}
theorem np_at (hf : 0 ≤ f ∧ f < 4) (hg : 0 ≤ g ∧ g < 4) (R : Rel b c S) (I : Inv S) (h : pF b ad = f) (h2 : pS b (enB b) ad = g) : npS b (enB b) ad c = npT S f g := by
  unfold npS npT
  rw [e1_at R hf h]
  cases hv : v1S (S 0 f) with
  | false => rfl
  | true =>
    cases hl : leafS (S 0 f) with
    | true => rfl
    | false => rw [e2_at R hf hg h h2 (I.node hv hl)]
theorem npT_of (h : npT S f g = true) (I : Inv S) : 1 ≤ frE (S 0 f) ∧ frE (S 0 f) ≤ 3 := by
  unfold npT at h
  simp only [Bool.and_eq_true, Bool.not_eq_true'] at h
  exact I.node h.1.1 h.1.2
theorem en_at (hf : 0 ≤ f ∧ f < 4) (hg : 0 ≤ g ∧ g < 4) (R : Rel b c S) (I : Inv S) (h : pF b ad = f) (h2 : pS b (enB b) ad = g) : enS b (enB b) ad c = enT S f g := by
  unfold enS enT
  rw [e1_at R hf h]
  by_cases hv : v1S (S 0 f) = true
  · rw [if_pos hv, if_pos hv]
    by_cases hl : leafS (S 0 f) = true
    · rw [if_pos hl, if_pos hl]
    · rw [if_neg hl, if_neg hl, e2_at R hf hg h h2 (I.node hv (by simpa using hl))]
  · rw [if_neg hv, if_neg hv]
theorem fdiv_page (hb : 4 ≤ b ∧ b ≤ 8) (x : Int) : (x * pgB b).fdiv (pgB b) = x := Int.mul_fdiv_cancel _ (by have := pg_pos hb; omega)
theorem ph_at (hb : 4 ≤ b ∧ b ≤ 8) (hf : 0 ≤ f ∧ f < 4) (hg : 0 ≤ g ∧ g < 4) (R : Rel b c S) (I : Inv S) (F : AdF b f g p ad) : optD (pgB b) (phS b (enB b) (pgB b) (lgB b) ad c) = phT S f g p := by
  have ho : 0 ≤ pO (pgB b) ad ∧ pO (pgB b) ad < pgB b := ⟨F.olo, F.ohi⟩
  unfold phS phT
  rw [en_at hf hg R I F.ff F.fs, e1_at R hf F.ff]
  by_cases h0 : enT S f g = 0
  · rw [if_pos h0, if_pos h0]; rfl
  · rw [if_neg h0, if_neg h0]
    have hv : v1S (S 0 f) = true := by
      refine Decidable.byContradiction fun e => h0 ?_
      unfold enT; rw [if_neg e]
    by_cases hl : leafS (S 0 f) = true
    · have he : enT S f g = S 0 f := by unfold enT; rw [if_pos hv, if_pos hl]
      rw [if_pos hl, if_pos hl, he, F.lg, phys_fr, or_pages hb ⟨(I.fr 0 f).1, I.leaf hv hl⟩ hg ho]
      show PyData.tuple _ = _
      rw [(div_page hb ho).1, (div_page hb ho).2, F.fo]
    · have hl' : leafS (S 0 f) = false := by simpa using hl
      have hfr : 0 ≤ frE (enT S f g) := by
        rw [frE_eq]
        unfold enT
        rw [if_pos hv, if_neg hl]
        split
        · have := (I.val (frE (S 0 f)) g).1; omega
        · decide
      rw [if_neg hl, if_neg hl, phys_fr, or_low hb hfr ho]
      show PyData.tuple _ = _
      rw [(div_page hb ho).1, (div_page hb ho).2, F.fo]
theorem ask_at (hb : 4 ≤ b ∧ b ≤ 8) (hf : 0 ≤ f ∧ f < 4) (hg : 0 ≤ g ∧ g < 4) (hp : 0 ≤ p ∧ p < 16) (R : Rel b c S) (I : Inv S) : (askB b f g p way fl c).1 = (askT S f g p way fl).1 ∧ Rel b (askB b f g p way fl c).2 (askT S f g p way fl).2 := by
  have F := adF hb hf hg hp
  show (askS b (pgB b) (enB b) (lgB b) (adB b f g p) fl way c).1 = _ ∧ Rel b (askS b (pgB b) (enB b) (lgB b) (adB b f g p) fl way c).2 _
  generalize adB b f g p = ad at F
  have hnp := np_at hf hg R I F.df F.ds
  unfold askS askT
  by_cases h0 : way = 0
  · rw [if_pos h0, if_pos h0]
    have h := tr_at hb hf hg R I F (kindS fl) ((fl.fdiv 3).fmod 2) (((fl.fdiv 6).fmod 4).fmod 2) (((fl.fdiv 6).fmod 4).fdiv 2)
    unfold ask0 askT0 trA
    revert h
    cases trS b (pgB b) (enB b) (lgB b) ad c (kindS fl) ((fl.fdiv 3).fmod 2) (((fl.fdiv 6).fmod 4).fmod 2) (((fl.fdiv 6).fmod 4).fdiv 2) with
    | none =>
      cases trT S f g (kindS fl) ((fl.fdiv 3).fmod 2) (((fl.fdiv 6).fmod 4).fmod 2) (((fl.fdiv 6).fmod 4).fdiv 2) with
      | none =>
        intro _
        refine ⟨?_, R⟩
        show trapD b (pgB b) (enB b) ad fl = _
        unfold trapD
        rw [F.ff, F.fs, F.fo]
      | some y => intro h; exact h.elim
    | some x =>
      cases trT S f g (kindS fl) ((fl.fdiv 3).fmod 2) (((fl.fdiv 6).fmod 4).fmod 2) (((fl.fdiv 6).fmod 4).fdiv 2) with
      | none => intro h; exact h.elim
      | some y =>
        obtain ⟨v, c'⟩ := x
        obtain ⟨z, S'⟩ := y
        rintro ⟨h1, h2, h3⟩
        refine ⟨?_, h3⟩
        show PyData.list [seenD (pgB b) v, .bool true] = .list [.tuple [.int z, .int p], .bool true]
        unfold seenD
        rw [h1, h2]
  · rw [if_neg h0, if_neg h0]
    by_cases h1 : way = 1
    · rw [if_pos h1, if_pos h1]
      refine ⟨?_, R⟩
      show PyData.list [.int (enS b (enB b) ad c), optD (pgB b) (phS b (enB b) (pgB b) (lgB b) ad c)] = _
      rw [en_at hf hg R I F.ff F.fs, ph_at hb hf hg R I F]
    · rw [if_neg h1, if_neg h1]
      by_cases h2 : way = 2
      · rw [if_pos h2, if_pos h2]
        unfold ask2 askT2
        rw [hnp]
        by_cases hn : npT S f g = true
        · have hx := npT_of hn I
          rw [if_pos hn, if_pos hn, e2_at R hf hg F.df F.ds hx, p2_ix R hf F.df F.ds, phys_fr, fdiv_page hb]
          have hr := R.put (v := 0) (a := frE (S 0 f)) (s := g) hb (by omega) (by omega)
          exact ⟨rfl, hr⟩
        · rw [if_neg hn, if_neg hn]; exact ⟨rfl, R⟩
      · rw [if_neg h2, if_neg h2]
        by_cases h3 : way = 3
        · rw [if_pos h3, if_pos h3]
          unfold ask3 askT3
          rw [hnp]
          cases hn : npT S f g with
          | false => exact ⟨rfl, R⟩
          | true =>
            have hx := npT_of hn I
            rw [e2_at R hf hg F.df F.ds hx, p2_ix R hf F.df F.ds]
            by_cases hq : (true && nfS (cfS (S (frE (S 0 f)) g) (addS fl) (takeS fl))) = true
            · rw [if_pos hq, if_pos hq]
              exact ⟨rfl, R.put hb (by omega) (by omega)⟩
            · rw [if_neg hq, if_neg hq]; exact ⟨rfl, R⟩
        · rw [if_neg h3, if_neg h3]
          unfold ask4 askT4
          rw [hnp]
          cases hn : npT S f g with
          | false => exact ⟨rfl, R⟩
          | true =>
            have hx := npT_of hn I
            rw [e2_at R hf hg F.df F.ds hx, p2_ix R hf F.df F.ds]
            by_cases hq : (true && nfS (mvS fl)) = true
            · have he : entS b ((fl.fdiv 5).fmod 40 * pgB b) (Builtin.bitOr (mvS fl) 1) = Builtin.bitOr ((fl.fdiv 5).fmod 40 * 2 ^ Int.toNat 10) (Builtin.bitOr (mvS fl) 1) := by
                show Builtin.bitOr (((fl.fdiv 5).fmod 40 * pgB b).fdiv (pgB b) * 2 ^ Int.toNat 10) _ = _
                rw [fdiv_page hb]
              rw [if_pos hq, if_pos hq, phys_fr, fdiv_page hb, he]
              exact ⟨rfl, R.put hb (by omega) (by omega)⟩
            · rw [if_neg hq, if_neg hq]; exact ⟨rfl, R⟩
theorem Inv.upd1 (I : Inv S) {a s v : Int} (ha : a ≠ 0) (hv : 0 ≤ v ∧ v < 65536) : Inv (upd S a s v) := by
  refine ⟨fun a' s' => ?_, fun s' => ?_⟩
  · unfold upd; split
    · exact hv
    · exact I.val a' s'
  · unfold upd
    rw [if_neg fun e => ha e.1.symm]
    exact I.first s'
theorem Inv.upd0 (I : Inv S) {s v : Int} (hv : 0 ≤ v ∧ v < 65536) (hF : FE v) : Inv (upd S 0 s v) := by
  refine ⟨fun a' s' => ?_, fun s' => ?_⟩
  · unfold upd; split
    · exact hv
    · exact I.val a' s'
  · unfold upd; split
    · exact hF
    · exact I.first s'
noncomputable def feT (e : Int) : Bool := if (v1S e && leafS e) = true then (v1S (Builtin.bitOr (Builtin.bitOr e 64) 128) && leafS (Builtin.bitOr (Builtin.bitOr e 64) 128) && decide (Builtin.bitOr (Builtin.bitOr e 64) 128 < 4096)) && (v1S (Builtin.bitOr (Builtin.bitOr e 64) 0) && leafS (Builtin.bitOr (Builtin.bitOr e 64) 0) && decide (Builtin.bitOr (Builtin.bitOr e 64) 0 < 4096)) else true
theorem feT_all : ((List.range 1024).all fun (e : Nat) => feT (e : Int)) = true := by decide +kernel
theorem fe_mark {e : Int} {k : Str} (h0 : 0 ≤ e ∧ e < 1024) (hv : v1S e = true) (hl : leafS e = true) : FE (markS e k) := by
  have h := List.all_eq_true.mp feT_all e.toNat (List.mem_range.mpr (by omega))
  rw [Int.toNat_of_nonneg h0.1] at h
  unfold feT at h
  simp only [hv, hl, Bool.and_self, if_true, Bool.and_eq_true, decide_eq_true_eq] at h
  unfold markS
  split
  · exact .inr (.inl ⟨h.1.1.1, h.1.1.2, h.1.2⟩)
  · exact .inr (.inl ⟨h.2.1.1, h.2.1.2, h.2.2⟩)
theorem inv_tr (I : Inv S) {k : Str} {mode sm mx x : Int} {S' : Tab} (h : trT S f g k mode sm mx = some (x, S')) : Inv S' := by
  unfold trT at h
  split at h
  · rename_i h1
    split at h
    · rename_i h2
      split at h
      · rename_i h3
        injection h with h; injection h with h4 h5
        subst h5
        have h0 : frE (S 0 f) = 0 := by simp only [Bool.and_eq_true, decide_eq_true_eq] at h3; exact h3.1
        rw [frE_eq] at h0
        have hv := I.val 0 f
        exact I.upd0 (mark_lt hv) (fe_mark ⟨hv.1, by omega⟩ (sound_v1 h1) h2)
      · cases h
    · rename_i h2
      split at h
      · split at h
        · split at h
          · injection h with h; injection h with h4 h5
            subst h5
            have hn := I.node (sound_v1 h1) (by simpa using h2)
            exact I.upd1 (by omega) (mark_lt (I.val _ _))
          · cases h
        · cases h
      · cases h
  · cases h
theorem inv_ask (I : Inv S) : Inv (askT S f g p way fl).2 := by
  unfold askT
  split
  · unfold askT0
    split
    · exact inv_tr I (by assumption)
    · exact I
  · split
    · exact I
    · split
      · unfold askT2
        split
        · rename_i hn
          have hx := npT_of hn I
          exact I.upd1 (by omega) (by decide)
        · exact I
      · split
        · unfold askT3
          split
          · rename_i hn
            rw [Bool.and_eq_true] at hn
            have hx := npT_of hn.1 I
            exact I.upd1 (by omega) (or_lt (ch_lt (I.val _ _)) (by decide))
          · exact I
        · unfold askT4
          split
          · rename_i hn
            rw [Bool.and_eq_true] at hn
            have hx := npT_of hn.1 I
            have hm := mvS_lt fl
            have hk := fm (a := fl.fdiv 5) (n := 40) (by decide)
            refine I.upd1 (by omega) (or_lt ?_ (or_lt ⟨hm.1, by omega⟩ (by decide)))
            have e : (2 : Int) ^ Int.toNat 10 = 1024 := by decide
            rw [e]
            omega
          · exact I
end
end Mine
end Q4
section Q5
open PySem PySem.W PyProof.Rows PySem.Calls PySem.Spec PyProof.V
set_option maxRecDepth 100000
set_option maxHeartbeats 8000000
set_option autoImplicit false
namespace Mine
theorem mem_setK {S : Cells} {k : Int × Int} {v : Int} {e : (Int × Int) × Int} (h : e ∈ setK S k v) : e ∈ S ∨ e = (k, v) := by
  unfold setK at h
  split at h
  · obtain ⟨x, hx, rfl⟩ := List.mem_map.mp h
    split
    · rename_i q; exact .inr (by rw [q])
    · exact .inl hx
  · rcases List.mem_append.mp h with h | h
    · exact .inl h
    · exact .inr (List.mem_singleton.mp h)
/-- what each entry of the cells is -/
noncomputable def EntOk (e : (Int × Int) × Int) : Prop := (0 ≤ e.1.1 ∧ e.1.1 ≤ 3) ∧ (0 ≤ e.1.2 ∧ e.1.2 ≤ 3) ∧ (0 ≤ e.2 ∧ e.2 < 65536) ∧ (e.1.1 = 0 → FE e.2)
noncomputable def FEb (e : Int) : Bool := !v1S e || (leafS e && decide (e < 4096)) || (decide (1024 ≤ e) && decide (e < 4096))
theorem fe_of {e : Int} (h : FEb e = true) : FE e := by
  unfold FEb at h
  unfold FE
  cases hv : v1S e with
  | false => exact .inl rfl
  | true =>
    rw [hv] at h
    cases hl : leafS e with
    | true =>
      rw [hl] at h
      simp only [Bool.not_true, Bool.true_and, Bool.false_or, Bool.or_eq_true, Bool.and_eq_true, decide_eq_true_eq] at h
      exact .inr (.inl ⟨rfl, rfl, by omega⟩)
    | false =>
      rw [hl] at h
      simp only [Bool.not_true, Bool.false_and, Bool.false_or, Bool.and_eq_true, decide_eq_true_eq] at h
      exact .inr (.inr ⟨rfl, rfl, h.1, h.2⟩)
theorem fe_a : ((List.range 256).all fun (e : Nat) => FEb (if Builtin.bitAnd (e : Int) 11 = 1 then Builtin.bitOr (e : Int) 2 else (e : Int)) && decide (0 ≤ (if Builtin.bitAnd (e : Int) 11 = 1 then Builtin.bitOr (e : Int) 2 else (e : Int))) && decide ((if Builtin.bitAnd (e : Int) 11 = 1 then Builtin.bitOr (e : Int) 2 else (e : Int)) < 65536)) = true := by decide +kernel
theorem ent_step {S : Cells} {n : Int} (hS : ∀ e ∈ S, EntOk e) (hn : 0 ≤ n) : ∀ e ∈ entStep S n, EntOk e := by
  have m4 := fm (a := n) (n := 4) (by decide)
  have m3 := fm (a := n) (n := 3) (by decide)
  have q4 := fm (a := n.fdiv 4) (n := 4) (by decide)
  have fl := fm (a := n.fdiv 16) (n := 256) (by decide)
  have fr := fm (a := n.fdiv 4096) (n := 40) (by decide)
  have f3 := fm (a := (n.fdiv 4096).fmod 40) (n := 3) (by decide)
  have big : ∀ x y : Int, 0 ≤ x → x < 3 → 0 ≤ y → y < 256 → EntOk ((0, n.fmod 4), 1024 * (1 + x) + y) := fun x y h1 h2 h3 h4 =>
    ⟨by show (0 : Int) ≤ 0 ∧ (0 : Int) ≤ 3; decide, by show 0 ≤ n.fmod 4 ∧ n.fmod 4 ≤ 3; omega, by show 0 ≤ 1024 * (1 + x) + y ∧ 1024 * (1 + x) + y < 65536; omega, fun _ => fe_of (by
      show FEb (1024 * (1 + x) + y) = true
      unfold FEb
      simp only [Bool.or_eq_true, Bool.and_eq_true, decide_eq_true_eq]
      exact .inr (by omega))⟩
  intro e he
  unfold entStep at he
  split at he
  · rcases mem_setK he with h | h
    · rcases mem_setK h with h | h
      · exact hS e h
      · rw [h]; exact big _ 1 m3.1 m3.2 (by decide) (by decide)
    · rw [h]
      refine ⟨by show 0 ≤ 1 + n.fmod 3 ∧ 1 + n.fmod 3 ≤ 3; omega, by show 0 ≤ (n.fdiv 4).fmod 4 ∧ (n.fdiv 4).fmod 4 ≤ 3; omega, by show 0 ≤ 1024 * (n.fdiv 4096).fmod 40 + (n.fdiv 16).fmod 256 ∧ 1024 * (n.fdiv 4096).fmod 40 + (n.fdiv 16).fmod 256 < 65536; omega, fun q => ?_⟩
      have q' : 1 + n.fmod 3 = 0 := q
      omega
  · split at he
    · rcases mem_setK he with h | h
      · exact hS e h
      · have ha := List.all_eq_true.mp fe_a ((n.fdiv 16).fmod 256).toNat (List.mem_range.mpr (by omega))
        rw [Int.toNat_of_nonneg fl.1] at ha
        simp only [Bool.and_eq_true, decide_eq_true_eq] at ha
        rw [h]
        exact ⟨by show (0 : Int) ≤ 0 ∧ (0 : Int) ≤ 3; decide, by show 0 ≤ n.fmod 4 ∧ n.fmod 4 ≤ 3; omega, ⟨ha.1.2, ha.2⟩, fun _ => fe_of ha.1.1⟩
    · rcases mem_setK he with h | h
      · exact hS e h
      · rw [h]; exact big _ _ f3.1 f3.2 fl.1 fl.2
theorem ent_all {ns : List Int} (hn : ∀ n ∈ ns, 0 ≤ n ∧ n < 1000000000000) : ∀ i, ∀ e ∈ entN ns i, EntOk e
  | 0 => fun e h => (nomatch h)
  | i + 1 => by
    cases h : ns[i]? with
    | none =>
      have : entN ns (i + 1) = entN ns i := by
        show (match ns[i]? with | some n => entStep (entN ns i) n | none => entN ns i) = _
        rw [h]
      rw [this]; exact ent_all hn i
    | some n =>
      rw [entN_step h]
      exact ent_step (ent_all hn i) (hn n (List.mem_of_getElem? h)).1
theorem okc {ns : List Int} (hn : ∀ n ∈ ns, 0 ≤ n ∧ n < 1000000000000) (hl : ns.length ≤ 10) : OKC (entN ns ns.length) :=
  ⟨by have := entN_len ns ns.length; omega, fun e he => let h := ent_all hn _ e he; ⟨h.1, h.2.1, h.2.2.1.1, h.2.2.1.2⟩⟩
/-- the tables that the cells lay -/
noncomputable def tabN (E : Cells) : Nat → Tab
  | 0 => fun _ _ => 0
  | n + 1 => match E[n]? with
    | some e => upd (tabN E n) e.1.1 e.1.2 e.2
    | none => tabN E n
theorem rel_cells {b : Int} (hb : 4 ≤ b ∧ b ≤ 8) {E : Cells} (hE : ∀ e ∈ E, EntOk e) : ∀ n, Rel b (cellsN (pgB b) E n) (tabN E n)
  | 0 => Rel.nil
  | n + 1 => by
    have ih := rel_cells hb hE n
    unfold cellsN tabN
    cases h : E[n]? with
    | none => exact ih
    | some e =>
      have he := hE e (List.mem_of_getElem? h)
      exact ih.put hb he.1 he.2.1
theorem inv_cells {E : Cells} (hE : ∀ e ∈ E, EntOk e) : ∀ n, Inv (tabN E n)
  | 0 => ⟨fun _ _ => ⟨Int.le_refl 0, show (0 : Int) < 65536 from by decide⟩, fun _ => .inl (show v1S 0 = false from by decide +kernel)⟩
  | n + 1 => by
    have ih := inv_cells hE n
    unfold tabN
    cases h : E[n]? with
    | none => exact ih
    | some e =>
      have he := hE e (List.mem_of_getElem? h)
      refine ⟨fun a s => ?_, fun s => ?_⟩
      · show 0 ≤ upd _ _ _ _ a s ∧ upd _ _ _ _ a s < 65536
        unfold upd; split
        · exact he.2.2.1
        · exact ih.val a s
      · show FE (upd _ _ _ _ 0 s)
        unfold upd; split
        · rename_i q; exact he.2.2.2 q.1.symm
        · exact ih.first s
theorem same0 {b1 b2 : Int} (hb1 : 4 ≤ b1 ∧ b1 ≤ 8) (hb2 : 4 ≤ b2 ∧ b2 ≤ 8) {ns : List Int} (hn : ∀ n ∈ ns, 0 ≤ n ∧ n < 1000000000000) : Same b1 b2 (cellsN (pgB b1) (entN ns ns.length) (entN ns ns.length).length) (cellsN (pgB b2) (entN ns ns.length) (entN ns ns.length).length) :=
  ⟨_, rel_cells hb1 (ent_all hn _) _, rel_cells hb2 (ent_all hn _) _, inv_cells (ent_all hn _) _⟩
end Mine
end Q5
section Q6
open PySem PySem.W PyProof.Rows PySem.Calls PySem.Spec PyProof.V
set_option maxRecDepth 100000
set_option maxHeartbeats 8000000
set_option autoImplicit false
namespace Mine
noncomputable def Good (b : Int) (c : Cs) : Prop := ∃ S, Rel b c S ∧ Inv S
theorem Same.g1 {b1 b2 : Int} {c1 c2 : Cs} (h : Same b1 b2 c1 c2) : Good b1 c1 := let ⟨S, r, _, i⟩ := h; ⟨S, r, i⟩
theorem Same.g2 {b1 b2 : Int} {c1 c2 : Cs} (h : Same b1 b2 c1 c2) : Good b2 c2 := let ⟨S, _, r, i⟩ := h; ⟨S, r, i⟩
theorem en_nat {b : Int} (hb : 4 ≤ b ∧ b ≤ 8) : enB b = ((enB b).toNat : Int) := by
  have : b = 4 ∨ b = 5 ∨ b = 6 ∨ b = 7 ∨ b = 8 := by omega
  rcases this with rfl | rfl | rfl | rfl | rfl <;> decide
section
variable {b b1 b2 : Int} {c c1 c2 : Cs} {S : Tab} {f g part way fl ad : Int}
theorem Good.len (h : Good b c) (hb : 4 ≤ b ∧ b ≤ 8) : c.length < 60 := let ⟨_, R, _⟩ := h; R.length
theorem rel_val (R : Rel b c S) (I : Inv S) (i : Int) : 0 ≤ kdfLook c i 0 ∧ kdfLook c i 0 < 65536 := by
  by_cases h : kdfLook c i 0 = 0
  · rw [h]; decide
  · obtain ⟨a, s, ha, hs, e⟩ := R.keys _ (look_mem h)
    have e' : i = ixS (pgB b) (a, s) := e
    rw [e', R.look a s ha hs]
    exact I.val a s
theorem Good.val (h : Good b c) (hb : 4 ≤ b ∧ b ≤ 8) : ∀ i, 0 ≤ kdfLook c i 0 ∧ kdfLook c i 0 < 65536 := let ⟨_, R, I⟩ := h; rel_val R I
theorem Good.keys (h : Good b c) (hb : 4 ≤ b ∧ b ≤ 8) : ∀ q ∈ c, 0 ≤ q.1 ∧ q.1 < 256 := fun q hq => by
  obtain ⟨S, R, I⟩ := h
  obtain ⟨a, s, ha, hs, e⟩ := R.keys q hq
  rw [e]
  exact ix_rng hb ha hs
theorem p1_ok (hb : 4 ≤ b ∧ b ≤ 8) (hf : 0 ≤ f ∧ f < 4) (h : pF b ad = f) : (0 ≤ p1S b ad ∧ p1S b ad + 4 ≤ 4 * pgB b) ∧ (p1S b ad).fmod 4 = 0 := by
  have z := spot_ok (layN_at hb) (a := 0) (c := f) (by decide) (by omega)
  rw [Int.zero_mul] at z
  show (0 ≤ 0 + 4 * pF b ad ∧ 0 + 4 * pF b ad + 4 ≤ 4 * pgB b) ∧ (0 + 4 * pF b ad).fmod 4 = 0
  rw [h]
  exact ⟨z.1, z.2.1⟩
theorem p2_ok (hb : 4 ≤ b ∧ b ≤ 8) (hf : 0 ≤ f ∧ f < 4) (hg : 0 ≤ g ∧ g < 4) (R : Rel b c S) (I : Inv S) (h : pF b ad = f) (h2 : pS b (enB b) ad = g) :
    v1S (e1S b ad c) = true → leafS (e1S b ad c) = false → (0 ≤ p2S b (enB b) ad c ∧ p2S b (enB b) ad c + 4 ≤ 4 * pgB b) ∧ (p2S b (enB b) ad c).fmod 4 = 0 := by
  intro hv hl
  show (0 ≤ physS b (e1S b ad c) + 4 * pS b (enB b) ad ∧ physS b (e1S b ad c) + 4 * pS b (enB b) ad + 4 ≤ 4 * pgB b) ∧ (physS b (e1S b ad c) + 4 * pS b (enB b) ad).fmod 4 = 0
  rw [e1_at R hf h] at hv hl ⊢
  have hn := I.node hv hl
  have z := spot_ok (layN_at hb) (a := frE (S 0 f)) (c := g) (by omega) (by omega)
  rw [h2, phys_fr]
  exact ⟨z.1, z.2.1⟩
section
variable (hb : 4 ≤ b ∧ b ≤ 8) (hf : 0 ≤ f ∧ f < 4) (hg : 0 ≤ g ∧ g < 4) (hp : 0 ≤ part ∧ part < 16)
include hb hf hg hp
theorem ad_in : 0 ≤ adB b f g part ∧ adB b f g part < edB b := ⟨(adF hb hf hg hp).lo, (adF hb hf hg hp).hi⟩
theorem ad_p1 : 0 ≤ p1S b (adB b f g part) ∧ p1S b (adB b f g part) + 4 ≤ 4 * pgB b := (p1_ok hb hf (adF hb hf hg hp).ff).1
theorem ad_p1m : (p1S b (adB b f g part)).fmod 4 = 0 := (p1_ok hb hf (adF hb hf hg hp).ff).2
theorem Good.p2 (h : Good b c) : v1S (e1S b (adB b f g part) c) = true → leafS (e1S b (adB b f g part) c) = false → (0 ≤ p2S b (enB b) (adB b f g part) c ∧ p2S b (enB b) (adB b f g part) c + 4 ≤ 4 * pgB b) ∧ (p2S b (enB b) (adB b f g part) c).fmod 4 = 0 :=
  let ⟨_, R, I⟩ := h; p2_ok hb hf hg R I (adF hb hf hg hp).ff (adF hb hf hg hp).fs
theorem dn_in : 0 ≤ downS (pgB b) (adB b f g part) ∧ downS (pgB b) (adB b f g part) < edB b := ⟨(adF hb hf hg hp).dlo, (adF hb hf hg hp).dhi⟩
theorem dn_p1 : 0 ≤ p1S b (downS (pgB b) (adB b f g part)) ∧ p1S b (downS (pgB b) (adB b f g part)) + 4 ≤ 4 * pgB b := (p1_ok hb hf (adF hb hf hg hp).df).1
theorem dn_p1m : (p1S b (downS (pgB b) (adB b f g part))).fmod 4 = 0 := (p1_ok hb hf (adF hb hf hg hp).df).2
theorem Good.p2D (h : Good b c) : v1S (e1S b (downS (pgB b) (adB b f g part)) c) = true → leafS (e1S b (downS (pgB b) (adB b f g part)) c) = false → (0 ≤ p2S b (enB b) (downS (pgB b) (adB b f g part)) c ∧ p2S b (enB b) (downS (pgB b) (adB b f g part)) c + 4 ≤ 4 * pgB b) ∧ (p2S b (enB b) (downS (pgB b) (adB b f g part)) c).fmod 4 = 0 :=
  let ⟨_, R, I⟩ := h; p2_ok hb hf hg R I (adF hb hf hg hp).df (adF hb hf hg hp).ds
end
theorem same_ask (h : Same b1 b2 c1 c2) (hb1 : 4 ≤ b1 ∧ b1 ≤ 8) (hb2 : 4 ≤ b2 ∧ b2 ≤ 8) (hf : 0 ≤ f ∧ f < 4) (hg : 0 ≤ g ∧ g < 4) (hp : 0 ≤ part ∧ part < 16) (hw : 0 ≤ way ∧ way < 5) (hfl : 0 ≤ fl) :
    (askB b1 f g part way fl c1).1 = (askB b2 f g part way fl c2).1 ∧ Same b1 b2 (askB b1 f g part way fl c1).2 (askB b2 f g part way fl c2).2 := by
  obtain ⟨S, R1, R2, I⟩ := h
  have A1 := ask_at (way := way) (fl := fl) hb1 hf hg hp R1 I
  have A2 := ask_at (way := way) (fl := fl) hb2 hf hg hp R2 I
  exact ⟨A1.1.trans A2.1.symm, _, A1.2, A2.2, inv_ask I⟩
/-- data that may be held against each other -/
noncomputable def okD (d : PyData) : Prop := d.canLay0 = true ∧ d.depth ≤ 64
theorem okD.to {d : PyData} (h : okD d) : SeqAt.shaped d = true ∧ PyData.eqv d d = true := ⟨Bool.and_eq_true_iff.mpr ⟨h.1, decide_eq_true h.2⟩, PySem.SeqAt.eqv_refl d h.1⟩
theorem okD_arg : okD argD := ⟨by decide +kernel, by decide +kernel⟩
theorem okD_one {x : Int} : okD (.list [.int x]) := ⟨by simp [PyData.canLay0, PyData.canLayAll0], by simp [PyData.depth, PyData.depthAll]⟩
theorem ask_shaped : SeqAt.shaped (askB b f g part way fl c).1 = true ∧ PyData.eqv (askB b f g part way fl c).1 (askB b f g part way fl c).1 = true := by
  refine okD.to ?_
  show okD (askS b (pgB b) (enB b) (lgB b) (adB b f g part) fl way c).1
  have ht : PyData.strOk (Str.ofString "trap") = true := by decide +kernel
  unfold askS
  split
  · unfold ask0
    split
    · exact ⟨by simp [PyData.canLay0, PyData.canLayAll0, seenD], by simp [PyData.depth, PyData.depthAll, seenD]⟩
    · exact ⟨by simp [PyData.canLay0, PyData.canLayAll0, trapD, ht], by simp [PyData.depth, PyData.depthAll, trapD]⟩
  · split
    · unfold ask1
      cases phS b (enB b) (pgB b) (lgB b) (adB b f g part) c with
      | none => exact ⟨by simp [PyData.canLay0, PyData.canLayAll0, optD], by simp [PyData.depth, PyData.depthAll, optD]⟩
      | some v => exact ⟨by simp [PyData.canLay0, PyData.canLayAll0, optD, seenD], by simp [PyData.depth, PyData.depthAll, optD, seenD]⟩
    · split
      · unfold ask2; split
        · exact okD_one
        · exact okD_arg
      · split
        · unfold ask3; split
          · exact okD_one
          · exact okD_arg
        · unfold ask4; split
          · exact okD_one
          · exact okD_arg
theorem okD_list {α : Type} {F : α → PyData} (hF : ∀ x, (F x).canLay0 = true ∧ (F x).depth ≤ 60) : ∀ l : List α, okD (.list (l.map F)) := by
  intro l
  have key : PyData.canLayAll0 (l.map F) = true ∧ PyData.depthAll (l.map F) ≤ 60 := by
    induction l with
    | nil => exact ⟨rfl, Nat.zero_le _⟩
    | cons x r ih =>
      have h := hF x
      exact ⟨by rw [List.map_cons]; show ((F x).canLay0 && PyData.canLayAll0 (r.map F)) = true; rw [h.1, ih.1]; rfl, by rw [List.map_cons]; show max (F x).depth (PyData.depthAll (r.map F)) ≤ 60; omega⟩
  exact ⟨key.1, by show PyData.depthAll (l.map F) + 1 ≤ 64; omega⟩
theorem cells_shaped {pg : Int} {ks : List Int} : SeqAt.shaped (.list (ks.map (cellD pg c))) = true ∧ PyData.eqv (.list (ks.map (cellD pg c))) (.list (ks.map (cellD pg c))) = true :=
  (okD_list (fun k => ⟨by simp [cellD, PyData.canLay0, PyData.canLayAll0], by simp [cellD, PyData.depth, PyData.depthAll]⟩) ks).to
theorem rows_shaped {en pg lg : Int} {rs : List Row} : SeqAt.shaped (.list (rs.map (rowD b pg en lg))) = true ∧ PyData.eqv (.list (rs.map (rowD b pg en lg))) (.list (rs.map (rowD b pg en lg))) = true :=
  (okD_list (fun k => ⟨by simp [rowD, PyData.canLay0, PyData.canLayAll0], by simp [rowD, PyData.depth, PyData.depthAll]⟩) rs).to
end
end Mine
end Q6
section Q7
open PySem PySem.W PyProof.Rows PySem.Calls PySem.Spec PyProof.V
set_option maxRecDepth 100000
set_option maxHeartbeats 8000000
set_option autoImplicit false
namespace Mine
theorem sorted_ext : ∀ l m : List Int, l.Pairwise (· < ·) → m.Pairwise (· < ·) → (∀ x, x ∈ l ↔ x ∈ m) → l = m
  | [], [], _, _, _ => rfl
  | [], y :: m, _, _, h => absurd ((h y).mpr (.head _)) (fun q => nomatch q)
  | x :: l, [], _, _, h => absurd ((h x).mp (.head _)) (fun q => nomatch q)
  | x :: l, y :: m, hl, hm, h => by
    rw [List.pairwise_cons] at hl hm
    have e : x = y := by
      rcases List.mem_cons.mp ((h x).mp (.head _)) with e | h1
      · exact e
      · rcases List.mem_cons.mp ((h y).mpr (.head _)) with e | h2
        · exact e.symm
        · have := hm.1 x h1
          have := hl.1 y h2
          omega
    subst e
    rw [sorted_ext l m hl.2 hm.2 fun z => ?_]
    constructor
    · intro hz
      rcases List.mem_cons.mp ((h z).mp (.tail _ hz)) with e | h1
      · have := hl.1 z hz; omega
      · exact h1
    · intro hz
      rcases List.mem_cons.mp ((h z).mpr (.tail _ hz)) with e | h1
      · have := hm.1 z hz; omega
      · exact h1
noncomputable def L16 : List (Int × Int) := [(0, 0), (0, 1), (0, 2), (0, 3), (1, 0), (1, 1), (1, 2), (1, 3), (2, 0), (2, 1), (2, 2), (2, 3), (3, 0), (3, 1), (3, 2), (3, 3)]
theorem L16_all : ((List.range 4).all fun (a : Nat) => (List.range 4).all fun (s : Nat) => L16.contains ((a : Int), (s : Int))) = true := by decide +kernel
theorem mem_L16 {a s : Int} (ha : 0 ≤ a ∧ a ≤ 3) (hs : 0 ≤ s ∧ s ≤ 3) : (a, s) ∈ L16 := by
  have h := List.all_eq_true.mp (List.all_eq_true.mp L16_all a.toNat (List.mem_range.mpr (by omega))) s.toNat (List.mem_range.mpr (by omega))
  rw [Int.toNat_of_nonneg ha.1, Int.toNat_of_nonneg hs.1] at h
  exact List.contains_iff_mem.mp h
theorem L16_of {q : Int × Int} (h : q ∈ L16) : (0 ≤ q.1 ∧ q.1 ≤ 3) ∧ (0 ≤ q.2 ∧ q.2 ≤ 3) := by
  have : ∀ q ∈ L16, (0 ≤ q.1 ∧ q.1 ≤ 3) ∧ (0 ≤ q.2 ∧ q.2 ≤ 3) := by decide
  exact this q h
noncomputable def lexT (S : Tab) : List (Int × Int) := L16.filter fun q => decide (S q.1 q.2 ≠ 0)
section
variable {b : Int} {c : Cs} {S : Tab}
theorem lex_sorted (hb : 4 ≤ b ∧ b ≤ 8) : ((lexT S).map (ixS (pgB b))).Pairwise (· < ·) := by
  have h : (L16.map (ixS (pgB b))).Pairwise (· < ·) := by
    have : b = 4 ∨ b = 5 ∨ b = 6 ∨ b = 7 ∨ b = 8 := by omega
    rcases this with rfl | rfl | rfl | rfl | rfl <;> decide +kernel
  exact h.sublist ((List.filter_sublist).map _)
theorem mem_keys (hb : 4 ≤ b ∧ b ≤ 8) (R : Rel b c S) (k : Int) : k ∈ c.map (·.1) ↔ k ∈ (lexT S).map (ixS (pgB b)) := by
  constructor
  · intro h
    obtain ⟨q, hq, rfl⟩ := List.mem_map.mp h
    obtain ⟨a, s, ha, hs, e⟩ := R.keys q hq
    refine List.mem_map.mpr ⟨(a, s), List.mem_filter.mpr ⟨mem_L16 ha hs, decide_eq_true ?_⟩, e.symm⟩
    show S a s ≠ 0
    rw [← R.look a s ha hs, ← e, look_of_mem R.nd hq]
    exact R.nz q hq
  · intro h
    obtain ⟨⟨a, s⟩, hq, rfl⟩ := List.mem_map.mp h
    obtain ⟨h1, h2⟩ := List.mem_filter.mp hq
    have h3 := L16_of h1
    have h4 : S a s ≠ 0 := of_decide_eq_true h2
    rw [← R.look a s h3.1 h3.2] at h4
    exact List.mem_map.mpr ⟨_, look_mem h4, rfl⟩
theorem keys_are (hb : 4 ≤ b ∧ b ≤ 8) (R : Rel b c S) {ks : List Int} (p : ks.Perm (c.map (·.1))) (s : ks.Pairwise (· ≤ ·)) : ks = (lexT S).map (ixS (pgB b)) := by
  have nd : ks.Nodup := p.nodup_iff.mpr R.nd
  have st : ks.Pairwise (· < ·) := (List.Pairwise.and s nd).imp fun {x y} h => by
    have h1 : x ≤ y := h.1
    have h2 : x ≠ y := h.2
    show x < y
    omega
  exact sorted_ext _ _ st (lex_sorted hb) fun k => p.mem_iff.trans (mem_keys hb R k)
theorem cell_at (hb : 4 ≤ b ∧ b ≤ 8) (R : Rel b c S) {q : Int × Int} (h : q ∈ lexT S) : cellD (pgB b) c (ixS (pgB b) q) = .tuple [.int q.1, .int q.2, .int (S q.1 q.2)] := by
  have h3 := L16_of (List.mem_filter.mp h).1
  obtain ⟨a, s⟩ := q
  have e4 : (2 : Int) ^ Int.toNat 2 = 4 := by decide
  unfold cellD
  rw [R.look a s h3.1 h3.2, e4]
  have e : ixS (pgB b) (a, s) * 4 = a * pgB b + 4 * s := by
    rw [ix_eq hb]
    rcases layN_at hb with ⟨_, h1, h2, _⟩ | ⟨_, h1, h2, _⟩ | ⟨_, h1, h2, _⟩ | ⟨_, h1, h2, _⟩ | ⟨_, h1, h2, _⟩ <;> rw [h1, h2] <;> omega
  have hpg := (layN_b (layN_at hb)).2.1
  have hs : 0 ≤ 4 * s ∧ 4 * s < pgB b := by have := h3.2; dsimp only at this; omega
  rw [e, (div_page hb hs).1, (div_page hb hs).2]
  have : (4 * s).fdiv 4 = s := by rw [Int.fdiv_eq_ediv_of_nonneg _ (by decide)]; omega
  rw [this]
theorem same_cells {b1 b2 : Int} {c1 c2 : Cs} (h : Same b1 b2 c1 c2) (hb1 : 4 ≤ b1 ∧ b1 ≤ 8) (hb2 : 4 ≤ b2 ∧ b2 ≤ 8) {ks1 ks2 : List Int} (p1 : ks1.Perm (c1.map (·.1))) (s1 : ks1.Pairwise (· ≤ ·)) (p2 : ks2.Perm (c2.map (·.1))) (s2 : ks2.Pairwise (· ≤ ·)) :
    ks1.map (cellD (pgB b1) c1) = ks2.map (cellD (pgB b2) c2) := by
  obtain ⟨S, R1, R2, I⟩ := h
  rw [keys_are hb1 R1 p1 s1, keys_are hb2 R2 p2 s2, List.map_map, List.map_map]
  refine List.map_congr_left fun q hq => ?_
  show cellD (pgB b1) c1 (ixS (pgB b1) q) = cellD (pgB b2) c2 (ixS (pgB b2) q)
  rw [cell_at hb1 R1 hq, cell_at hb2 R2 hq]
end
end Mine
end Q7
section Q8
open PySem PySem.W PyProof.Rows PySem.Calls PySem.Spec PyProof.V
set_option maxRecDepth 100000
set_option maxHeartbeats 8000000
set_option autoImplicit false
namespace Mine
section
variable {b b1 b2 : Int} {c c1 c2 : Cs} {S : Tab}
theorem en_rng (hb : 4 ≤ b ∧ b ≤ 8) : 4 ≤ (enB b).toNat := by
  have := layN_b (layN_at hb)
  omega
theorem v1_zero : v1S 0 = false := by decide +kernel
/-- an entry of a table, as the rows read it -/
theorem look_row (hb : 4 ≤ b ∧ b ≤ 8) (R : Rel b c S) {a : Int} (ha : 0 ≤ a ∧ a ≤ 3) (i : Nat) (hi : i < (enB b).toNat) : kdfLook c ((a * pgB b + 4 * (i : Int)).fdiv 4) 0 = if i < 4 then S a i else 0 := by
  have e : (a * pgB b + 4 * (i : Int)).fdiv 4 = ixS (pgB b) (a, (i : Int)) := rfl
  rw [e]
  by_cases h : i < 4
  · rw [if_pos h]
    exact R.look a i ha (by omega)
  · rw [if_neg h]
    refine look_zero fun hk => ?_
    obtain ⟨q, hq, e1⟩ := List.mem_map.mp hk
    obtain ⟨a', s', ha', hs', e2⟩ := R.keys q hq
    have e3 : ixS (pgB b) (a', s') = ixS (pgB b) (a, (i : Int)) := by rw [← e2]; exact e1
    rw [ix_eq hb, ix_eq hb] at e3
    have hen := en_nat hb
    rcases layN_at hb with ⟨_, h1, h2, _⟩ | ⟨_, h1, h2, _⟩ | ⟨_, h1, h2, _⟩ | ⟨_, h1, h2, _⟩ | ⟨_, h1, h2, _⟩ <;> rw [h2] at e3 hen hi <;> omega
theorem look_row0 (hb : 4 ≤ b ∧ b ≤ 8) (R : Rel b c S) (i : Nat) (hi : i < (enB b).toNat) : kdfLook c ((0 + 4 * (i : Int)).fdiv 4) 0 = if i < 4 then S 0 i else 0 := by
  have h := look_row hb R (a := 0) (by decide) i hi
  rw [Int.zero_mul] at h
  exact h
theorem Good.hinv (h : Good b c) (hb : 4 ≤ b ∧ b ≤ 8) : ∀ i : Nat, i < (enB b).toNat → v1S (kdfLook c ((0 + 4 * (i : Int)).fdiv 4) 0) = true → leafS (kdfLook c ((0 + 4 * (i : Int)).fdiv 4) 0) = false →
    (0 ≤ physS b (kdfLook c ((0 + 4 * (i : Int)).fdiv 4) 0) ∧ physS b (kdfLook c ((0 + 4 * (i : Int)).fdiv 4) 0) + pgB b ≤ 4 * pgB b) ∧ (physS b (kdfLook c ((0 + 4 * (i : Int)).fdiv 4) 0)).fmod 4 = 0 := by
  obtain ⟨S, R, I⟩ := h
  intro i hi hv hl
  rw [look_row0 hb R i hi] at hv hl ⊢
  by_cases h4 : i < 4
  · rw [if_pos h4] at hv hl ⊢
    have hn := I.node hv hl
    have z := spot_ok (layN_at hb) (a := frE (S 0 i)) (c := 0) (by omega) (by decide)
    have e : frE (S 0 i) * pgB b + 4 * 0 = frE (S 0 i) * pgB b := by omega
    rw [e] at z
    rw [phys_fr]
    have hpg := pg_pos hb
    refine ⟨⟨z.1.1, ?_⟩, z.2.1⟩
    have : frE (S 0 i) = 1 ∨ frE (S 0 i) = 2 ∨ frE (S 0 i) = 3 := by omega
    rcases this with h | h | h <;> rw [h] <;> omega
  · rw [if_neg h4, v1_zero] at hv
    cases hv
theorem addr0 (f g : Int) : addrS b f g 0 = adB b f g 0 := by
  show addrS b f g 0 = addrS b f g ((0 * pgB b).fdiv 16)
  rw [Int.zero_mul]; rfl
theorem mem_rowsOf {pg a f : Int} {r : Row} : ∀ {n : Nat}, r ∈ rowsOf b pg c a f n → ∃ j < n, r ∈ rowOf b pg c a f j
  | n + 1, h => by
    rcases List.mem_append.mp (h : r ∈ rowsOf b pg c a f n ++ rowOf b pg c a f n) with h | h
    · obtain ⟨j, hj, h⟩ := mem_rowsOf h
      exact ⟨j, Nat.lt_succ_of_lt hj, h⟩
    · exact ⟨n, Nat.lt_succ_self n, h⟩
theorem mem_rowsS {pg lg : Int} {en : Nat} {r : Row} : ∀ {n : Nat}, r ∈ rowsS b pg lg en c n → ∃ i < n, r ∈ rowAt b pg lg en c i
  | n + 1, h => by
    rcases List.mem_append.mp (h : r ∈ rowsS b pg lg en c n ++ rowAt b pg lg en c n) with h | h
    · obtain ⟨j, hj, h⟩ := mem_rowsS h
      exact ⟨j, Nat.lt_succ_of_lt hj, h⟩
    · exact ⟨n, Nat.lt_succ_self n, h⟩
theorem Good.hra (h : Good b c) (hb : 4 ≤ b ∧ b ≤ 8) : ∀ r ∈ rowsS b (pgB b) (lgB b) (enB b).toNat c (enB b).toNat, 0 ≤ r.1 ∧ r.1 < edB b := by
  obtain ⟨S, R, I⟩ := h
  intro r hr
  obtain ⟨i, hi, hr⟩ := mem_rowsS hr
  unfold rowAt at hr
  rw [look_row0 hb R i hi] at hr
  by_cases h4 : i < 4
  · rw [if_pos h4] at hr
    split at hr
    · rename_i hv
      split at hr
      · rw [List.mem_singleton.mp hr]
        show 0 ≤ addrS b i 0 0 ∧ addrS b i 0 0 < edB b
        rw [addr0]
        exact ad_in hb (by omega) (by decide) (by decide)
      · rename_i hl
        have hn := I.node hv (by simpa using hl)
        obtain ⟨j, hj, hr⟩ := mem_rowsOf hr
        unfold rowOf at hr
        rw [phys_fr, look_row hb R (by omega) j hj] at hr
        by_cases h5 : j < 4
        · rw [if_pos h5] at hr
          split at hr
          · rw [List.mem_singleton.mp hr]
            show 0 ≤ addrS b i j 0 ∧ addrS b i j 0 < edB b
            rw [addr0]
            exact ad_in hb (by omega) (by omega) (by decide)
          · cases hr
        · rw [if_neg h5, v1_zero] at hr
          cases hr
    · cases hr
  · rw [if_neg h4, v1_zero] at hr
    cases hr
/-- a row, apart from any layout -/
noncomputable def rowOfT (S : Tab) (x i j : Int) : List PyData := if v1S (S x j) = true then [.tuple [.tuple [.int i, .int j], .int (frE (S x j)), .int (Builtin.bitAnd (S x j) 1023), .bool false]] else []
noncomputable def rowT (S : Tab) (i : Int) : List PyData :=
  if v1S (S 0 i) = true then
    (if leafS (S 0 i) = true then [.tuple [.tuple [.int i, .int 0], .int (frE (S 0 i)), .int (Builtin.bitAnd (S 0 i) 1023), .bool true]]
     else rowOfT S (frE (S 0 i)) i 0 ++ rowOfT S (frE (S 0 i)) i 1 ++ rowOfT S (frE (S 0 i)) i 2 ++ rowOfT S (frE (S 0 i)) i 3)
  else []
theorem rowD_at (hb : 4 ≤ b ∧ b ≤ 8) {f g e fl sz : Int} (hf : 0 ≤ f ∧ f < 4) (hg : 0 ≤ g ∧ g < 4) : rowD b (pgB b) (enB b) (lgB b) (addrS b f g 0, physS b e, fl, sz) = .tuple [.tuple [.int f, .int g], .int (frE e), .int fl, .bool (sz == lgB b)] := by
  unfold rowD
  have F := adF (p := 0) hb hf hg (by decide)
  rw [addr0, phys_fr, fdiv_page hb, F.ff, F.fs]
theorem pg_lg (hb : 4 ≤ b ∧ b ≤ 8) : (pgB b == lgB b) = false := by
  rcases layN_at hb with ⟨_, h1, _, h3, _⟩ | ⟨_, h1, _, h3, _⟩ | ⟨_, h1, _, h3, _⟩ | ⟨_, h1, _, h3, _⟩ | ⟨_, h1, _, h3, _⟩ <;> rw [h1, h3] <;> decide
theorem rowOf_at (hb : 4 ≤ b ∧ b ≤ 8) (R : Rel b c S) {x f : Int} (hx : 0 ≤ x ∧ x ≤ 3) (hf : 0 ≤ f ∧ f < 4) (j : Nat) (hj : j < (enB b).toNat) :
    (rowOf b (pgB b) c (x * pgB b) f j).map (rowD b (pgB b) (enB b) (lgB b)) = if j < 4 then rowOfT S x f j else [] := by
  unfold rowOf rowOfT
  rw [look_row hb R hx j hj]
  by_cases h : j < 4
  · rw [if_pos h, if_pos h]
    by_cases hv : v1S (S x j) = true
    · rw [if_pos hv, if_pos hv, List.map_cons, List.map_nil, rowD_at hb hf (by omega), pg_lg hb]
    · rw [if_neg hv, if_neg hv]; rfl
  · rw [if_neg h, if_neg h, if_neg (by rw [v1_zero]; decide)]; rfl
theorem rowsOf_at (hb : 4 ≤ b ∧ b ≤ 8) (R : Rel b c S) {x f : Int} (hx : 0 ≤ x ∧ x ≤ 3) (hf : 0 ≤ f ∧ f < 4) : ∀ k : Nat, 4 + k ≤ (enB b).toNat →
    (rowsOf b (pgB b) c (x * pgB b) f (4 + k)).map (rowD b (pgB b) (enB b) (lgB b)) = rowOfT S x f 0 ++ rowOfT S x f 1 ++ rowOfT S x f 2 ++ rowOfT S x f 3
  | 0, h => by
    have r0 := rowOf_at hb R hx hf 0 (by omega)
    have r1 := rowOf_at hb R hx hf 1 (by omega)
    have r2 := rowOf_at hb R hx hf 2 (by omega)
    have r3 := rowOf_at hb R hx hf 3 (by omega)
    show (((([] ++ rowOf b (pgB b) c (x * pgB b) f 0) ++ rowOf b (pgB b) c (x * pgB b) f 1) ++ rowOf b (pgB b) c (x * pgB b) f 2) ++ rowOf b (pgB b) c (x * pgB b) f 3).map _ = _
    rw [List.map_append, List.map_append, List.map_append, List.nil_append, r0, r1, r2, r3]
    rfl
  | k + 1, h => by
    have ih := rowsOf_at hb R hx hf k (by omega)
    show (rowsOf b (pgB b) c (x * pgB b) f (4 + k) ++ rowOf b (pgB b) c (x * pgB b) f (4 + k)).map _ = _
    rw [List.map_append, ih, rowOf_at hb R hx hf (4 + k) (by omega), if_neg (by omega), List.append_nil]
theorem rowAt_at (hb : 4 ≤ b ∧ b ≤ 8) (R : Rel b c S) (I : Inv S) (i : Nat) (hi : i < (enB b).toNat) :
    (rowAt b (pgB b) (lgB b) (enB b).toNat c i).map (rowD b (pgB b) (enB b) (lgB b)) = if i < 4 then rowT S i else [] := by
  unfold rowAt rowT
  rw [look_row0 hb R i hi]
  by_cases h : i < 4
  · rw [if_pos h, if_pos h]
    by_cases hv : v1S (S 0 i) = true
    · rw [if_pos hv, if_pos hv]
      by_cases hl : leafS (S 0 i) = true
      · rw [if_pos hl, if_pos hl, List.map_cons, List.map_nil, rowD_at hb (by omega) (by decide), beq_self_eq_true]
      · have hn := I.node hv (by simpa using hl)
        obtain ⟨k, hk⟩ : ∃ k, (enB b).toNat = 4 + k := ⟨(enB b).toNat - 4, by have := en_rng hb; omega⟩
        rw [if_neg hl, if_neg hl, phys_fr]
        have z := rowsOf_at hb R (x := frE (S 0 i)) (f := i) (by omega) (by omega) k (by omega)
        rw [← hk] at z
        exact z
    · rw [if_neg hv, if_neg hv]; rfl
  · rw [if_neg h, if_neg h, if_neg (by rw [v1_zero]; decide)]; rfl
theorem rowsS_at (hb : 4 ≤ b ∧ b ≤ 8) (R : Rel b c S) (I : Inv S) : ∀ k : Nat, 4 + k ≤ (enB b).toNat →
    (rowsS b (pgB b) (lgB b) (enB b).toNat c (4 + k)).map (rowD b (pgB b) (enB b) (lgB b)) = rowT S 0 ++ rowT S 1 ++ rowT S 2 ++ rowT S 3
  | 0, h => by
    have r0 := rowAt_at hb R I 0 (by omega)
    have r1 := rowAt_at hb R I 1 (by omega)
    have r2 := rowAt_at hb R I 2 (by omega)
    have r3 := rowAt_at hb R I 3 (by omega)
    show (((([] ++ rowAt b (pgB b) (lgB b) (enB b).toNat c 0) ++ rowAt b (pgB b) (lgB b) (enB b).toNat c 1) ++ rowAt b (pgB b) (lgB b) (enB b).toNat c 2) ++ rowAt b (pgB b) (lgB b) (enB b).toNat c 3).map _ = _
    rw [List.map_append, List.map_append, List.map_append, List.nil_append, r0, r1, r2, r3]
    rfl
  | k + 1, h => by
    have ih := rowsS_at hb R I k (by omega)
    show (rowsS b (pgB b) (lgB b) (enB b).toNat c (4 + k) ++ rowAt b (pgB b) (lgB b) (enB b).toNat c (4 + k)).map _ = _
    rw [List.map_append, ih, rowAt_at hb R I (4 + k) (by omega), if_neg (by omega), List.append_nil]
theorem same_rows (h : Same b1 b2 c1 c2) (hb1 : 4 ≤ b1 ∧ b1 ≤ 8) (hb2 : 4 ≤ b2 ∧ b2 ≤ 8) :
    (rowsS b1 (pgB b1) (lgB b1) (enB b1).toNat c1 (enB b1).toNat).map (rowD b1 (pgB b1) (enB b1) (lgB b1)) = (rowsS b2 (pgB b2) (lgB b2) (enB b2).toNat c2 (enB b2).toNat).map (rowD b2 (pgB b2) (enB b2) (lgB b2)) := by
  obtain ⟨S, R1, R2, I⟩ := h
  obtain ⟨k1, hk1⟩ : ∃ k, (enB b1).toNat = 4 + k := ⟨(enB b1).toNat - 4, by have := en_rng hb1; omega⟩
  obtain ⟨k2, hk2⟩ : ∃ k, (enB b2).toNat = 4 + k := ⟨(enB b2).toNat - 4, by have := en_rng hb2; omega⟩
  have z1 := rowsS_at hb1 R1 I k1 (by omega)
  have z2 := rowsS_at hb2 R2 I k2 (by omega)
  rw [← hk1] at z1
  rw [← hk2] at z2
  rw [z1, z2]
end
end Mine
end Q8
section N30
open PySem PySem.W PyProof.Rows PySem.Calls PySem.Spec PyProof.V
set_option maxRecDepth 100000
set_option maxHeartbeats 8000000
set_option autoImplicit false
namespace Mine
/-- a place at which the walk stands -/
structure Stop (p : Prop) : Prop where
  h : p
theorem stop_at {p : Prop} (h : Stop p) : p := h.h
section
variable {prog : Program} {w : World} {A : Around} {E : Value → Shared → Prop} {s : Shared} {d : PyData} {a b : Value} {ra rb : List (Addr × Obj)} {Q : Value → Shared → Prop} {h₀ : Heap} {L : Addr} {led : List (Addr × Obj)}
theorem ne_same (Ra : RI ra a d) (Rb : RI rb b d) (N : News h₀ L s.heap led) (ha : ∀ q ∈ ra, q ∈ led) (hb : ∀ q ∈ rb, q ∈ led) (hs : SeqAt.shaped d = true ∧ PyData.eqv d d = true) (hu : A.units + 64 < cLine) (h : Q (.bool false) s) : wpAny (model prog w) A (compareOp .NotEq a b) Q E s := by
  obtain ⟨as, r1⟩ := Ra s.heap fun p hp => (N p (ha p hp)).1
  obtain ⟨bs, r2⟩ := Rb s.heap fun p hp => (N p (hb p hp)).1
  refine SeqAt.compareNe_shaped r1 r2 hs.1 hs.1 hu ?_
  rw [hs.2]
  exact h
theorem eq_same (Ra : RI ra a d) (Rb : RI rb b d) (N : News h₀ L s.heap led) (ha : ∀ q ∈ ra, q ∈ led) (hb : ∀ q ∈ rb, q ∈ led) (hs : SeqAt.shaped d = true ∧ PyData.eqv d d = true) (hu : A.units + 64 < cLine) (h : Q (.bool true) s) : wpAny (model prog w) A (compareOp .Eq a b) Q E s := by
  obtain ⟨as, r1⟩ := Ra s.heap fun p hp => (N p (ha p hp)).1
  obtain ⟨bs, r2⟩ := Rb s.heap fun p hp => (N p (hb p hp)).1
  refine SeqAt.compareEq_shaped r1 r2 hs.1 hs.1 hu ?_
  rw [hs.2]
  exact h
end
/-- both boards, as they stand between the questions -/
noncomputable def JL (prog : Program) (w : World) (b1 b2 : Int) (wd1 wd2 : Addr) (base news₁ : List (Addr × Obj)) : Prop :=
  ∃ o1 o2 c1 c2, news₁ = (wd1, o1) :: (wd2, o2) :: base ∧ WD prog w wd1 o1 c1 ∧ WD prog w wd2 o2 c2 ∧ Same b1 b2 c1 c2
theorem sub_two {w1 w2 : Addr × Obj} {own base : List (Addr × Obj)} : ∀ q ∈ w1 :: w2 :: (own ++ base), q ∈ own ++ (w1 :: w2 :: base) := fun q hq => by
  simp only [List.mem_append, List.mem_cons] at hq ⊢
  rcases hq with h | h | h | h <;> simp [h]
section
variable {prog : Program} {w : World} {A : Around} {E : Value → Shared → Prop} {s : Shared} {h₀ : Heap} {L : Addr} {led : List (Addr × Obj)} {l : Addr} {B : Array Value} {z : Value} {k : Nat} {t : Tok} {value slice : PySem.Expr} {Q : Value → Shared → Prop}
theorem last_item (N : News h₀ L s.heap led) (hm : (l, PySem.W.listOf (B.push z) k) ∈ led) (h : Q z s)
    (hs : subscripted slice false (.ref l) (.int (-1) t) = operate [.ref l, .int (-1) t] (getItem (.ref l) (.int (-1) t)) := by with_unfolding_all rfl) (hg : ∀ r, letTemporaryGo value (.ref l) r = pure () := by intro _; with_unfolding_all rfl) :
    wpAny (model prog w) A (subscriptTail value slice (.ref l) (.int (-1) t)) Q E s := by
  have hl := News.isList N hm
  refine tail_any hl.typeIs slot_list_getitem.lookup (wpAny_getItem_list_neg (x := z) hl (by decide) (by rw [Array.size_push]; omega) (by decide) ?_ h) hs
  have e : ((-1 : Int) + ((B.push z).size : Int)).toNat = B.size := by rw [Array.size_push]; omega
  rw [e, Array.getElem?_push_size]
theorem is_false {z : Value} (hz : z = .bool true ∨ ∃ n t, z = .int n t) (h : Q (.bool false) s) : wpAny (model prog w) A (compareOp .Is z (.bool false)) Q E s := by
  rcases hz with rfl | ⟨n, t, rfl⟩
  · exact wpAny_is_other (by rfl) (by intro x; cases x) h
  · exact wpAny_is_other (by rfl) (by intro x; cases x) h
end
theorem two_lists {g h : Heap} {L lw lp : Addr} {LW LP : Obj} {w1 w2 : Addr × Obj} {r : List (Addr × Obj)} (N : News g L h ((lw, LW) :: (lp, LP) :: w1 :: w2 :: r)) :
    ∃ base2 LW' LP', base2 = (lw, LW') :: (lp, LP') :: r ∧ News g L h (w1 :: w2 :: base2) ∧ LW' = LW ∧ LP' = LP :=
  ⟨_, LW, LP, rfl, News.sub N fun q hq => by simp only [List.mem_cons] at hq ⊢; rcases hq with h | h | h | h | h <;> simp [h], rfl, rfl⟩
theorem way_of {x : Int} {t1 t2 t3 : Tok} {j : Nat} {v : Value} (hx : 0 ≤ x ∧ x < 5) (h : (#[.int 0 t1, .int x t2, .int 1 t3] : Array Value)[j]? = some v) : ∃ way t, v = .int way t ∧ 0 ≤ way ∧ way < 5 := by
  have hj := (Array.getElem?_eq_some_iff.mp h).1
  have hj3 : j < 3 := hj
  have : j = 0 ∨ j = 1 ∨ j = 2 := by omega
  rcases this with rfl | rfl | rfl
  · have e : Value.int 0 t1 = v := Option.some.inj h
    exact ⟨0, t1, e.symm, by decide, by decide⟩
  · have e : Value.int x t2 = v := Option.some.inj h
    exact ⟨x, t2, e.symm, hx.1, hx.2⟩
  · have e : Value.int 1 t3 = v := Option.some.inj h
    exact ⟨1, t3, e.symm, by decide, by decide⟩
theorem news_add {g h : Heap} {L : Addr} {x : Addr × Obj} {led : List (Addr × Obj)} (N : News g L h led) (hm : x ∈ led) : News g L h (x :: led) := News.sub N fun q hq => by
  rcases List.mem_cons.mp hq with e | hq
  · rw [e]; exact hm
  · exact hq
theorem news_far {g h : Heap} {L : Addr} {a b : Addr × Obj} {r s : List (Addr × Obj)} (N : News g L h (a :: (r ++ (b :: s)))) : News g L h (b :: (a :: (r ++ s))) := News.sub N fun q hq => by
  simp only [List.mem_cons, List.mem_append] at hq ⊢
  rcases hq with h | h | h | h <;> simp [h]
theorem jl_next {prog : Program} {w : World} {b1 b2 : Int} {h₀ h' : Heap} {L J wd1 wd2 : Addr} {m₀ m' : Str → Option Value} {xs : List Str} {base own res1 res2 r : List (Addr × Obj)} {o5 o6 o7 o8 : Obj} {c7 c8 : Cs} {s : Shared} {tk : Nat}
    (F : Fr h₀ L h' m') (hm : ∀ y, xs.contains y = false → m' y = m₀ y) (N : News h₀ L h' ((wd2, o8) :: (res2 ++ ((wd1, o7) :: (res1 ++ r))))) (hr : ∀ q ∈ own ++ base, q ∈ r) (W1 : WD prog w wd1 o7 c7) (W2 : WD prog w wd2 o8 c8) (SM : Same b1 b2 c7 c8)
    (hoff : ∀ p ∈ (wd1, o5) :: (wd2, o6) :: base, p.1 ≠ J) : NextG h₀ L xs m₀ [J] own (JL prog w b1 b2 wd1 wd2 base) s { s with heap := h', toks := tk } := by
  refine ⟨h', tk, m', (wd1, o7) :: (wd2, o8) :: base, rfl, F, hm, News.sub N fun q hq => ?_, fun p hp hI => ?_, o7, o8, c7, c8, rfl, W1, W2, SM⟩
  · simp only [List.mem_cons, List.mem_append] at hq ⊢
    rcases hq with h | h | h | h
    · exact .inr (.inr (.inr (.inr (hr _ (List.mem_append_left _ h)))))
    · exact .inr (.inr (.inl h))
    · exact .inl h
    · exact .inr (.inr (.inr (.inr (hr _ (List.mem_append_right _ h)))))
  · have e := List.mem_singleton.mp hI
    rcases List.mem_cons.mp hp with q | hp
    · exact hoff (wd1, o5) (.head _) (by rw [q] at e; exact e)
    · rcases List.mem_cons.mp hp with q | hp
      · exact hoff (wd2, o6) (.tail _ (.head _)) (by rw [q] at e; exact e)
      · exact hoff p (.tail _ (.tail _ hp)) e
end Mine
end N30
section WW
open PySem PySem.W PyProof.Rows PySem.Calls PySem.Spec PyProof.V
open Mine
local macro_rules | `(tactic| k_room) => `(tactic| ((simp +zetaDelta only [tp_depth, rl_is, depth_mark, depth_under_make, depth_under_kw, depth_in1, depth_deeper, depth_caller]); omega))
local macro_rules | `(tactic| ktr_units) => `(tactic| ((simp +zetaDelta only [tp_units, units_in1, units_deeper, Around.mark_units, units_caller, cLine_is]); omega))
local macro_rules | `(tactic| walk_at $s:str) => `(tactic| k_extra $s)
local macro_rules | `(tactic| k_steps) => `(tactic| repeat' (first | (k_unfold; (try dsimp only)) | (k_end; wrow_close) | ((try (first | ((with_reducible show wpAny _ _ (exec _ _) _ _ _); (try walk_at "foldE"); walk_at "foldS") | ((with_reducible show wpAny _ _ (eval (Expr.Call _ _ _ _) _) _ _ _); (try walk_at "foldE"); walk_at "fold") | ((with_reducible show wpAny _ _ (eval (Expr.Tuple _ _ _) _) (fun _ _ => wpAny _ _ _ _ _ _) _ _); walk_at "fold"))); walk1) | (dsimp only; walk1) | (leave1; walk_say "STEP leave1"; try dsimp only) | fail "no step"))
section W1
open PySem PySem.W PyProof.Rows PySem.Calls PySem.Spec PyProof.V
set_option maxRecDepth 100000
set_option maxHeartbeats 8000000
set_option autoImplicit false
namespace Mine
theorem dummy_W1 (w : World) (h : Heap) (x : (K w.params).In h) (e : PySem.Challenge.rw_nz0224_01.row.prog = PySem.Challenge.rw_nz0224_01.row.prog) : True := by
  revert x e; k_fill; intros; trivial


theorem rows_at_1 : True := by
  k_with "ctx" => ((refine' Ctx.mk ?q0B ?q0F ?q0X ?q0N ?q0T ?q0a ?q0f ?q0k ?q0h; (case q0B => k_asm); (case q0F => k_asm); (case q0X => k_asm); (case q0N => first | k_asm | exact news_swap1 (by k_asm) | exact news_swap2 (by k_asm) | exact news_swap3 (by k_asm)); (case q0T => k_asm); (case q0a => first | assumption | exact Around.frames_deeper (Below.stack (by assumption))); (case q0f => first | assumption | exact rfl); (case q0k => first | assumption | exact rfl); (case q0h => first | assumption | exact rfl)))
  k_with "getAttr ref" => ((k_here; k_dflt (refine' own_get ?q0D ?q0F ?q0X ?q0a ?q0b ?q0c ?q0d ?q0l ?q0v ?_; (case q0D => assumption); (case q0F => k_asm); (case q0X => k_asm); (case q0a => k_is); (case q0b => k_is); (case q0c => k_is); (case q0d => k_is); (case q0l => intro _ _; k_get); (case q0v => k_handed); k_whole)))
  k_with "getMethod ref" => ((k_here; k_dflt (refine' own_meth ?q0D ?q0F ?q0X ?q0a ?q0b ?q0c ?q0l ?_; (case q0D => assumption); (case q0F => k_asm); (case q0X => k_asm); (case q0a => k_is); (case q0b => k_is); (case q0c => k_is); (case q0l => intro _ _; k_get); k_whole)))
  k_with "getMethod ref" => ((k_here; (with_reducible show wpAny _ _ (getMethod (Value.ref _) (PySem.Str.ofString "get") _) _ _ _); k_dflt (refine' w_getm ?q0W ?q0N ?q0p ?_; (case q0W => assumption); (case q0N => k_asm); (case q0p => k_mem); k_whole)))
  k_with "getMethod ref" => ((k_here; (with_reducible show wpAny _ _ (getMethod (Value.ref _) (PySem.Str.ofString "pop") _) _ _ _); k_dflt (refine' w_popm ?q0W ?q0N ?q0p ?_; (case q0W => assumption); (case q0N => k_asm); (case q0p => k_mem); k_whole)))
  k_with "call builtin:dict.get" => ((k_here; k_dflt (refine' w_get ?q0W ?q0N ?q0p ?_; (case q0W => assumption); (case q0N => k_asm); (case q0p => k_mem); k_whole); intro _))
  k_with "call builtin:dict.pop" => ((k_here; k_dflt (refine' w_pop ?q0W ?q0F ?q0N ?q0p ?q0U ?_; (case q0W => assumption); (case q0F => k_asm); (case q0N => k_asm); (case q0p => k_mem); (case q0U => (first | (refine UpdF.head ?_; assumption) | k_updF)); k_whole); intro _ _ _ _ N'; (try dsimp only at N'); (try (revert N'; intro _)); intro _))
  k_with "setItem ref int" => ((k_here; k_dflt (refine' w_set ?q0W ?q0F ?q0N ?q0U ?q0c ?_; (case q0W => assumption); (case q0F => k_asm); (case q0N => k_asm); (case q0U => (first | (refine UpdF.head ?_; assumption) | k_updF)); (case q0c => first | assumption | omega); k_whole); intro _ _ _ N'; (try dsimp only at N'); (try (revert N'; intro _)); intro _))
  k_with "depth" => (first | exact dp1 (by assumption) rfl | exact dp2 (by assumption) rfl | ((simp +zetaDelta only [depth_mark, depth_under_make, depth_under_kw, depth_in1, depth_deeper, depth_caller]); omega))
  k_with "units" => (first | exact up1 (by assumption) rfl | exact up2 (by assumption) rfl | ((simp +zetaDelta only [units_in1, units_deeper, Around.mark_units, units_caller]); omega))
  k_with "apart" => (first | assumption | exact List.forall_mem_cons.mpr ⟨by k_ne, by assumption⟩ | exact List.forall_mem_cons.mpr ⟨by k_ne, List.forall_mem_cons.mpr ⟨by k_ne, by assumption⟩⟩)
  k_with "fact" => (omega)
  k_with "entered" => ((k_dflt ((case k6 => k_is); (case k7 => k_is); (case k8 => walk_at "room"); (case c5 => decide); (case kB => exact locs rfl); (case c2 => exact rfl); (case c3 => exact rfl); (case c4 => exact rfl))))
  k_with "binds" => ((k_dflt (exact BindsTo.of_eq (by kernel_rfl))))
  k_with "dbinds" => ((k_dflt (exact binds_K (Frag.In.keeps (Ctx.X (by assumption)) (Fr.keep (Ctx.F (by assumption)))) rfl (by k_is) rfl rfl (by kernel_rfl))))
  k_with "room" => (((simp only [rl_is]); omega))
  k_with "assign Tuple" => ((k_here; (with_reducible show wpAny _ _ (assign (Expr.Tuple _ _ _) _ (Value.ref _)) _ _ _); k_dflt (refine' unpackN_ ?q0k1 ?q0k2 ?q0k3 ?q0k4 ?q0k5 ?q0k6 ?_; (case q0k1 => k_asm); (case q0k2 => k_asm); (case q0k3 => exact News.isTup (by k_asm) (by k_mem)); (case q0k4 => first | assumption | exact rfl); (case q0k5 => exact rfl); (case q0k6 => exact rfl); k_whole); intro _ _ _; (try k_sweep)))
  k_with "unpackItems ref" => ((k_here; k_dflt (refine' unpackItemsN_ ?q0k1 ?q0k2 ?q0k3 ?q0k4 ?q0k5 ?_; (case q0k1 => k_asm); (case q0k2 => k_asm); (case q0k3 => kun_tup); (case q0k4 => first | assumption | exact rfl); (case q0k5 => exact rfl); k_whole); intro _ _ _; (try k_sweep)))
  k_with "fold" => (((fail_if_success (fail_if_success k_fold)); refine foldQ ?_; intro _))
  k_with "foldS" => (((fail_if_success (fail_if_success k_fold)); refine foldQS ?_; intro _ _))
  k_with "foldE" => (((fail_if_success (fail_if_success (refine swapT ⟨?_, ?_⟩; k_fold))); refine foldEE ?_; intro _))
  trivial

theorem rows_at_2 : True := by
  k_with "eval Name" => ((k_here; k_dflt (refine' nmL ?q0F ?q0v ?_ ?q0L ?q0x; (case q0x => rfl); (case q0F => k_asm); (case q0L => rfl); (case q0v => rfl); k_whole)))
  k_with "storeName" => ((k_here; k_dflt (refine' stL ?q0F ?q0N ?_ ?q0L ?q0x; (case q0x => rfl); (case q0F => k_asm); (case q0L => rfl); (case q0N => k_asm); k_whole; intro _ _ _ _ _ _; (try k_sweep))))
  trivial
section
variable {prog : Program} {w : World} {p : Program} {loose : List Str} {mean : ExcName → Option Value} {mg mb : Str → Option Value} {A A₀ : Around} {env : Env} {outer : List Env} {base h₀ : Heap} {L : Addr} {m : Str → Option Value} {s : Shared} {news : List (Addr × Obj)} {R : Result → Shared → Prop}
theorem c_need_aligned {mem wd : Addr} {pg a : Int} {t u : Tok} {tt : Toks} (C : Ctx w p loose mean mg mb A A₀ env outer base h₀ L s.heap m news) (M : Has h₀ mem 607 (memF pg wd tt)) (hp : 16 ≤ pg ∧ pg ≤ 256) (ha : 0 ≤ a ∧ a + 4 ≤ 4 * pg) (h4 : a.fmod 4 = 0) (hd : A.depth ≤ 800) (hu : A.units ≤ 8000)
  (hR : ∀ h' tk, let st' : Shared := { s with heap := h', toks := tk }; Fr h₀ L h' m → News h₀ L h' news → R (.ok (.ret (.none))) st') :
    codeAny (model prog w) A (.call (.ref 473) ⟨[.ref mem, .int a t, .int 4 u], []⟩) R s := by
  refine' enter [("self", .ref mem), ("address", .int a t), ("size", .int 4 u)] C ?k6 ?k7 ?k8 ?k9 ?kB ?c2 ?c3 ?c4 ?c5 ?_
  walk_at "entered"
  case k9 => walk_at "binds"
  obtain ⟨B, F, X, N, T, hA, hf, hke, hh⟩ := C
  intro g' L' h' tk' FG F' N' B' X' T'
  replace M := M.keeps FG.keep
  try dsimp only
  refine foldEnter (f := execs) F' ?_
  clear F'
  intro M9 en9 A9 m9 qk ek st9 F'
  try clear N
  k_steps
  all_goals first | contradiction | (refine hR _ _ ?_ ?_ <;> k_asm)
theorem rows_at_3 : True := by
  k_with "call ref" => (((with_reducible show wpAny _ _ (call (Value.ref 473) _) _ _ _); k_here; (with_reducible refine call_R ?_); k_dflt (refine' c_need_aligned ?q0C ?q0M ?q0hp ?q0ha ?q0h4 ?q0hd ?q0hu ?_; (case q0M => assumption); (case q0C => walk_at "ctx"); (case q0hp => first | assumption | walk_at "fact"); (case q0ha => first | assumption | walk_at "fact"); (case q0h4 => first | assumption | walk_at "fact"); (case q0hd => walk_at "depth"); (case q0hu => walk_at "units"); k_whole); intro _ _ _ _ _; (try (first | refine RetQ.ok ?_ | refine RetQ.err ?_)); (try walk_at "fold")))
  trivial
theorem c_keep {mem wd : Addr} {pg k v : Int} {t u : Tok} {tt : Toks} {o : Obj} {c : List (Int × Int)} {rest : List (Addr × Obj)} (C : Ctx w p loose mean mg mb A A₀ env outer base h₀ L s.heap m ((wd, o) :: rest)) (M : Has h₀ mem 607 (memF pg wd tt)) (W : WD prog w wd o c) (hne : ∀ p ∈ rest, p.1 ≠ wd) (hc : c.length < 900) (hd : A.depth ≤ 800) (hu : A.units ≤ 8000)
  (hR : ∀ h' tk o', let st' : Shared := { s with heap := h', toks := tk }; Fr h₀ L h' m → News h₀ L h' ((wd, o') :: rest) → WD prog w wd o' (if v = 0 then kdyDel c k else kdfPut c k v) → R (.ok (.ret (.none))) st') :
    codeAny (model prog w) A (.call (.ref 494) ⟨[.ref mem, .int k t, .int v u], []⟩) R s := by
  refine' enter [("self", .ref mem), ("index", .int k t), ("value", .int v u)] C ?k6 ?k7 ?k8 ?k9 ?kB ?c2 ?c3 ?c4 ?c5 ?_
  walk_at "entered"
  case k9 => walk_at "binds"
  obtain ⟨B, F, X, N, T, hA, hf, hke, hh⟩ := C
  intro g' L' h' tk' FG F' N' B' X' T'
  replace M := M.keeps FG.keep
  try dsimp only
  refine foldEnter (f := execs) F' ?_
  clear F'
  intro M9 en9 A9 m9 qk ek st9 F'
  try clear N
  k_steps
  · refine' hR _ _ _ ?F ?N ?W
    case F => k_asm
    case N => k_asm
    case W => rw [if_neg (by assumption)]; assumption
  · refine' hR _ _ _ ?F ?N ?W
    case F => k_asm
    case N => k_asm
    case W => rw [if_pos (by assumption)]; assumption
theorem rows_at_4 : True := by
  k_with "call ref" => (((with_reducible show wpAny _ _ (call (Value.ref 494) _) _ _ _); k_here; (with_reducible refine call_R ?_); k_dflt (refine' c_keep ?q0C ?q0M ?q0W ?q0hne ?q0hc ?q0hd ?q0hu ?_; (case q0M => assumption); (case q0W => assumption); (case q0C => walk_at "ctx"); (case q0hne => walk_at "apart"); (case q0hc => first | assumption | walk_at "fact"); (case q0hd => walk_at "depth"); (case q0hu => walk_at "units"); k_whole); intro _ _ _ _ _ _ _; (try (first | refine RetQ.ok ?_ | refine RetQ.err ?_)); (try walk_at "fold")))
  trivial
theorem c_word {mem wd : Addr} {pg a : Int} {t : Tok} {tt : Toks} {o : Obj} {c : List (Int × Int)} {rest : List (Addr × Obj)} (C : Ctx w p loose mean mg mb A A₀ env outer base h₀ L s.heap m ((wd, o) :: rest)) (M : Has h₀ mem 607 (memF pg wd tt)) (W : WD prog w wd o c) (hp : 16 ≤ pg ∧ pg ≤ 256) (ha : 0 ≤ a ∧ a + 4 ≤ 4 * pg) (h4 : a.fmod 4 = 0) (hd : A.depth ≤ 790) (hu : A.units ≤ 7900)
  (hR : ∀ h' tk t', let st' : Shared := { s with heap := h', toks := tk }; Fr h₀ L h' m → News h₀ L h' ((wd, o) :: rest) → R (.ok (.ret (.int (kdfLook c (a.fdiv 4) 0) t'))) st') :
    codeAny (model prog w) A (.call (.ref 480) ⟨[.ref mem, .int a t], []⟩) R s := by
  refine' enter [("self", .ref mem), ("address", .int a t)] C ?k6 ?k7 ?k8 ?k9 ?kB ?c2 ?c3 ?c4 ?c5 ?_
  walk_at "entered"
  case k9 => walk_at "binds"
  obtain ⟨B, F, X, N, T, hA, hf, hke, hh⟩ := C
  intro g' L' h' tk' FG F' N' B' X' T'
  replace M := M.keeps FG.keep
  try dsimp only
  refine foldEnter (f := execs) F' ?_
  clear F'
  intro M9 en9 A9 m9 qk ek st9 F'
  try clear N
  k_steps
  all_goals (refine hR _ _ _ ?_ ?_ <;> k_asm)
theorem rows_at_5 : True := by
  k_with "call ref" => (((with_reducible show wpAny _ _ (call (Value.ref 480) _) _ _ _); k_here; (with_reducible refine call_R ?_); k_dflt (refine' c_word ?q0C ?q0M ?q0W ?q0hp ?q0ha ?q0h4 ?q0hd ?q0hu ?_; (case q0M => assumption); (case q0W => assumption); (case q0C => walk_at "ctx"); (case q0hp => first | assumption | walk_at "fact"); (case q0ha => first | assumption | walk_at "fact"); (case q0h4 => first | assumption | walk_at "fact"); (case q0hd => walk_at "depth"); (case q0hu => walk_at "units"); k_whole); intro _ _ _ _ _ _; (try (first | refine RetQ.ok ?_ | refine RetQ.err ?_)); (try walk_at "fold")))
  trivial
theorem c_put_word {mem wd : Addr} {pg a v : Int} {t u : Tok} {tt : Toks} {o : Obj} {c : List (Int × Int)} {rest : List (Addr × Obj)} (C : Ctx w p loose mean mg mb A A₀ env outer base h₀ L s.heap m ((wd, o) :: rest)) (M : Has h₀ mem 607 (memF pg wd tt)) (W : WD prog w wd o c) (hne : ∀ p ∈ rest, p.1 ≠ wd) (hc : c.length < 900) (hp : 16 ≤ pg ∧ pg ≤ 256) (ha : 0 ≤ a ∧ a + 4 ≤ 4 * pg) (h4 : a.fmod 4 = 0) (hv : 0 ≤ v ∧ v < 65536) (hd : A.depth ≤ 790) (hu : A.units ≤ 7900)
  (hR : ∀ h' tk o', let st' : Shared := { s with heap := h', toks := tk }; Fr h₀ L h' m → News h₀ L h' ((wd, o') :: rest) → WD prog w wd o' (if v = 0 then kdyDel c (a.fdiv 4) else kdfPut c (a.fdiv 4) v) → R (.ok (.ret (.none))) st') :
    codeAny (model prog w) A (.call (.ref 487) ⟨[.ref mem, .int a t, .int v u], []⟩) R s := by
  refine' enter [("self", .ref mem), ("address", .int a t), ("value", .int v u)] C ?k6 ?k7 ?k8 ?k9 ?kB ?c2 ?c3 ?c4 ?c5 ?_
  walk_at "entered"
  case k9 => walk_at "binds"
  obtain ⟨B, F, X, N, T, hA, hf, hke, hh⟩ := C
  intro g' L' h' tk' FG F' N' B' X' T'
  replace M := M.keeps FG.keep
  try dsimp only
  refine foldEnter (f := execs) F' ?_
  clear F'
  intro M9 en9 A9 m9 qk ek st9 F'
  try clear N
  k_steps
  have e := mask_low hv.1 (Int.lt_trans hv.2 (by decide))
  all_goals (refine' hR _ _ _ ?F ?N ?W; (case F => k_asm); (case N => k_asm); (case W => (rename WD prog w wd _ _ => W9); rw [e] at W9; exact W9))
theorem rows_at_6 : True := by
  k_with "call ref" => (((with_reducible show wpAny _ _ (call (Value.ref 487) _) _ _ _); k_here; (with_reducible refine call_R ?_); k_dflt (refine' c_put_word ?q0C ?q0M ?q0W ?q0hne ?q0hc ?q0hp ?q0ha ?q0h4 ?q0hv ?q0hd ?q0hu ?_; (case q0M => assumption); (case q0W => assumption); (case q0C => walk_at "ctx"); (case q0hne => walk_at "apart"); (case q0hc => first | assumption | walk_at "fact"); (case q0hp => first | assumption | walk_at "fact"); (case q0ha => first | assumption | walk_at "fact"); (case q0h4 => first | assumption | walk_at "fact"); (case q0hv => first | assumption | walk_at "fact"); (case q0hd => walk_at "depth"); (case q0hu => walk_at "units"); k_whole); intro _ _ _ _ _ _ _; (try (first | refine RetQ.ok ?_ | refine RetQ.err ?_)); (try walk_at "fold")))
  trivial
end
end Mine
end W1
section W3
open PySem PySem.W PyProof.Rows PySem.Calls PySem.Spec PyProof.V
set_option maxRecDepth 100000
set_option maxHeartbeats 8000000
set_option autoImplicit false
namespace Mine


section
variable {prog : Program} {w : World} {p : Program} {loose : List Str} {mean : ExcName → Option Value} {mg mb : Str → Option Value} {A A₀ : Around} {env : Env} {outer : List Env} {base h₀ : Heap} {L : Addr} {m : Str → Option Value} {s : Shared} {news : List (Addr × Obj)} {R : Result → Shared → Prop}
theorem c_parts_in {lay : Addr} {b pg en lg ed : Int} {tl : Toks} {a : Int} {t : Tok} (C : Ctx w p loose mean mg mb A A₀ env outer base h₀ L s.heap m news) (D : Has h₀ lay 182 (layF b pg en lg ed tl)) (ln : LayN b pg en lg ed) (ha : 0 ≤ a ∧ a < ed) (hd : A.depth ≤ 800) (hu : A.units ≤ 8000)
  (hR : ∀ h' tk (x : Addr) (t1 t2 t3 : Tok), let st' : Shared := { s with heap := h', toks := tk }; Fr h₀ L h' m → let nw' : List (Addr × Obj) := ((x, tupObj [.int (pF b a) t1, .int (pS b en a) t2, .int (pO pg a) t3]) :: news); News h₀ L h' nw' → (∀ p ∈ news, p.1 < x) → R (.ok (.ret (.ref x))) st') :
    codeAny (model prog w) A (.call (.ref 129) ⟨[.ref lay, .int a t], []⟩) R s := by
  refine' enter [("self", .ref lay), ("address", .int a t)] C ?k6 ?k7 ?k8 ?k9 ?kB ?c2 ?c3 ?c4 ?c5 ?_
  walk_at "entered"
  case k9 => walk_at "binds"
  obtain ⟨B, F, X, N, T, hA, hf, hke, hh⟩ := C
  intro g' L' h' tk' FG F' N' B' X' T'
  replace D := D.keeps FG.keep
  try dsimp only
  refine foldEnter (f := execs) F' ?_
  clear F'
  intro M9 en9 A9 m9 qk ek st9 F'
  try clear N
  obtain ⟨hb, hpg, hen, hlg, hed⟩ := layN_b ln
  k_steps
  all_goals (refine' hR _ _ _ _ _ _ ?F ?N ?l; (case F => k_asm); (case N => k_asm); (case l => assumption))
theorem rows_at_7 : True := by
  k_with "call ref" => (((with_reducible show wpAny _ _ (call (Value.ref 129) _) _ _ _); k_here; (with_reducible refine call_R ?_); k_dflt (refine' c_parts_in ?q0C ?q0D ?q0ln ?q0ha ?q0hd ?q0hu ?_; (case q0D => assumption); (case q0C => walk_at "ctx"); (case q0ln => assumption); (case q0ha => first | assumption | walk_at "fact"); (case q0hd => walk_at "depth"); (case q0hu => walk_at "units"); k_whole); intro _ _ _ _ _ _ _ _ _ _ l1'; (try k_lt l1'); (try (revert l1'; intro _)); (try (first | refine RetQ.ok ?_ | refine RetQ.err ?_)); (try walk_at "fold")))
  trivial
theorem c_parts_out {lay : Addr} {b pg en lg ed : Int} {tl : Toks} {a : Int} {t : Tok} (C : Ctx w p loose mean mg mb A A₀ env outer base h₀ L s.heap m news) (D : Has h₀ lay 182 (layF b pg en lg ed tl)) (ln : LayN b pg en lg ed) (ha : ed ≤ a ∧ a < 4294967296) (hd : A.depth ≤ 800) (hu : A.units ≤ 8000)
  (hR : ∀ h' tk, let st' : Shared := { s with heap := h', toks := tk }; Fr h₀ L h' m → News h₀ L h' news → R (.ok (.ret (.none))) st') :
    codeAny (model prog w) A (.call (.ref 129) ⟨[.ref lay, .int a t], []⟩) R s := by
  refine' enter [("self", .ref lay), ("address", .int a t)] C ?k6 ?k7 ?k8 ?k9 ?kB ?c2 ?c3 ?c4 ?c5 ?_
  walk_at "entered"
  case k9 => walk_at "binds"
  obtain ⟨B, F, X, N, T, hA, hf, hke, hh⟩ := C
  intro g' L' h' tk' FG F' N' B' X' T'
  replace D := D.keeps FG.keep
  try dsimp only
  refine foldEnter (f := execs) F' ?_
  clear F'
  intro M9 en9 A9 m9 qk ek st9 F'
  try clear N
  obtain ⟨hb, hpg, hen, hlg, hed⟩ := layN_b ln
  k_steps
  all_goals first | contradiction | (refine hR _ _ ?_ ?_ <;> k_asm) | (refine hR _ _ _ ?_ ?_ <;> k_asm)
theorem rows_at_8 : True := by
  k_with "call ref" => (((with_reducible show wpAny _ _ (call (Value.ref 129) _) _ _ _); k_here; (with_reducible refine call_R ?_); k_dflt (refine' c_parts_out ?q0C ?q0D ?q0ln ?q0ha ?q0hd ?q0hu ?_; (case q0D => assumption); (case q0C => walk_at "ctx"); (case q0ln => assumption); (case q0ha => first | assumption | walk_at "fact"); (case q0hd => walk_at "depth"); (case q0hu => walk_at "units"); k_whole); intro _ _ _ _ _; (try (first | refine RetQ.ok ?_ | refine RetQ.err ?_)); (try walk_at "fold")))
  trivial
theorem c_address {lay : Addr} {b pg en lg ed : Int} {tl : Toks} {f g q : Int} {t u v : Tok} (C : Ctx w p loose mean mg mb A A₀ env outer base h₀ L s.heap m news) (D : Has h₀ lay 182 (layF b pg en lg ed tl)) (ln : LayN b pg en lg ed) (hf1 : 0 ≤ f ∧ f < 64) (hg1 : 0 ≤ g ∧ g < 64) (hq1 : 0 ≤ q ∧ q < 256) (hd : A.depth ≤ 800) (hu : A.units ≤ 8000)
  (hR : ∀ h' tk t', let st' : Shared := { s with heap := h', toks := tk }; Fr h₀ L h' m → News h₀ L h' news → R (.ok (.ret (.int (addrS b f g q) t'))) st') :
    codeAny (model prog w) A (.call (.ref 137) ⟨[.ref lay, .int f t, .int g u, .int q v], []⟩) R s := by
  refine' enter [("self", .ref lay), ("first", .int f t), ("second", .int g u), ("offset", .int q v)] C ?k6 ?k7 ?k8 ?k9 ?kB ?c2 ?c3 ?c4 ?c5 ?_
  walk_at "entered"
  case k9 => walk_at "dbinds"
  obtain ⟨B, F, X, N, T, hA, hf, hke, hh⟩ := C
  intro g' L' h' tk' FG F' N' B' X' T'
  replace D := D.keeps FG.keep
  try dsimp only
  refine foldEnter (f := execs) F' ?_
  clear F'
  intro M9 en9 A9 m9 qk ek st9 F'
  try clear N
  obtain ⟨hb, hpg, hen, hlg, hed⟩ := layN_b ln
  have hor := or_addr hb hf1 hg1
  k_steps
  all_goals first | contradiction | (refine hR _ _ ?_ ?_ <;> k_asm) | (refine hR _ _ _ ?_ ?_ <;> k_asm)
theorem rows_at_9 : True := by
  k_with "call ref" => (((with_reducible show wpAny _ _ (call (Value.ref 137) _) _ _ _); k_here; (with_reducible refine call_R ?_); k_dflt (refine' c_address ?q0C ?q0D ?q0ln ?q0hf1 ?q0hg1 ?q0hq1 ?q0hd ?q0hu ?_; (case q0D => assumption); (case q0C => walk_at "ctx"); (case q0ln => assumption); (case q0hf1 => first | assumption | walk_at "fact"); (case q0hg1 => first | assumption | walk_at "fact"); (case q0hq1 => first | assumption | walk_at "fact"); (case q0hd => walk_at "depth"); (case q0hu => walk_at "units"); k_whole); intro _ _ _ _ _ _; (try (first | refine RetQ.ok ?_ | refine RetQ.err ?_)); (try walk_at "fold")))
  trivial
theorem c_down {lay : Addr} {b pg en lg ed : Int} {tl : Toks} {a : Int} {t : Tok} (C : Ctx w p loose mean mg mb A A₀ env outer base h₀ L s.heap m news) (D : Has h₀ lay 182 (layF b pg en lg ed tl)) (ln : LayN b pg en lg ed) (ha : 0 ≤ a ∧ a < 4294967296) (hd : A.depth ≤ 800) (hu : A.units ≤ 8000)
  (hR : ∀ h' tk t', let st' : Shared := { s with heap := h', toks := tk }; Fr h₀ L h' m → News h₀ L h' news → R (.ok (.ret (.int (downS pg a) t'))) st') :
    codeAny (model prog w) A (.call (.ref 144) ⟨[.ref lay, .int a t], []⟩) R s := by
  refine' enter [("self", .ref lay), ("address", .int a t)] C ?k6 ?k7 ?k8 ?k9 ?kB ?c2 ?c3 ?c4 ?c5 ?_
  walk_at "entered"
  case k9 => walk_at "binds"
  obtain ⟨B, F, X, N, T, hA, hf, hke, hh⟩ := C
  intro g' L' h' tk' FG F' N' B' X' T'
  replace D := D.keeps FG.keep
  try dsimp only
  refine foldEnter (f := execs) F' ?_
  clear F'
  intro M9 en9 A9 m9 qk ek st9 F'
  try clear N
  obtain ⟨hb, hpg, hen, hlg, hed⟩ := layN_b ln
  k_steps
  all_goals first | contradiction | (refine hR _ _ ?_ ?_ <;> k_asm) | (refine hR _ _ _ ?_ ?_ <;> k_asm)
theorem rows_at_10 : True := by
  k_with "call ref" => (((with_reducible show wpAny _ _ (call (Value.ref 144) _) _ _ _); k_here; (with_reducible refine call_R ?_); k_dflt (refine' c_down ?q0C ?q0D ?q0ln ?q0ha ?q0hd ?q0hu ?_; (case q0D => assumption); (case q0C => walk_at "ctx"); (case q0ln => assumption); (case q0ha => first | assumption | walk_at "fact"); (case q0hd => walk_at "depth"); (case q0hu => walk_at "units"); k_whole); intro _ _ _ _ _ _; (try (first | refine RetQ.ok ?_ | refine RetQ.err ?_)); (try walk_at "fold")))
  trivial
theorem c_is_begin {lay : Addr} {b pg en lg ed : Int} {tl : Toks} {a : Int} {t : Tok} (C : Ctx w p loose mean mg mb A A₀ env outer base h₀ L s.heap m news) (D : Has h₀ lay 182 (layF b pg en lg ed tl)) (ln : LayN b pg en lg ed) (ha : 0 ≤ a ∧ a < 4294967296) (hd : A.depth ≤ 800) (hu : A.units ≤ 8000)
  (hR : ∀ h' tk, let st' : Shared := { s with heap := h', toks := tk }; Fr h₀ L h' m → News h₀ L h' news → R (.ok (.ret (.bool (pO pg a == 0)))) st') :
    codeAny (model prog w) A (.call (.ref 158) ⟨[.ref lay, .int a t], []⟩) R s := by
  refine' enter [("self", .ref lay), ("address", .int a t)] C ?k6 ?k7 ?k8 ?k9 ?kB ?c2 ?c3 ?c4 ?c5 ?_
  walk_at "entered"
  case k9 => walk_at "binds"
  obtain ⟨B, F, X, N, T, hA, hf, hke, hh⟩ := C
  intro g' L' h' tk' FG F' N' B' X' T'
  replace D := D.keeps FG.keep
  try dsimp only
  refine foldEnter (f := execs) F' ?_
  clear F'
  intro M9 en9 A9 m9 qk ek st9 F'
  try clear N
  obtain ⟨hb, hpg, hen, hlg, hed⟩ := layN_b ln
  k_steps
  all_goals first | contradiction | (refine hR _ _ ?_ ?_ <;> k_asm) | (refine hR _ _ _ ?_ ?_ <;> k_asm)
theorem rows_at_11 : True := by
  k_with "call ref" => (((with_reducible show wpAny _ _ (call (Value.ref 158) _) _ _ _); k_here; (with_reducible refine call_R ?_); k_dflt (refine' c_is_begin ?q0C ?q0D ?q0ln ?q0ha ?q0hd ?q0hu ?_; (case q0D => assumption); (case q0C => walk_at "ctx"); (case q0ln => assumption); (case q0ha => first | assumption | walk_at "fact"); (case q0hd => walk_at "depth"); (case q0hu => walk_at "units"); k_whole); intro _ _ _ _ _; (try (first | refine RetQ.ok ?_ | refine RetQ.err ?_)); (try walk_at "fold")))
  trivial
theorem c_lentry {lay : Addr} {b pg en lg ed : Int} {tl : Toks} {a f : Int} {t u : Tok} (C : Ctx w p loose mean mg mb A A₀ env outer base h₀ L s.heap m news) (D : Has h₀ lay 182 (layF b pg en lg ed tl)) (ln : LayN b pg en lg ed) (ha : 0 ≤ a ∧ a < 65536) (hf1 : 0 ≤ f ∧ f < 1024) (hd : A.depth ≤ 800) (hu : A.units ≤ 8000)
  (hR : ∀ h' tk t', let st' : Shared := { s with heap := h', toks := tk }; Fr h₀ L h' m → News h₀ L h' news → R (.ok (.ret (.int (entS b a f) t'))) st') :
    codeAny (model prog w) A (.call (.ref 172) ⟨[.ref lay, .int a t, .int f u], []⟩) R s := by
  refine' enter [("self", .ref lay), ("physical", .int a t), ("flags", .int f u)] C ?k6 ?k7 ?k8 ?k9 ?kB ?c2 ?c3 ?c4 ?c5 ?_
  walk_at "entered"
  case k9 => walk_at "binds"
  obtain ⟨B, F, X, N, T, hA, hf, hke, hh⟩ := C
  intro g' L' h' tk' FG F' N' B' X' T'
  replace D := D.keeps FG.keep
  try dsimp only
  refine foldEnter (f := execs) F' ?_
  clear F'
  intro M9 en9 A9 m9 qk ek st9 F'
  try clear N
  obtain ⟨hb, hpg, hen, hlg, hed⟩ := layN_b ln
  k_steps
  all_goals first | contradiction | (refine hR _ _ ?_ ?_ <;> k_asm) | (refine hR _ _ _ ?_ ?_ <;> k_asm)
theorem rows_at_12 : True := by
  k_with "call ref" => (((with_reducible show wpAny _ _ (call (Value.ref 172) _) _ _ _); k_here; (with_reducible refine call_R ?_); k_dflt (refine' c_lentry ?q0C ?q0D ?q0ln ?q0ha ?q0hf1 ?q0hd ?q0hu ?_; (case q0D => assumption); (case q0C => walk_at "ctx"); (case q0ln => assumption); (case q0ha => first | assumption | walk_at "fact"); (case q0hf1 => first | assumption | walk_at "fact"); (case q0hd => walk_at "depth"); (case q0hu => walk_at "units"); k_whole); intro _ _ _ _ _ _; (try (first | refine RetQ.ok ?_ | refine RetQ.err ?_)); (try walk_at "fold")))
  trivial
theorem c_lphysical {lay : Addr} {b pg en lg ed : Int} {tl : Toks} {e : Int} {t : Tok} (C : Ctx w p loose mean mg mb A A₀ env outer base h₀ L s.heap m news) (D : Has h₀ lay 182 (layF b pg en lg ed tl)) (ln : LayN b pg en lg ed) (he : 0 ≤ e ∧ e < 65536) (hd : A.depth ≤ 800) (hu : A.units ≤ 8000)
  (hR : ∀ h' tk t', let st' : Shared := { s with heap := h', toks := tk }; Fr h₀ L h' m → News h₀ L h' news → R (.ok (.ret (.int (physS b e) t'))) st') :
    codeAny (model prog w) A (.call (.ref 179) ⟨[.ref lay, .int e t], []⟩) R s := by
  refine' enter [("self", .ref lay), ("entry", .int e t)] C ?k6 ?k7 ?k8 ?k9 ?kB ?c2 ?c3 ?c4 ?c5 ?_
  walk_at "entered"
  case k9 => walk_at "binds"
  obtain ⟨B, F, X, N, T, hA, hf, hke, hh⟩ := C
  intro g' L' h' tk' FG F' N' B' X' T'
  replace D := D.keeps FG.keep
  try dsimp only
  refine foldEnter (f := execs) F' ?_
  clear F'
  intro M9 en9 A9 m9 qk ek st9 F'
  try clear N
  obtain ⟨hb, hpg, hen, hlg, hed⟩ := layN_b ln
  k_steps
  all_goals first | contradiction | (refine hR _ _ ?_ ?_ <;> k_asm) | (refine hR _ _ _ ?_ ?_ <;> k_asm)
theorem rows_at_13 : True := by
  k_with "call ref" => (((with_reducible show wpAny _ _ (call (Value.ref 179) _) _ _ _); k_here; (with_reducible refine call_R ?_); k_dflt (refine' c_lphysical ?q0C ?q0D ?q0ln ?q0he ?q0hd ?q0hu ?_; (case q0D => assumption); (case q0C => walk_at "ctx"); (case q0ln => assumption); (case q0he => first | assumption | walk_at "fact"); (case q0hd => walk_at "depth"); (case q0hu => walk_at "units"); k_whole); intro _ _ _ _ _ _; (try (first | refine RetQ.ok ?_ | refine RetQ.err ?_)); (try walk_at "fold")))
  trivial
theorem c_is_leaf {e : Int} {t : Tok} (C : Ctx w p loose mean mg mb A A₀ env outer base h₀ L s.heap m news) (he : 0 ≤ e ∧ e < 65536) (hd : A.depth ≤ 800) (hu : A.units ≤ 8000)
  (hR : ∀ h' tk, let st' : Shared := { s with heap := h', toks := tk }; Fr h₀ L h' m → News h₀ L h' news → R (.ok (.ret (.bool (leafS e)))) st') :
    codeAny (model prog w) A (.call (.ref 198) ⟨[.int e t], []⟩) R s := by
  refine' enter [("entry", .int e t)] C ?k6 ?k7 ?k8 ?k9 ?kB ?c2 ?c3 ?c4 ?c5 ?_
  walk_at "entered"
  case k9 => walk_at "binds"
  obtain ⟨B, F, X, N, T, hA, hf, hke, hh⟩ := C
  intro g' L' h' tk' FG F' N' B' X' T'
  try dsimp only
  refine foldEnter (f := execs) F' ?_
  clear F'
  intro M9 en9 A9 m9 qk ek st9 F'
  try clear N
  k_steps
  all_goals first | contradiction | (refine hR _ _ ?_ ?_ <;> k_asm) | (refine hR _ _ _ ?_ ?_ <;> k_asm)
theorem rows_at_14 : True := by
  k_with "call ref" => (((with_reducible show wpAny _ _ (call (Value.ref 198) _) _ _ _); k_here; (with_reducible refine call_R ?_); k_dflt (refine' c_is_leaf ?q0C ?q0he ?q0hd ?q0hu ?_; (case q0C => walk_at "ctx"); (case q0he => first | assumption | walk_at "fact"); (case q0hd => walk_at "depth"); (case q0hu => walk_at "units"); k_whole); intro _ _ _ _ _; (try (first | refine RetQ.ok ?_ | refine RetQ.err ?_)); (try walk_at "fold")))
  trivial
theorem c_is_sound {e : Int} {t : Tok} (C : Ctx w p loose mean mg mb A A₀ env outer base h₀ L s.heap m news) (he : 0 ≤ e ∧ e < 65536) (hd : A.depth ≤ 800) (hu : A.units ≤ 8000)
  (hR : ∀ h' tk, let st' : Shared := { s with heap := h', toks := tk }; Fr h₀ L h' m → News h₀ L h' news → R (.ok (.ret (.bool (soundS e)))) st') :
    codeAny (model prog w) A (.call (.ref 205) ⟨[.int e t], []⟩) R s := by
  refine' enter [("entry", .int e t)] C ?k6 ?k7 ?k8 ?k9 ?kB ?c2 ?c3 ?c4 ?c5 ?_
  walk_at "entered"
  case k9 => walk_at "binds"
  obtain ⟨B, F, X, N, T, hA, hf, hke, hh⟩ := C
  intro g' L' h' tk' FG F' N' B' X' T'
  try dsimp only
  refine foldEnter (f := execs) F' ?_
  clear F'
  intro M9 en9 A9 m9 qk ek st9 F'
  try clear N
  k_steps
  all_goals (refine (congrArg (fun v => R (.ok (.ret (.bool v))) _) ?e).mp (hR _ _ ?F ?N); (case F => k_asm); (case N => k_asm); (case e => first | (exfalso; omega) | (simp [soundS, mayS, or24, *]; done)))
theorem rows_at_15 : True := by
  k_with "call ref" => (((with_reducible show wpAny _ _ (call (Value.ref 205) _) _ _ _); k_here; (with_reducible refine call_R ?_); k_dflt (refine' c_is_sound ?q0C ?q0he ?q0hd ?q0hu ?_; (case q0C => walk_at "ctx"); (case q0he => first | assumption | walk_at "fact"); (case q0hd => walk_at "depth"); (case q0hu => walk_at "units"); k_whole); intro _ _ _ _ _; (try (first | refine RetQ.ok ?_ | refine RetQ.err ?_)); (try walk_at "fold")))
  trivial
theorem c_may {e mode sm mx : Int} {k : Str} {t u v x y : Tok} (C : Ctx w p loose mean mg mb A A₀ env outer base h₀ L s.heap m news) (he : 0 ≤ e ∧ e < 65536) (hd : A.depth ≤ 800) (hu : A.units ≤ 8000)
  (hR : ∀ h' tk, let st' : Shared := { s with heap := h', toks := tk }; Fr h₀ L h' m → News h₀ L h' news → R (.ok (.ret (.bool (mayS e k mode sm mx)))) st') :
    codeAny (model prog w) A (.call (.ref 212) ⟨[.int e t, .str k u, .int mode v, .int sm x, .int mx y], []⟩) R s := by
  refine' enter [("entry", .int e t), ("kind", .str k u), ("mode", .int mode v), ("sum_bit", .int sm x), ("mxr", .int mx y)] C ?k6 ?k7 ?k8 ?k9 ?kB ?c2 ?c3 ?c4 ?c5 ?_
  walk_at "entered"
  case k9 => walk_at "binds"
  obtain ⟨B, F, X, N, T, hA, hf, hke, hh⟩ := C
  intro g' L' h' tk' FG F' N' B' X' T'
  try dsimp only
  refine foldEnter (f := execs) F' ?_
  clear F'
  intro M9 en9 A9 m9 qk ek st9 F'
  try clear N
  k_steps
  all_goals (refine (congrArg (fun v => R (.ok (.ret (.bool v))) _) ?e).mp (hR _ _ ?F ?N); (case F => k_asm); (case N => k_asm); (case e => first | (exfalso; omega) | (simp [soundS, mayS, or24, *]; done)))
theorem rows_at_16 : True := by
  k_with "call ref" => (((with_reducible show wpAny _ _ (call (Value.ref 212) _) _ _ _); k_here; (with_reducible refine call_R ?_); k_dflt (refine' c_may ?q0C ?q0he ?q0hd ?q0hu ?_; (case q0C => walk_at "ctx"); (case q0he => first | assumption | walk_at "fact"); (case q0hd => walk_at "depth"); (case q0hu => walk_at "units"); k_whole); intro _ _ _ _ _; (try (first | refine RetQ.ok ?_ | refine RetQ.err ?_)); (try walk_at "fold")))
  trivial
end
end Mine
end W3
section W4
open PySem PySem.W PyProof.Rows PySem.Calls PySem.Spec PyProof.V
set_option maxRecDepth 100000
set_option maxHeartbeats 8000000
set_option autoImplicit false
namespace Mine


theorem rows_at_17 : True := by
  k_with "getMethod" => ((k_here; (with_reducible show wpAny _ _ (getMethod (Value.type "ValueError") _ _) _ _ _); with_reducible refine ve_getm (by k_asm) (by k_asm) ?_))
  k_with "call builtin:ValueError.__init__" => ((k_here; k_dflt (refine' oe_init ?q0O ?q0F ?q0X ?q0N ?q0ne ?_; (case q0O => k_asm); (case q0F => k_asm); (case q0X => k_asm); (case q0N => k_asm); (case q0ne => k_asm); k_whole); intro _ _ _ _ l1; (have lE := ltN (l1 _ (List.Mem.head _))); (try dsimp only at lE)))
  k_with "setAttr ref" =>
    ((k_here; k_dflt (first
      | (refine' oe_first ?q0O ?q0n ?q0F ?q0X ?q0N ?q0ne ?_; (case q0O => k_asm); (case q0n => first | exact .inl rfl | exact .inr (.inl rfl) | exact .inr (.inr rfl)); (case q0F => k_asm); (case q0X => k_asm); (case q0N => k_asm); (case q0ne => exact List.forall_mem_cons.mpr ⟨by k_ne, by k_asm⟩); k_whole; intro _ _ _ _ _ _ _ l1; (have lX := ltN (l1 _ (List.Mem.head _))); (try dsimp only at lX))
      | (refine' oe_next ?q0O ?q0n ?q0F ?q0X ?q0N ?q0ne ?q0nx ?q0l ?q0z ?_; (case q0O => k_asm); (case q0n => first | exact .inl rfl | exact .inr (.inl rfl) | exact .inr (.inr rfl)); (case q0F => k_asm); (case q0X => k_asm); (case q0N => k_asm); (case q0ne => first | k_asm | exact List.forall_mem_cons.mpr ⟨by k_ne, by k_asm⟩); (case q0nx => k_ne); (case q0l => with_unfolding_all rfl); (case q0z => (simp only [List.length_cons, List.length_nil]; omega)); k_whole; intro _ _ _ _ _ N'; (try dsimp only [List.cons_append, List.nil_append] at N'); (try (revert N'; intro _))))))
  k_with "formatField int" => ((k_here; (with_reducible refine fmt_hex (by omega) (by omega) ?_); intro _ _ _ _))
  trivial
section
variable {prog : Program} {w : World} {p : Program} {loose : List Str} {mean : ExcName → Option Value} {mg mb : Str → Option Value} {A A₀ : Around} {env : Env} {outer : List Env} {base h₀ : Heap} {L : Addr} {m : Str → Option Value} {s : Shared} {news : List (Addr × Obj)} {R : Result → Shared → Prop}
theorem c_boardinit {C0 e t : Addr} {r : Str} {tr : Tok} {rest : List (Addr × Obj)} (C : Ctx w p loose mean mg mb A A₀ env outer base h₀ L s.heap m ((e, excObj C0 t none) :: rest)) (O : OwnExc (K w.params) C0) (hne : ∀ p ∈ rest, p.1 ≠ e) (hd : A.depth ≤ 780) (hu : A.units ≤ 7800)
  (hR : ∀ h' tk t1 dx hs tk1, let st' : Shared := { s with heap := h', toks := tk }; Fr h₀ L h' m → let nw' : List (Addr × Obj) := ((dx, dictOf [⟨hs, .str "reason" tk1, .str r tr⟩] 1) :: (e, excObj C0 t1 (some dx)) :: (t1, tupObj [.str r tr]) :: rest); News h₀ L h' nw' → e < dx → t1 < dx → e < t1 → (∀ p ∈ rest, p.1 < dx) → R (.ok (.ret (.none))) st') :
    codeAny (model prog w) A (.call (.ref 36) ⟨[.ref e, .str r tr], []⟩) R s := by
  refine' enter [("self", .ref e), ("reason", .str r tr)] C ?k6 ?k7 ?k8 ?k9 ?kB ?c2 ?c3 ?c4 ?c5 ?_
  walk_at "entered"
  case k9 => walk_at "dbinds"
  obtain ⟨B, F, X, N, T, hA, hf, hke, hh⟩ := C
  intro g' L' h' tk' FG F' N' B' X' T'
  try dsimp only
  refine foldEnter (f := execs) F' ?_
  clear F'
  intro M9 en9 A9 m9 qk ek st9 F'
  try clear N
  k_steps
  rename (∀ p : Addr × Obj, p ∈ ((e, excObj C0 _ none) :: (_, tupObj _) :: rest) → @LT.lt Nat _ p.1 _) => lq
  exact hR _ _ _ _ _ _ (by k_asm) (by k_asm) (lq _ (.head _)) (lq _ (.tail _ (.head _))) (by assumption) (fun p hp => lq p (.tail _ (.tail _ hp)))
theorem rows_at_18 : True := by
  k_with "call ref" => (((with_reducible show wpAny _ _ (call (Value.ref 36) _) _ _ _); k_here; (with_reducible refine call_R ?_); k_dflt (refine' c_boardinit ?q0C ?q0O ?q0hne ?q0hd ?q0hu ?_; (case q0O => assumption); (case q0C => walk_at "ctx"); (case q0hne => walk_at "apart"); (case q0hd => walk_at "depth"); (case q0hu => walk_at "units"); k_whole); intro _ _ _ _ _ _ _ _ _ _ l1 l2 _ l4; (replace l1 := ltN l1); (replace l2 := ltN l2); (have l5 := ne_all l4); (try (first | refine RetQ.ok ?_ | refine RetQ.err ?_)); (try walk_at "fold")))
  trivial
theorem c_trapinit {e t : Addr} {c v : Int} {tc tv : Tok} {rest : List (Addr × Obj)} (C : Ctx w p loose mean mg mb A A₀ env outer base h₀ L s.heap m ((e, excObj 103 t none) :: rest)) (O : OwnExc (K w.params) 103) (hne : ∀ p ∈ rest, p.1 ≠ e) (hc : 0 ≤ c ∧ c < 16) (hv : 0 ≤ v ∧ v < 1000000000) (hd : A.depth ≤ 760) (hu : A.units ≤ 7600)
  (hR : ∀ h' tk (t1 dx : Addr) (y : Str) (hs1 hs2 hs3 : Int) (k1 k2 k3 ty : Tok), let st' : Shared := { s with heap := h', toks := tk }; Fr h₀ L h' m → let nw' : List (Addr × Obj) := ((dx, dictOf [⟨hs1, .str "reason" k1, .str y ty⟩, ⟨hs2, .str "cause" k2, .int c tc⟩, ⟨hs3, .str "value" k3, .int v tv⟩] 3) :: (e, excObj 103 t1 (some dx)) :: (t1, tupObj [.str y ty]) :: rest); News h₀ L h' nw' → e < dx → t1 < dx → e < t1 → (∀ p ∈ rest, p.1 < dx) → R (.ok (.ret (.none))) st') :
    codeAny (model prog w) A (.call (.ref 100) ⟨[.ref e, .int c tc, .int v tv], []⟩) R s := by
  refine' enter [("self", .ref e), ("cause", .int c tc), ("value", .int v tv)] C ?k6 ?k7 ?k8 ?k9 ?kB ?c2 ?c3 ?c4 ?c5 ?_
  walk_at "entered"
  case k9 => walk_at "dbinds"
  obtain ⟨B, F, X, N, T, hA, hf, hke, hh⟩ := C
  intro g' L' h' tk' FG F' N' B' X' T'
  try dsimp only
  refine foldEnter (f := execs) F' ?_
  clear F'
  intro M9 en9 A9 m9 qk ek st9 F'
  try clear N
  k_steps
  exact hR _ _ _ _ _ _ _ _ _ _ _ _ (by k_asm) (by k_asm) (by assumption) (by assumption) (by assumption) (by assumption)
theorem own_trap : OwnExc (K w.params) 103 :=
  ⟨⟨"Trap", "Trap", 102, [.ref 39], [], [], false, none, none, some (.ref 86), none, some (.str "Trap" 281), some (.str "Trap" 289), some (.bool true), rfl⟩, by k_is, by k_is, by k_is, by k_is⟩
theorem own_arg : OwnExc (K w.params) 52 :=
  ⟨⟨"BadArgument", "BadArgument", 51, [.ref 39], [], [], false, none, none, some (.ref 43), none, some (.str "BadArgument" 224), some (.str "BadArgument" 232), some (.bool true), rfl⟩, by k_is, by k_is, by k_is, by k_is⟩
theorem c_mktrap {c v : Int} {tc tv : Tok} (C : Ctx w p loose mean mg mb A A₀ env outer base h₀ L s.heap m news) (hc : 0 ≤ c ∧ c < 16) (hv : 0 ≤ v ∧ v < 1000000000) (hd : A.depth ≤ 740) (hu : A.units ≤ 7400)
  (hR : ∀ h' tk (e t1 t2 dx : Addr) (y : Str) (hs1 hs2 hs3 : Int) (k1 k2 k3 ty : Tok), Fr h₀ L h' m → News h₀ L h' ((dx, dictOf [⟨hs1, .str "reason" k1, .str y ty⟩, ⟨hs2, .str "cause" k2, .int c tc⟩, ⟨hs3, .str "value" k3, .int v tv⟩] 3) :: (e, excObj 103 t1 (some dx)) :: (t1, tupObj [.str y ty]) :: (t2, tupObj [.int c tc, .int v tv]) :: news) → (∀ p ∈ news, p.1 < t2) → t2 < e → e < t1 → t1 < dx → R (.ok (.ret (.ref e))) { s with heap := h', toks := tk }) :
    codeAny (model prog w) A (.call (.ref 103) ⟨[.int c tc, .int v tv], []⟩) R s := by
  obtain ⟨B, F, X, N, T, hA, hf, hke, hh⟩ := C
  refine oe_make (own_trap (w := w)) F X N (fI := 100) (by k_is) (by k_is) (by rw [sizeLine_eq]; exact Nat.le_of_ble_eq_true rfl) fun e t h' F' N' l1 l2 => ?_
  refine c_trapinit (s := { s with heap := h' }) ⟨B, F', X, N', T, ?_, hf, hke, ?_⟩ own_trap ?_ hc hv ?_ ?_ ?_
  · exact hA
  · exact hh
  · exact List.forall_mem_cons.mpr ⟨Nat.ne_of_lt l2, fun p hp => Nat.ne_of_lt (Nat.lt_trans (l1 p hp) l2)⟩
  · rw [depth_under_make]; omega
  · rw [units_under_make]; omega
  · intro h1 tk t1 dx y hs1 hs2 hs3 k1 k2 k3 ty st1 F1 nw1 N1 a b c' d
    exact ⟨rfl, hR _ _ _ _ _ _ _ _ _ _ _ _ _ _ F1 N1 l1 l2 c' b⟩
end
end Mine
end W4
section W2
open PySem PySem.W PyProof.Rows PySem.Calls PySem.Spec PyProof.V
set_option maxRecDepth 100000
set_option maxHeartbeats 8000000
set_option autoImplicit false
namespace Mine


section
variable {prog : Program} {w : World} {p : Program} {loose : List Str} {mean : ExcName → Option Value} {mg mb : Str → Option Value} {A A₀ : Around} {env : Env} {outer : List Env} {base h₀ : Heap} {L : Addr} {m : Str → Option Value} {s : Shared} {news : List (Addr × Obj)} {R : Result → Shared → Prop}
theorem c_get {mem wd : Addr} {pg a : Int} {t u : Tok} {tt : Toks} {o : Obj} {c : List (Int × Int)} {rest : List (Addr × Obj)} (C : Ctx w p loose mean mg mb A A₀ env outer base h₀ L s.heap m ((wd, o) :: rest)) (M : Has h₀ mem 607 (memF pg wd tt)) (W : WD prog w wd o c) (hp : 16 ≤ pg ∧ pg ≤ 256) (ha : 0 ≤ a ∧ a + 4 ≤ 4 * pg) (h4 : a.fmod 4 = 0) (hd : A.depth ≤ 780) (hu : A.units ≤ 7800)
  (hR : ∀ h' tk t', let st' : Shared := { s with heap := h', toks := tk }; Fr h₀ L h' m → News h₀ L h' ((wd, o) :: rest) → R (.ok (.ret (.int (kdfLook c (a.fdiv 4) 0) t'))) st') :
    codeAny (model prog w) A (.call (.ref 536) ⟨[.ref mem, .int a t, .int 4 u], []⟩) R s := by
  refine' enter [("self", .ref mem), ("address", .int a t), ("size", .int 4 u)] C ?k6 ?k7 ?k8 ?k9 ?kB ?c2 ?c3 ?c4 ?c5 ?_
  walk_at "entered"
  case k9 => walk_at "binds"
  obtain ⟨B, F, X, N, T, hA, hf, hke, hh⟩ := C
  intro g' L' h' tk' FG F' N' B' X' T'
  replace M := M.keeps FG.keep
  try dsimp only
  refine foldEnter (f := execs) F' ?_
  clear F'
  intro M9 en9 A9 m9 qk ek st9 F'
  try clear N
  k_steps
  all_goals (refine hR _ _ _ ?_ ?_ <;> k_asm)
theorem rows_at_19 : True := by
  k_with "call ref" => (((with_reducible show wpAny _ _ (call (Value.ref 536) _) _ _ _); k_here; (with_reducible refine call_R ?_); k_dflt (refine' c_get ?q0C ?q0M ?q0W ?q0hp ?q0ha ?q0h4 ?q0hd ?q0hu ?_; (case q0M => assumption); (case q0W => assumption); (case q0C => walk_at "ctx"); (case q0hp => first | assumption | walk_at "fact"); (case q0ha => first | assumption | walk_at "fact"); (case q0h4 => first | assumption | walk_at "fact"); (case q0hd => walk_at "depth"); (case q0hu => walk_at "units"); k_whole); intro _ _ _ _ _ _; (try (first | refine RetQ.ok ?_ | refine RetQ.err ?_)); (try walk_at "fold")))
  trivial
theorem c_put {mem wd : Addr} {pg a v : Int} {t u tv : Tok} {tt : Toks} {o : Obj} {c : List (Int × Int)} {rest : List (Addr × Obj)} (C : Ctx w p loose mean mg mb A A₀ env outer base h₀ L s.heap m ((wd, o) :: rest)) (M : Has h₀ mem 607 (memF pg wd tt)) (W : WD prog w wd o c) (hne : ∀ p ∈ rest, p.1 ≠ wd) (hc : c.length < 900) (hp : 16 ≤ pg ∧ pg ≤ 256) (ha : 0 ≤ a ∧ a + 4 ≤ 4 * pg) (h4 : a.fmod 4 = 0) (hv : 0 ≤ v ∧ v < 65536) (hd : A.depth ≤ 780) (hu : A.units ≤ 7800)
  (hR : ∀ h' tk o', let st' : Shared := { s with heap := h', toks := tk }; Fr h₀ L h' m → News h₀ L h' ((wd, o') :: rest) → WD prog w wd o' (if v = 0 then kdyDel c (a.fdiv 4) else kdfPut c (a.fdiv 4) v) → R (.ok (.ret (.none))) st') :
    codeAny (model prog w) A (.call (.ref 543) ⟨[.ref mem, .int a t, .int 4 u, .int v tv], []⟩) R s := by
  refine' enter [("self", .ref mem), ("address", .int a t), ("size", .int 4 u), ("value", .int v tv)] C ?k6 ?k7 ?k8 ?k9 ?kB ?c2 ?c3 ?c4 ?c5 ?_
  walk_at "entered"
  case k9 => walk_at "binds"
  obtain ⟨B, F, X, N, T, hA, hf, hke, hh⟩ := C
  intro g' L' h' tk' FG F' N' B' X' T'
  replace M := M.keeps FG.keep
  try dsimp only
  refine foldEnter (f := execs) F' ?_
  clear F'
  intro M9 en9 A9 m9 qk ek st9 F'
  try clear N
  k_steps
  all_goals (refine' hR _ _ _ ?F ?N ?W; (case F => k_asm); (case N => k_asm); (case W => assumption))
theorem rows_at_20 : True := by
  k_with "call ref" => (((with_reducible show wpAny _ _ (call (Value.ref 543) _) _ _ _); k_here; (with_reducible refine call_R ?_); k_dflt (refine' c_put ?q0C ?q0M ?q0W ?q0hne ?q0hc ?q0hp ?q0ha ?q0h4 ?q0hv ?q0hd ?q0hu ?_; (case q0M => assumption); (case q0W => assumption); (case q0C => walk_at "ctx"); (case q0hne => walk_at "apart"); (case q0hc => first | assumption | walk_at "fact"); (case q0hp => first | assumption | walk_at "fact"); (case q0ha => first | assumption | walk_at "fact"); (case q0h4 => first | assumption | walk_at "fact"); (case q0hv => first | assumption | walk_at "fact"); (case q0hd => walk_at "depth"); (case q0hu => walk_at "units"); k_whole); intro _ _ _ _ _ _ _; (try (first | refine RetQ.ok ?_ | refine RetQ.err ?_)); (try walk_at "fold")))
  trivial
theorem c_load {bus mem wd str : Addr} {pg a : Int} {t u : Tok} {tt : Toks} {o : Obj} {c : List (Int × Int)} {rest : List (Addr × Obj)} (C : Ctx w p loose mean mg mb A A₀ env outer base h₀ L s.heap m ((wd, o) :: rest)) (Bu : Has h₀ bus 714 (busF mem str)) (M : Has h₀ mem 607 (memF pg wd tt)) (W : WD prog w wd o c) (hp : 16 ≤ pg ∧ pg ≤ 256) (ha : 0 ≤ a ∧ a + 4 ≤ 4 * pg) (h4 : a.fmod 4 = 0) (hd : A.depth ≤ 770) (hu : A.units ≤ 7700)
  (hR : ∀ h' tk t', let st' : Shared := { s with heap := h', toks := tk }; Fr h₀ L h' m → News h₀ L h' ((wd, o) :: rest) → R (.ok (.ret (.int (kdfLook c (a.fdiv 4) 0) t'))) st') :
    codeAny (model prog w) A (.call (.ref 689) ⟨[.ref bus, .int a t, .int 4 u], []⟩) R s := by
  refine' enter [("self", .ref bus), ("address", .int a t), ("size", .int 4 u), ("cause", .int 5 303)] C ?k6 ?k7 ?k8 ?k9 ?kB ?c2 ?c3 ?c4 ?c5 ?_
  walk_at "entered"
  case k9 => walk_at "dbinds"
  obtain ⟨B, F, X, N, T, hA, hf, hke, hh⟩ := C
  intro g' L' h' tk' FG F' N' B' X' T'
  replace Bu := Bu.keeps FG.keep
  replace M := M.keeps FG.keep
  try dsimp only
  refine foldEnter (f := execs) F' ?_
  clear F'
  intro M9 en9 A9 m9 qk ek st9 F'
  try clear N
  k_steps
  all_goals (refine hR _ _ _ ?_ ?_ <;> k_asm)
theorem rows_at_21 : True := by
  k_with "call ref" => (((with_reducible show wpAny _ _ (call (Value.ref 689) _) _ _ _); k_here; (with_reducible refine call_R ?_); k_dflt (refine' c_load ?q0C ?q0Bu ?q0M ?q0W ?q0hp ?q0ha ?q0h4 ?q0hd ?q0hu ?_; (case q0Bu => assumption); (case q0M => assumption); (case q0W => assumption); (case q0C => walk_at "ctx"); (case q0hp => first | assumption | walk_at "fact"); (case q0ha => first | assumption | walk_at "fact"); (case q0h4 => first | assumption | walk_at "fact"); (case q0hd => walk_at "depth"); (case q0hu => walk_at "units"); k_whole); intro _ _ _ _ _ _; (try (first | refine RetQ.ok ?_ | refine RetQ.err ?_)); (try walk_at "fold")))
  trivial
theorem c_store {bus mem wd str : Addr} {pg a v : Int} {t u tv : Tok} {tt : Toks} {o : Obj} {c : List (Int × Int)} {rest : List (Addr × Obj)} (C : Ctx w p loose mean mg mb A A₀ env outer base h₀ L s.heap m ((wd, o) :: rest)) (Bu : Has h₀ bus 714 (busF mem str)) (M : Has h₀ mem 607 (memF pg wd tt)) (W : WD prog w wd o c) (hne : ∀ p ∈ rest, p.1 ≠ wd) (hc : c.length < 900) (hp : 16 ≤ pg ∧ pg ≤ 256) (ha : 0 ≤ a ∧ a + 4 ≤ 4 * pg) (h4 : a.fmod 4 = 0) (hv : 0 ≤ v ∧ v < 65536) (hd : A.depth ≤ 770) (hu : A.units ≤ 7700)
  (hR : ∀ h' tk o', let st' : Shared := { s with heap := h', toks := tk }; Fr h₀ L h' m → News h₀ L h' ((wd, o') :: rest) → WD prog w wd o' (if v = 0 then kdyDel c (a.fdiv 4) else kdfPut c (a.fdiv 4) v) → R (.ok (.ret (.none))) st') :
    codeAny (model prog w) A (.call (.ref 697) ⟨[.ref bus, .int a t, .int 4 u, .int v tv], []⟩) R s := by
  refine' enter [("self", .ref bus), ("address", .int a t), ("size", .int 4 u), ("value", .int v tv), ("cause", .int 7 307)] C ?k6 ?k7 ?k8 ?k9 ?kB ?c2 ?c3 ?c4 ?c5 ?_
  walk_at "entered"
  case k9 => walk_at "dbinds"
  obtain ⟨B, F, X, N, T, hA, hf, hke, hh⟩ := C
  intro g' L' h' tk' FG F' N' B' X' T'
  replace Bu := Bu.keeps FG.keep
  replace M := M.keeps FG.keep
  try dsimp only
  refine foldEnter (f := execs) F' ?_
  clear F'
  intro M9 en9 A9 m9 qk ek st9 F'
  try clear N
  k_steps
  all_goals (refine' hR _ _ _ ?F ?N ?W; (case F => k_asm); (case N => k_asm); (case W => assumption))
theorem rows_at_22 : True := by
  k_with "call ref" => (((with_reducible show wpAny _ _ (call (Value.ref 697) _) _ _ _); k_here; (with_reducible refine call_R ?_); k_dflt (refine' c_store ?q0C ?q0Bu ?q0M ?q0W ?q0hne ?q0hc ?q0hp ?q0ha ?q0h4 ?q0hv ?q0hd ?q0hu ?_; (case q0Bu => assumption); (case q0M => assumption); (case q0W => assumption); (case q0C => walk_at "ctx"); (case q0hne => walk_at "apart"); (case q0hc => first | assumption | walk_at "fact"); (case q0hp => first | assumption | walk_at "fact"); (case q0ha => first | assumption | walk_at "fact"); (case q0h4 => first | assumption | walk_at "fact"); (case q0hv => first | assumption | walk_at "fact"); (case q0hd => walk_at "depth"); (case q0hu => walk_at "units"); k_whole); intro _ _ _ _ _ _ _; (try (first | refine RetQ.ok ?_ | refine RetQ.err ?_)); (try walk_at "fold")))
  trivial
end
end Mine
end W2
section W4b
open PySem PySem.W PyProof.Rows PySem.Calls PySem.Spec PyProof.V
set_option maxRecDepth 100000
set_option maxHeartbeats 8000000
set_option autoImplicit false
namespace Mine


section
variable {prog : Program} {w : World} {p : Program} {loose : List Str} {mean : ExcName → Option Value} {mg mb : Str → Option Value} {A A₀ : Around} {env : Env} {outer : List Env} {base h₀ : Heap} {L : Addr} {m : Str → Option Value} {s : Shared} {news : List (Addr × Obj)} {R : Result → Shared → Prop}
theorem trap_attr {L e dx : Addr} {h₀ : Heap} {s : Shared} {v : Value} {vs : Array Value} {sl : Array (Option Value)} {D : Obj} {expr : Bool} {name : Str} {Q : Value → Shared → Prop} {E : Value → Shared → Prop} (F : Fr h₀ L s.heap m) (X : (K w.params).In h₀) (N : News h₀ L s.heap ((e, ⟨.ref 103, some dx, .fields vs, sl⟩) :: (dx, D) :: news))
    (hk : name = "cause" ∨ name = "value") (hl : lookIn name D = some (some v)) (hv : handedIn v = true) (h : Q v { s with toks := s.toks + 1 }) : wpAny (model prog w) A (getAttr (.ref e) name expr) Q E s := by
  have I : W.InstAt s.heap e ⟨.ref 103, some dx, .fields vs, sl⟩ 103 (some D) := ⟨(N _ (.head _)).1, rfl, rfl, (N _ (.tail _ (.head _))).1⟩
  obtain ⟨cd, hc, hm, hh⟩ := oe_cd (own_trap (w := w))
  rcases hk with rfl | rfl
  · exact getE_value (X.keeps F.keep) I hc hm (by k_is) (by k_is) (findObj_own (attr := none) (by unfold hasDictIn; rw [hc]; exact hh) (by k_is) rfl hl) hv h
  · exact getE_value (X.keeps F.keep) I hc hm (by k_is) (by k_is) (findObj_own (attr := none) (by unfold hasDictIn; rw [hc]; exact hh) (by k_is) rfl hl) hv h
theorem trap_cause {L e dx : Addr} {h₀ : Heap} {s : Shared} {c v : Int} {vs : Array Value} {sl : Array (Option Value)} {D : Obj} {expr : Bool} {Q : Value → Shared → Prop} {E : Value → Shared → Prop} (F : Fr h₀ L s.heap m) (X : (K w.params).In h₀) (N : News h₀ L s.heap ((e, ⟨.ref 103, some dx, .fields vs, sl⟩) :: (dx, D) :: news))
    (T : TrapD c v D) (h : ∀ t, Q (.int c t) { s with toks := s.toks + 1 }) : wpAny (model prog w) A (getAttr (.ref e) "cause" expr) Q E s := by
  obtain ⟨y, hs1, hs2, hs3, k1, k2, k3, ty, tc, tv, rfl⟩ := T
  exact trap_attr F X N (.inl rfl) (by rw [lookIn_dict]; with_unfolding_all rfl) rfl (h tc)
theorem trap_value {L e dx : Addr} {h₀ : Heap} {s : Shared} {c v : Int} {vs : Array Value} {sl : Array (Option Value)} {D : Obj} {expr : Bool} {Q : Value → Shared → Prop} {E : Value → Shared → Prop} (F : Fr h₀ L s.heap m) (X : (K w.params).In h₀) (N : News h₀ L s.heap ((e, ⟨.ref 103, some dx, .fields vs, sl⟩) :: (dx, D) :: news))
    (T : TrapD c v D) (h : ∀ t, Q (.int v t) { s with toks := s.toks + 1 }) : wpAny (model prog w) A (getAttr (.ref e) "value" expr) Q E s := by
  obtain ⟨y, hs1, hs2, hs3, k1, k2, k3, ty, tc, tv, rfl⟩ := T
  exact trap_attr F X N (.inr rfl) (by rw [lookIn_dict]; with_unfolding_all rfl) rfl (h tv)
end
end Mine
end W4b
section W11
open PySem PySem.W PyProof.Rows PySem.Calls PySem.Spec PyProof.V
set_option maxRecDepth 100000
set_option maxHeartbeats 8000000
set_option autoImplicit false
namespace Mine

theorem rows_at_23 : True := by
  k_with_none
  k_with "ctx" => ((refine' Ctx.mk ?q0B ?q0F ?q0X ?q0N ?q0T ?q0a ?q0f ?q0k ?q0h; (case q0B => k_asm); (case q0F => k_asm); (case q0X => k_asm); (case q0N => first | k_asm | exact news_swap1 (by k_asm) | exact news_swap2 (by k_asm) | exact news_swap3 (by k_asm)); (case q0T => k_asm); (case q0a => first | assumption | exact Around.frames_deeper (Below.stack (by assumption))); (case q0f => first | assumption | exact rfl); (case q0k => first | assumption | exact rfl); (case q0h => first | assumption | exact rfl)))
  k_with "getAttr ref" => ((k_here; k_dflt (refine' own_get ?q0D ?q0F ?q0X ?q0a ?q0b ?q0c ?q0d ?q0l ?q0v ?_; (case q0D => assumption); (case q0F => k_asm); (case q0X => k_asm); (case q0a => k_is); (case q0b => k_is); (case q0c => k_is); (case q0d => k_is); (case q0l => intro _ _; k_get); (case q0v => k_handed); k_whole)))
  k_with "getMethod ref" => ((k_here; k_dflt (refine' own_meth ?q0D ?q0F ?q0X ?q0a ?q0b ?q0c ?q0l ?_; (case q0D => assumption); (case q0F => k_asm); (case q0X => k_asm); (case q0a => k_is); (case q0b => k_is); (case q0c => k_is); (case q0l => intro _ _; k_get); k_whole)))
  k_with "getMethod ref" => ((k_here; (with_reducible show wpAny _ _ (getMethod (Value.ref _) (PySem.Str.ofString "get") _) _ _ _); k_dflt (refine' w_getm ?q0W ?q0N ?q0p ?_; (case q0W => assumption); (case q0N => k_asm); (case q0p => k_mem); k_whole)))
  k_with "getMethod ref" => ((k_here; (with_reducible show wpAny _ _ (getMethod (Value.ref _) (PySem.Str.ofString "pop") _) _ _ _); k_dflt (refine' w_popm ?q0W ?q0N ?q0p ?_; (case q0W => assumption); (case q0N => k_asm); (case q0p => k_mem); k_whole)))
  k_with "call builtin:dict.get" => ((k_here; k_dflt (refine' w_get ?q0W ?q0N ?q0p ?_; (case q0W => assumption); (case q0N => k_asm); (case q0p => k_mem); k_whole); intro _))
  k_with "call builtin:dict.pop" => ((k_here; k_dflt (refine' w_pop ?q0W ?q0F ?q0N ?q0p ?q0U ?_; (case q0W => assumption); (case q0F => k_asm); (case q0N => k_asm); (case q0p => k_mem); (case q0U => (first | (refine UpdF.head ?_; assumption) | k_updF)); k_whole); intro _ _ _ _ N'; (try dsimp only at N'); (try (revert N'; intro _)); intro _))
  k_with "setItem ref int" => ((k_here; k_dflt (refine' w_set ?q0W ?q0F ?q0N ?q0U ?q0c ?_; (case q0W => assumption); (case q0F => k_asm); (case q0N => k_asm); (case q0U => (first | (refine UpdF.head ?_; assumption) | k_updF)); (case q0c => first | assumption | omega); k_whole); intro _ _ _ N'; (try dsimp only at N'); (try (revert N'; intro _)); intro _))
  k_with "depth" => (first | exact dp1 (by assumption) rfl | exact dp2 (by assumption) rfl | ((simp +zetaDelta only [depth_mark, depth_under_make, depth_under_kw, depth_in1, depth_deeper, depth_caller]); omega))
  k_with "units" => (first | exact up1 (by assumption) rfl | exact up2 (by assumption) rfl | ((simp +zetaDelta only [units_in1, units_deeper, Around.mark_units, units_caller]); omega))
  k_with "apart" => (first | assumption | exact List.forall_mem_cons.mpr ⟨by k_ne, by assumption⟩ | exact List.forall_mem_cons.mpr ⟨by k_ne, List.forall_mem_cons.mpr ⟨by k_ne, by assumption⟩⟩)
  k_with "fact" => (omega)
  k_with "entered" => ((k_dflt ((case k6 => k_is); (case k7 => k_is); (case k8 => walk_at "room"); (case c5 => decide); (case kB => exact locs rfl); (case c2 => exact rfl); (case c3 => exact rfl); (case c4 => exact rfl))))
  k_with "binds" => ((k_dflt (exact BindsTo.of_eq (by kernel_rfl))))
  k_with "dbinds" => ((k_dflt (exact binds_K (Frag.In.keeps (Ctx.X (by assumption)) (Fr.keep (Ctx.F (by assumption)))) rfl (by k_is) rfl rfl (by kernel_rfl))))
  k_with "room" => (((simp only [rl_is]); omega))
  k_with "assign Tuple" => ((k_here; (with_reducible show wpAny _ _ (assign (Expr.Tuple _ _ _) _ (Value.ref _)) _ _ _); k_dflt (refine' unpackN_ ?q0k1 ?q0k2 ?q0k3 ?q0k4 ?q0k5 ?q0k6 ?_; (case q0k1 => k_asm); (case q0k2 => k_asm); (case q0k3 => exact News.isTup (by k_asm) (by k_mem)); (case q0k4 => first | assumption | exact rfl); (case q0k5 => exact rfl); (case q0k6 => exact rfl); k_whole); intro _ _ _; (try k_sweep)))
  k_with "unpackItems ref" => ((k_here; k_dflt (refine' unpackItemsN_ ?q0k1 ?q0k2 ?q0k3 ?q0k4 ?q0k5 ?_; (case q0k1 => k_asm); (case q0k2 => k_asm); (case q0k3 => kun_tup); (case q0k4 => first | assumption | exact rfl); (case q0k5 => exact rfl); k_whole); intro _ _ _; (try k_sweep)))
  k_with "fold" => (((fail_if_success (fail_if_success k_fold)); refine foldQ ?_; intro _))
  k_with "foldS" => (((fail_if_success (fail_if_success k_fold)); refine foldQS ?_; intro _ _))
  k_with "foldE" => (((fail_if_success (fail_if_success (refine swapT ⟨?_, ?_⟩; k_fold))); refine foldEE ?_; intro _))
  trivial

theorem rows_at_24 : True := by
  k_with "eval Name" => ((k_here; k_dflt (refine' nmL ?q0F ?q0v ?_ ?q0L ?q0x; (case q0x => rfl); (case q0F => k_asm); (case q0L => rfl); (case q0v => rfl); k_whole)))
  k_with "storeName" => ((k_here; k_dflt (refine' stL ?q0F ?q0N ?_ ?q0L ?q0x; (case q0x => rfl); (case q0F => k_asm); (case q0L => rfl); (case q0N => k_asm); k_whole; intro _ _ _ _ _ _; (try k_sweep))))
  trivial
section
variable {prog : Program} {w : World} {p : Program} {loose : List Str} {mean : ExcName → Option Value} {mg mb : Str → Option Value} {A A₀ : Around} {env : Env} {outer : List Env} {base h₀ : Heap} {L : Addr} {m : Str → Option Value} {s : Shared} {news : List (Addr × Obj)} {R : Result → Shared → Prop}
theorem rows_at_25 : True := by
  k_with "testChain" => (refine test_link ?_)
  k_with "setAttr ref" => ((k_here; k_dflt (refine' set_dict ?q0k1 ?q0k2 ?q0k3 ?q0k4 ?q0k5 ?q0k6 ?q0k7 ?q0k8 ?q0k9 ?q0k10 ?q0k11 ?q0k12 ?q0k13 ?_; (case q0k1 => k_asm); (case q0k2 => k_asm); (case q0k3 => k_asm); (case q0k4 => k_inst); (case q0k5 => exact rfl); (case q0k6 => k_is); (case q0k7 => k_is); (case q0k8 => k_is); (case q0k9 => k_is); (case q0k10 => k_get); (case q0k11 => k_put); (case q0k12 => first | exact Upd.tail (by k_ne) (Upd.head (by assumption)) | exact Upd.tail (by k_ne) (Upd.tail (by k_ne) (Upd.head (by assumption))) | exact Upd.tail (by k_ne) (Upd.tail (by k_ne) (Upd.tail (by k_ne) (Upd.head (by assumption))))); (case q0k13 => exact Nat.le_of_ble_eq_true rfl); k_whole; intro _ _ _; (try k_sweep))))
  trivial
theorem c_layinit {x dx : Addr} {b pg en lg ed : Int} {t : Tok} {rest : List (Addr × Obj)} (C : Ctx w p loose mean mg mb A A₀ env outer base h₀ L s.heap m ((x, instObj 182 dx) :: (dx, dictOf [] 0) :: rest)) (ln : LayN b pg en lg ed) (hne : ∀ p ∈ rest, p.1 < dx) (hxd : dx < x) (hd : A.depth ≤ 780) (hu : A.units ≤ 7800)
  (hR : ∀ h' tk (D : Obj), let st' : Shared := { s with heap := h', toks := tk }; Fr h₀ L h' m → let nw' : List (Addr × Obj) := ((x, instObj 182 dx) :: (dx, D) :: rest); News h₀ L h' nw' → IsFs (layF b pg en lg ed) D → R (.ok (.ret (.none))) st') :
    codeAny (model prog w) A (.call (.ref 122) ⟨[.ref x, .int b t], []⟩) R s := by
  refine' enter [("self", .ref x), ("page_bits", .int b t)] C ?k6 ?k7 ?k8 ?k9 ?kB ?c2 ?c3 ?c4 ?c5 ?_
  walk_at "entered"
  case k9 => walk_at "dbinds"
  obtain ⟨B, F, X, N, T, hA, hf, hke, hh⟩ := C
  intro g' L' h' tk' FG F' N' B' X' T'
  try dsimp only
  refine foldEnter (f := execs) F' ?_
  clear F'
  intro M9 en9 A9 m9 qk ek st9 F'
  try clear N
  replace hxd := ltN hxd
  have hne2 := fun p hp => Nat.ne_of_lt (hne p hp)
  obtain ⟨hb, hp, hen, hlg, hed⟩ := layN_b ln
  k_steps
  refine hR _ _ _ (by k_asm) (by k_asm) (lay_mk rfl ?_ ?_ ?_ ?_) <;> (rcases ln with ⟨rfl, rfl, rfl, rfl, rfl⟩ | ⟨rfl, rfl, rfl, rfl, rfl⟩ | ⟨rfl, rfl, rfl, rfl, rfl⟩ | ⟨rfl, rfl, rfl, rfl, rfl⟩ | ⟨rfl, rfl, rfl, rfl, rfl⟩ <;> decide)
theorem c_businit {x dx mem : Addr} {rest : List (Addr × Obj)} (C : Ctx w p loose mean mg mb A A₀ env outer base h₀ L s.heap m ((x, instObj 714 dx) :: (dx, dictOf [] 0) :: rest)) (hne : ∀ p ∈ rest, p.1 < dx) (hxd : dx < x) (hd : A.depth ≤ 780) (hu : A.units ≤ 7800)
  (hR : ∀ h' tk (D : Obj) (l : Addr), let st' : Shared := { s with heap := h', toks := tk }; Fr h₀ L h' m → let nw' : List (Addr × Obj) := ((x, instObj 714 dx) :: (dx, D) :: (l, listOf #[] 0) :: rest); News h₀ L h' nw' → IsFs (fun _ => busF mem l) D → (x < l ∧ dx < l ∧ AllLt l rest) → R (.ok (.ret (.none))) st') :
    codeAny (model prog w) A (.call (.ref 667) ⟨[.ref x, .ref mem], []⟩) R s := by
  refine' enter [("self", .ref x), ("memory", .ref mem)] C ?k6 ?k7 ?k8 ?k9 ?kB ?c2 ?c3 ?c4 ?c5 ?_
  walk_at "entered"
  case k9 => walk_at "binds"
  obtain ⟨B, F, X, N, T, hA, hf, hke, hh⟩ := C
  intro g' L' h' tk' FG F' N' B' X' T'
  try dsimp only
  refine foldEnter (f := execs) F' ?_
  clear F'
  intro M9 en9 A9 m9 qk ek st9 F'
  try clear N
  replace hxd := ltN hxd
  have hne2 := fun p hp => Nat.ne_of_lt (hne p hp)
  k_steps
  exact hR _ _ _ _ (by k_asm) (News.sub (by k_asm) sub9) two_mk (by assumption)
theorem c_walinit {x dx bus lay : Addr} {rest : List (Addr × Obj)} (C : Ctx w p loose mean mg mb A A₀ env outer base h₀ L s.heap m ((x, instObj 266 dx) :: (dx, dictOf [] 0) :: rest)) (hne : ∀ p ∈ rest, p.1 < dx) (hxd : dx < x) (hd : A.depth ≤ 780) (hu : A.units ≤ 7800)
  (hR : ∀ h' tk (D : Obj), let st' : Shared := { s with heap := h', toks := tk }; Fr h₀ L h' m → let nw' : List (Addr × Obj) := ((x, instObj 266 dx) :: (dx, D) :: rest); News h₀ L h' nw' → IsFs (fun _ => walF bus lay) D → R (.ok (.ret (.none))) st') :
    codeAny (model prog w) A (.call (.ref 226) ⟨[.ref x, .ref bus, .ref lay], []⟩) R s := by
  refine' enter [("self", .ref x), ("bus", .ref bus), ("layout", .ref lay)] C ?k6 ?k7 ?k8 ?k9 ?kB ?c2 ?c3 ?c4 ?c5 ?_
  walk_at "entered"
  case k9 => walk_at "binds"
  obtain ⟨B, F, X, N, T, hA, hf, hke, hh⟩ := C
  intro g' L' h' tk' FG F' N' B' X' T'
  try dsimp only
  refine foldEnter (f := execs) F' ?_
  clear F'
  intro M9 en9 A9 m9 qk ek st9 F'
  try clear N
  replace hxd := ltN hxd
  have hne2 := fun p hp => Nat.ne_of_lt (hne p hp)
  k_steps
  exact hR _ _ _ (by k_asm) (by k_asm) two_mk
theorem c_tabinit {x dx mem lay pgs : Addr} {rest : List (Addr × Obj)} (C : Ctx w p loose mean mg mb A A₀ env outer base h₀ L s.heap m ((x, instObj 418 dx) :: (dx, dictOf [] 0) :: rest)) (hne : ∀ p ∈ rest, p.1 < dx) (hxd : dx < x) (hd : A.depth ≤ 780) (hu : A.units ≤ 7800)
  (hR : ∀ h' tk (D : Obj), let st' : Shared := { s with heap := h', toks := tk }; Fr h₀ L h' m → let nw' : List (Addr × Obj) := ((x, instObj 418 dx) :: (dx, D) :: rest); News h₀ L h' nw' → IsFs (fun _ => tabF mem lay pgs) D → R (.ok (.ret (.none))) st') :
    codeAny (model prog w) A (.call (.ref 284) ⟨[.ref x, .ref mem, .ref lay, .ref pgs], []⟩) R s := by
  refine' enter [("self", .ref x), ("memory", .ref mem), ("layout", .ref lay), ("pages", .ref pgs)] C ?k6 ?k7 ?k8 ?k9 ?kB ?c2 ?c3 ?c4 ?c5 ?_
  walk_at "entered"
  case k9 => walk_at "binds"
  obtain ⟨B, F, X, N, T, hA, hf, hke, hh⟩ := C
  intro g' L' h' tk' FG F' N' B' X' T'
  try dsimp only
  refine foldEnter (f := execs) F' ?_
  clear F'
  intro M9 en9 A9 m9 qk ek st9 F'
  try clear N
  replace hxd := ltN hxd
  have hne2 := fun p hp => Nat.ne_of_lt (hne p hp)
  k_steps
  exact hR _ _ _ (by k_asm) (by k_asm) three_mk
theorem c_pgsinit {x dx mem : Addr} {pg : Int} {t u v : Tok} {rest : List (Addr × Obj)} (C : Ctx w p loose mean mg mb A A₀ env outer base h₀ L s.heap m ((x, instObj 834 dx) :: (dx, dictOf [] 0) :: rest)) (hp : 16 ≤ pg ∧ pg ≤ 256) (hne : ∀ p ∈ rest, p.1 < dx) (hxd : dx < x) (hd : A.depth ≤ 780) (hu : A.units ≤ 7800)
  (hR : ∀ h' tk, let st' : Shared := { s with heap := h', toks := tk }; Fr h₀ L h' m → News h₀ L h' rest → R (.ok (.ret (.none))) st') :
    codeAny (model prog w) A (.call (.ref 733) ⟨[.ref x, .ref mem, .int 0 t, .int 1 u, .int pg v, .bool false], []⟩) R s := by
  refine' enter [("self", .ref x), ("memory", .ref mem), ("begin", .int 0 t), ("count", .int 1 u), ("size", .int pg v), ("fill", .bool false)] C ?k6 ?k7 ?k8 ?k9 ?kB ?c2 ?c3 ?c4 ?c5 ?_
  walk_at "entered"
  case k9 => walk_at "dbinds"
  obtain ⟨B, F, X, N, T, hA, hf, hke, hh⟩ := C
  intro g' L' h' tk' FG F' N' B' X' T'
  try dsimp only
  refine foldEnter (f := execs) F' ?_
  clear F'
  intro M9 en9 A9 m9 qk ek st9 F'
  try clear N
  replace hxd := ltN hxd
  have hne2 := fun p hp => Nat.ne_of_lt (hne p hp)
  have h0 : (0 : Int).fmod pg = 0 := Int.zero_fmod pg
  k_steps
  all_goals first | contradiction | exact hR _ _ (by k_asm) (News.sub (by k_asm) (fun q hq => by repeat (first | exact hq | apply List.mem_cons_of_mem)))
theorem c_need_stretch {e : Int} {t u : Tok} (C : Ctx w p loose mean mg mb A A₀ env outer base h₀ L s.heap m news) (he : 64 ≤ e ∧ e ≤ 1024) (he4 : e.fmod 4 = 0) (hd : A.depth ≤ 760) (hu : A.units ≤ 7600)
  (hR : ∀ h' tk, let st' : Shared := { s with heap := h', toks := tk }; Fr h₀ L h' m → News h₀ L h' news → R (.ok (.ret (.none))) st') :
    codeAny (model prog w) A (.call (.ref 437) ⟨[.int 0 t, .int e u], []⟩) R s := by
  refine' enter [("begin", .int 0 t), ("end", .int e u)] C ?k6 ?k7 ?k8 ?k9 ?kB ?c2 ?c3 ?c4 ?c5 ?_
  walk_at "entered"
  case k9 => walk_at "binds"
  obtain ⟨B, F, X, N, T, hA, hf, hke, hh⟩ := C
  intro g' L' h' tk' FG F' N' B' X' T'
  try dsimp only
  refine foldEnter (f := execs) F' ?_
  clear F'
  intro M9 en9 A9 m9 qk ek st9 F'
  try clear N
  k_steps
  all_goals first | contradiction | exact hR _ _ (by k_asm) (by k_asm)
theorem rows_at_26 : True := by
  k_with "call ref" => (((with_reducible show wpAny _ _ (call (Value.ref 437) _) _ _ _); k_here; (with_reducible refine call_R ?_); k_dflt (refine' c_need_stretch ?q0C ?q0he ?q0he4 ?q0hd ?q0hu ?_; (case q0C => walk_at "ctx"); (case q0he => first | assumption | walk_at "fact"); (case q0he4 => first | assumption | walk_at "fact"); (case q0hd => walk_at "depth"); (case q0hu => walk_at "units"); k_whole); intro _ _ _ _ _; (try (first | refine RetQ.ok ?_ | refine RetQ.err ?_)); (try walk_at "fold")))
  trivial
theorem c_mklay {b pg en lg ed : Int} {t : Tok} (C : Ctx w p loose mean mg mb A A₀ env outer base h₀ L s.heap m news) (ln : LayN b pg en lg ed) (hd : A.depth ≤ 720) (hu : A.units ≤ 7200)
  (hR : ∀ h' tk (x dx : Addr) (D : Obj), Fr h₀ L h' m → News h₀ L h' ((x, instObj 182 dx) :: (dx, D) :: news) → IsFs (layF b pg en lg ed) D → (∀ p ∈ news, p.1 < dx) → dx < x → R (.ok (.ret (.ref x))) { s with heap := h', toks := tk }) :
    codeAny (model prog w) A (.call (.ref 182) ⟨[.int b t], []⟩) R s := by
  obtain ⟨B, F, X, N, T, hA, hf, hke, hh⟩ := C
  refine make_K (fI := 122) F N (X.keeps F.keep) (by k_is) (by k_is) (by k_is) fun x dx h' F' N' l1 l2 => ?_
  refine c_layinit (s := { s with heap := h' }) ⟨B, F', X, N', T, hA, hf, hke, hh⟩ ln l1 l2 ?_ ?_ ?_
  · rw [depth_under_make]; omega
  · rw [units_under_make]; omega
  · intro h1 tk D st1 F1 nw1 N1 e0
    exact ⟨rfl, hR _ _ _ _ _ F1 N1 e0 l1 l2⟩
theorem c_mkbus {mem : Addr} (C : Ctx w p loose mean mg mb A A₀ env outer base h₀ L s.heap m news) (hd : A.depth ≤ 720) (hu : A.units ≤ 7200)
  (hR : ∀ h' tk (x dx : Addr) (D : Obj) (l : Addr), Fr h₀ L h' m → News h₀ L h' ((x, instObj 714 dx) :: (dx, D) :: (l, listOf #[] 0) :: news) → IsFs (fun _ => busF mem l) D → (x < l ∧ dx < l ∧ AllLt l news) → (∀ p ∈ news, p.1 < dx) → dx < x → R (.ok (.ret (.ref x))) { s with heap := h', toks := tk }) :
    codeAny (model prog w) A (.call (.ref 714) ⟨[.ref mem], []⟩) R s := by
  obtain ⟨B, F, X, N, T, hA, hf, hke, hh⟩ := C
  refine make_K (fI := 667) F N (X.keeps F.keep) (by k_is) (by k_is) (by k_is) fun x dx h' F' N' l1 l2 => ?_
  refine c_businit (s := { s with heap := h' }) ⟨B, F', X, N', T, hA, hf, hke, hh⟩  l1 l2 ?_ ?_ ?_
  · rw [depth_under_make]; omega
  · rw [units_under_make]; omega
  · intro h1 tk D l st1 F1 nw1 N1 e0 e1
    exact ⟨rfl, hR _ _ _ _ _ _ F1 N1 e0 e1 l1 l2⟩
theorem c_mkwal {bus lay : Addr} (C : Ctx w p loose mean mg mb A A₀ env outer base h₀ L s.heap m news) (hd : A.depth ≤ 720) (hu : A.units ≤ 7200)
  (hR : ∀ h' tk (x dx : Addr) (D : Obj), Fr h₀ L h' m → News h₀ L h' ((x, instObj 266 dx) :: (dx, D) :: news) → IsFs (fun _ => walF bus lay) D → (∀ p ∈ news, p.1 < dx) → dx < x → R (.ok (.ret (.ref x))) { s with heap := h', toks := tk }) :
    codeAny (model prog w) A (.call (.ref 266) ⟨[.ref bus, .ref lay], []⟩) R s := by
  obtain ⟨B, F, X, N, T, hA, hf, hke, hh⟩ := C
  refine make_K (fI := 226) F N (X.keeps F.keep) (by k_is) (by k_is) (by k_is) fun x dx h' F' N' l1 l2 => ?_
  refine c_walinit (s := { s with heap := h' }) ⟨B, F', X, N', T, hA, hf, hke, hh⟩  l1 l2 ?_ ?_ ?_
  · rw [depth_under_make]; omega
  · rw [units_under_make]; omega
  · intro h1 tk D st1 F1 nw1 N1 e0
    exact ⟨rfl, hR _ _ _ _ _ F1 N1 e0 l1 l2⟩
theorem c_mktab {mem lay pgs : Addr} (C : Ctx w p loose mean mg mb A A₀ env outer base h₀ L s.heap m news) (hd : A.depth ≤ 720) (hu : A.units ≤ 7200)
  (hR : ∀ h' tk (x dx : Addr) (D : Obj), Fr h₀ L h' m → News h₀ L h' ((x, instObj 418 dx) :: (dx, D) :: news) → IsFs (fun _ => tabF mem lay pgs) D → (∀ p ∈ news, p.1 < dx) → dx < x → R (.ok (.ret (.ref x))) { s with heap := h', toks := tk }) :
    codeAny (model prog w) A (.call (.ref 418) ⟨[.ref mem, .ref lay, .ref pgs], []⟩) R s := by
  obtain ⟨B, F, X, N, T, hA, hf, hke, hh⟩ := C
  refine make_K (fI := 284) F N (X.keeps F.keep) (by k_is) (by k_is) (by k_is) fun x dx h' F' N' l1 l2 => ?_
  refine c_tabinit (s := { s with heap := h' }) ⟨B, F', X, N', T, hA, hf, hke, hh⟩  l1 l2 ?_ ?_ ?_
  · rw [depth_under_make]; omega
  · rw [units_under_make]; omega
  · intro h1 tk D st1 F1 nw1 N1 e0
    exact ⟨rfl, hR _ _ _ _ _ F1 N1 e0 l1 l2⟩
theorem c_mkpgs {mem : Addr} {pg : Int} {t u v : Tok} (C : Ctx w p loose mean mg mb A A₀ env outer base h₀ L s.heap m news) (hp : 16 ≤ pg ∧ pg ≤ 256) (hd : A.depth ≤ 720) (hu : A.units ≤ 7200)
  (hR : ∀ h' tk (x dx : Addr), Fr h₀ L h' m → News h₀ L h' news → (∀ p ∈ news, p.1 < dx) → dx < x → R (.ok (.ret (.ref x))) { s with heap := h', toks := tk }) :
    codeAny (model prog w) A (.call (.ref 834) ⟨[.ref mem, .int 0 t, .int 1 u, .int pg v, .bool false], []⟩) R s := by
  obtain ⟨B, F, X, N, T, hA, hf, hke, hh⟩ := C
  refine make_K (fI := 733) F N (X.keeps F.keep) (by k_is) (by k_is) (by k_is) fun x dx h' F' N' l1 l2 => ?_
  refine c_pgsinit (s := { s with heap := h' }) ⟨B, F', X, N', T, hA, hf, hke, hh⟩ hp l1 l2 ?_ ?_ ?_
  · rw [depth_under_make]; omega
  · rw [units_under_make]; omega
  · intro h1 tk  st1 F1 N1 
    exact ⟨rfl, hR _ _ _ _  F1 N1  l1 l2⟩
end
end Mine
end W11
section W12
open PySem PySem.W PyProof.Rows PySem.Calls PySem.Spec PyProof.V
set_option maxRecDepth 100000
set_option maxHeartbeats 8000000
set_option autoImplicit false
namespace Mine


section
variable {prog : Program} {w : World} {p : Program} {loose : List Str} {mean : ExcName → Option Value} {mg mb : Str → Option Value} {A A₀ : Around} {env : Env} {outer : List Env} {base h₀ : Heap} {L : Addr} {m : Str → Option Value} {s : Shared} {news : List (Addr × Obj)} {R : Result → Shared → Prop}
theorem rows_at_27 : True := by
  k_with "call ref" => (((with_reducible show wpAny _ _ (call (Value.ref 473) _) _ _ _); k_here; (with_reducible refine call_R ?_); k_dflt (refine' c_need_aligned ?q0C ?q0M ?q0hp ?q0ha ?q0h4 ?q0hd ?q0hu ?_; (case q0M => assumption); (case q0C => walk_at "ctx"); (case q0hp => first | assumption | walk_at "fact"); (case q0ha => first | assumption | walk_at "fact"); (case q0h4 => first | assumption | walk_at "fact"); (case q0hd => walk_at "depth"); (case q0hu => walk_at "units"); k_whole); intro _ _ _ _ _; (try (first | refine RetQ.ok ?_ | refine RetQ.err ?_)); (try walk_at "fold")))
  k_with "call ref" => (((with_reducible show wpAny _ _ (call (Value.ref 494) _) _ _ _); k_here; (with_reducible refine call_R ?_); k_dflt (refine' c_keep ?q0C ?q0M ?q0W ?q0hne ?q0hc ?q0hd ?q0hu ?_; (case q0M => assumption); (case q0W => assumption); (case q0C => walk_at "ctx"); (case q0hne => walk_at "apart"); (case q0hc => first | assumption | walk_at "fact"); (case q0hd => walk_at "depth"); (case q0hu => walk_at "units"); k_whole); intro _ _ _ _ _ _ _; (try (first | refine RetQ.ok ?_ | refine RetQ.err ?_)); (try walk_at "fold")))
  k_with "call ref" => (((with_reducible show wpAny _ _ (call (Value.ref 480) _) _ _ _); k_here; (with_reducible refine call_R ?_); k_dflt (refine' c_word ?q0C ?q0M ?q0W ?q0hp ?q0ha ?q0h4 ?q0hd ?q0hu ?_; (case q0M => assumption); (case q0W => assumption); (case q0C => walk_at "ctx"); (case q0hp => first | assumption | walk_at "fact"); (case q0ha => first | assumption | walk_at "fact"); (case q0h4 => first | assumption | walk_at "fact"); (case q0hd => walk_at "depth"); (case q0hu => walk_at "units"); k_whole); intro _ _ _ _ _ _; (try (first | refine RetQ.ok ?_ | refine RetQ.err ?_)); (try walk_at "fold")))
  trivial
theorem c_put_wordX {cn : Str} {cs : Scope} {ccd : Value} {La : Addr} {imm : List (Addr × Obj)} {mem wd : Addr} {pg a v : Int} {t u : Tok} {tt : Toks} {o : Obj} {c : List (Int × Int)} (C : Ctx w p loose mean mg mb A A₀ (envOf cn cs L La ccd) outer base h₀ L s.heap m ((wd, o) :: imm)) (M : HasE h₀ imm mem 607 (memF pg wd tt)) (W : WD prog w wd o c) (hni : ∀ p ∈ imm, p.1 ≠ wd) (hc : c.length < 900) (hp : 16 ≤ pg ∧ pg ≤ 256) (ha : 0 ≤ a ∧ a + 4 ≤ 4 * pg) (h4 : a.fmod 4 = 0) (hv : 0 ≤ v ∧ v < 65536) (hd : A.depth ≤ 790) (hu : A.units ≤ 7900)
  (hR : ∀ h' tk o', let st' : Shared := { s with heap := h', toks := tk }; Fr h₀ L h' m → let nw' : List (Addr × Obj) := ((wd, o') :: imm); News h₀ L h' nw' → WD prog w wd o' (putS c (a.fdiv 4) v) → R (.ok (.ret (.none))) st') :
    codeAny (model prog w) A (.call (.ref 487) ⟨[.ref mem, .int a t, .int v u], []⟩) R s := by
  refine' enterXK (news := [(wd, o)]) (imm := imm) [("self", .ref mem), ("address", .int a t), ("value", .int v u)] C ?hdis ?k6 ?k7 ?k8 ?k9 ?kB ?c2 ?c3 ?c4 ?c5 ?_
  case hdis => exact fun p hp q hq => by rw [List.mem_singleton.mp hq]; exact hni p hp
  walk_at "entered"
  case k9 => walk_at "binds"
  obtain ⟨B, F, X, N, T, hA, hf, hke, hh⟩ := C
  intro g' L' h' tk' FG F' N' B' X' T' HI
  replace M := M.at FG.keep HI
  try dsimp only
  refine foldEnter (f := execs) F' ?_
  clear F'
  intro M9 en9 A9 m9 qk ek st9 F'
  try clear N
  have hne : ∀ p ∈ ([] : List (Addr × Obj)), p.1 ≠ wd := fun p hp => nomatch hp
  k_steps
  have e := mask_low hv.1 (Int.lt_trans hv.2 (by decide))
  refine' hR _ _ _ ?F ?N ?W
  case F => k_asm
  case N => exact news_join (a := [(wd, _)]) (by assumption) (by assumption)
  case W => (rename WD prog w wd _ _ => W9); rw [e] at W9; exact W9
theorem rows_at_28 : True := by
  k_with "call ref" => (((with_reducible show wpAny _ _ (call (Value.ref 487) _) _ _ _); k_here; (with_reducible refine call_R ?_); k_dflt (refine' c_put_wordX ?q0C ?q0M ?q0W ?q0hni ?q0hc ?q0hp ?q0ha ?q0h4 ?q0hv ?q0hd ?q0hu ?_; (case q0W => assumption); (case q0C => walk_at "ctx"); (case q0M => first | assumption | exact HasI.hasE (by assumption) | exact HasI.hasE (hasI_of (by k_mem) (by k_mem))); (case q0hni => walk_at "apart"); (case q0hc => first | assumption | walk_at "fact"); (case q0hp => first | assumption | walk_at "fact"); (case q0ha => first | assumption | walk_at "fact"); (case q0h4 => first | assumption | walk_at "fact"); (case q0hv => first | assumption | walk_at "fact"); (case q0hd => walk_at "depth"); (case q0hu => walk_at "units"); k_whole); intro _ _ _ _ _ _ _ _; (try (first | refine RetQ.ok ?_ | refine RetQ.err ?_)); (try walk_at "fold")))
  trivial
end
end Mine
end W12
section W5
open PySem PySem.W PyProof.Rows PySem.Calls PySem.Spec PyProof.V
set_option maxRecDepth 100000
set_option maxHeartbeats 8000000
set_option autoImplicit false
namespace Mine

theorem rows_at_29 : True := by
  k_with_none
  k_with "ctx" => ((refine' Ctx.mk ?q0B ?q0F ?q0X ?q0N ?q0T ?q0a ?q0f ?q0k ?q0h; (case q0B => k_asm); (case q0F => k_asm); (case q0X => k_asm); (case q0N => first | k_asm | exact news_swap1 (by k_asm) | exact news_swap2 (by k_asm) | exact news_swap3 (by k_asm)); (case q0T => k_asm); (case q0a => first | assumption | exact Around.frames_deeper (Below.stack (by assumption))); (case q0f => first | assumption | exact rfl); (case q0k => first | assumption | exact rfl); (case q0h => first | assumption | exact rfl)))
  k_with "getAttr ref" => ((k_here; k_dflt (refine' own_get ?q0D ?q0F ?q0X ?q0a ?q0b ?q0c ?q0d ?q0l ?q0v ?_; (case q0D => assumption); (case q0F => k_asm); (case q0X => k_asm); (case q0a => k_is); (case q0b => k_is); (case q0c => k_is); (case q0d => k_is); (case q0l => intro _ _; k_get); (case q0v => k_handed); k_whole)))
  k_with "getMethod ref" => ((k_here; k_dflt (refine' own_meth ?q0D ?q0F ?q0X ?q0a ?q0b ?q0c ?q0l ?_; (case q0D => assumption); (case q0F => k_asm); (case q0X => k_asm); (case q0a => k_is); (case q0b => k_is); (case q0c => k_is); (case q0l => intro _ _; k_get); k_whole)))
  k_with "getMethod ref" => ((k_here; (with_reducible show wpAny _ _ (getMethod (Value.ref _) (PySem.Str.ofString "get") _) _ _ _); k_dflt (refine' w_getm ?q0W ?q0N ?q0p ?_; (case q0W => assumption); (case q0N => k_asm); (case q0p => k_mem); k_whole)))
  k_with "getMethod ref" => ((k_here; (with_reducible show wpAny _ _ (getMethod (Value.ref _) (PySem.Str.ofString "pop") _) _ _ _); k_dflt (refine' w_popm ?q0W ?q0N ?q0p ?_; (case q0W => assumption); (case q0N => k_asm); (case q0p => k_mem); k_whole)))
  k_with "call builtin:dict.get" => ((k_here; k_dflt (refine' w_get ?q0W ?q0N ?q0p ?_; (case q0W => assumption); (case q0N => k_asm); (case q0p => k_mem); k_whole); intro _))
  k_with "call builtin:dict.pop" => ((k_here; k_dflt (refine' w_pop ?q0W ?q0F ?q0N ?q0p ?q0U ?_; (case q0W => assumption); (case q0F => k_asm); (case q0N => k_asm); (case q0p => k_mem); (case q0U => (first | (refine UpdF.head ?_; assumption) | k_updF)); k_whole); intro _ _ _ _ N'; (try dsimp only at N'); (try (revert N'; intro _)); intro _))
  k_with "setItem ref int" => ((k_here; k_dflt (refine' w_set ?q0W ?q0F ?q0N ?q0U ?q0c ?_; (case q0W => assumption); (case q0F => k_asm); (case q0N => k_asm); (case q0U => (first | (refine UpdF.head ?_; assumption) | k_updF)); (case q0c => first | assumption | omega); k_whole); intro _ _ _ N'; (try dsimp only at N'); (try (revert N'; intro _)); intro _))
  k_with "depth" => (first | exact dp1 (by assumption) rfl | exact dp2 (by assumption) rfl | ((simp +zetaDelta only [depth_mark, depth_under_make, depth_under_kw, depth_in1, depth_deeper, depth_caller]); omega))
  k_with "units" => (first | exact up1 (by assumption) rfl | exact up2 (by assumption) rfl | ((simp +zetaDelta only [units_in1, units_deeper, Around.mark_units, units_caller]); omega))
  k_with "apart" => (first | assumption | exact List.forall_mem_cons.mpr ⟨by k_ne, by assumption⟩ | exact List.forall_mem_cons.mpr ⟨by k_ne, List.forall_mem_cons.mpr ⟨by k_ne, by assumption⟩⟩)
  k_with "fact" => (omega)
  k_with "entered" => ((k_dflt ((case k6 => k_is); (case k7 => k_is); (case k8 => walk_at "room"); (case c5 => decide); (case kB => exact locs rfl); (case c2 => exact rfl); (case c3 => exact rfl); (case c4 => exact rfl))))
  k_with "binds" => ((k_dflt (exact BindsTo.of_eq (by kernel_rfl))))
  k_with "dbinds" => ((k_dflt (exact binds_K (Frag.In.keeps (Ctx.X (by assumption)) (Fr.keep (Ctx.F (by assumption)))) rfl (by k_is) rfl rfl (by kernel_rfl))))
  k_with "room" => (((simp only [rl_is]); omega))
  k_with "assign Tuple" => ((k_here; (with_reducible show wpAny _ _ (assign (Expr.Tuple _ _ _) _ (Value.ref _)) _ _ _); k_dflt (refine' unpackN_ ?q0k1 ?q0k2 ?q0k3 ?q0k4 ?q0k5 ?q0k6 ?_; (case q0k1 => k_asm); (case q0k2 => k_asm); (case q0k3 => exact News.isTup (by k_asm) (by k_mem)); (case q0k4 => first | assumption | exact rfl); (case q0k5 => exact rfl); (case q0k6 => exact rfl); k_whole); intro _ _ _; (try k_sweep)))
  k_with "unpackItems ref" => ((k_here; k_dflt (refine' unpackItemsN_ ?q0k1 ?q0k2 ?q0k3 ?q0k4 ?q0k5 ?_; (case q0k1 => k_asm); (case q0k2 => k_asm); (case q0k3 => kun_tup); (case q0k4 => first | assumption | exact rfl); (case q0k5 => exact rfl); k_whole); intro _ _ _; (try k_sweep)))
  k_with "fold" => (((fail_if_success (fail_if_success k_fold)); refine foldQ ?_; intro _))
  k_with "foldS" => (((fail_if_success (fail_if_success k_fold)); refine foldQS ?_; intro _ _))
  k_with "foldE" => (((fail_if_success (fail_if_success (refine swapT ⟨?_, ?_⟩; k_fold))); refine foldEE ?_; intro _))
  trivial

theorem rows_at_30 : True := by
  k_with "eval Name" => ((k_here; k_dflt (refine' nmL ?q0F ?q0v ?_ ?q0L ?q0x; (case q0x => rfl); (case q0F => k_asm); (case q0L => rfl); (case q0v => rfl); k_whole)))
  k_with "storeName" => ((k_here; k_dflt (refine' stL ?q0F ?q0N ?_ ?q0L ?q0x; (case q0x => rfl); (case q0F => k_asm); (case q0L => rfl); (case q0N => k_asm); k_whole; intro _ _ _ _ _ _; (try k_sweep))))
  trivial
theorem raise_trap {prog : Program} {w : World} {A : Around} {E : Value → Shared → Prop} {s : Shared} {env : Env} {Q : Flow → Shared → Prop} {x : PySem.Expr} {pos : Pos} (hh : A.handled = none)
    (h : wpAny (model prog w) A (eval x env) (fun v s₁ => ∃ e t dx, v = .ref e ∧ (K w.params).In s₁.heap ∧ s₁.heap.get? e = some (excObj 103 t dx) ∧ E (.ref e) s₁) E s) :
    wpAny (model prog w) A (exec (.Raise (some x) none pos) env) Q E s := raise_own own_trap hh h
theorem pf_item {prog : Program} {w : World} {A : Around} {E : Value → Shared → Prop} {s : Shared} {h₀ : Heap} {L : Addr} {m : Str → Option Value} {k : Str} {t : Tok} {value slice : PySem.Expr} {Q : Value → Shared → Prop} (F : Fr h₀ L s.heap m) (X : (K w.params).In h₀) (hk : KindIs k) (h : ∀ u, Q (.int (pfS k) u) { s with toks := s.toks + 1 })
    (hs : subscripted slice false (.ref 106) (.str k t) = operate [.ref 106, .str k t] (getItem (.ref 106) (.str k t)) := by with_unfolding_all rfl) : wpAny (model prog w) A (subscriptTail value slice (.ref 106) (.str k t)) Q E s := by
  rcases hk with rfl | rfl | rfl
  · exact topItem_K (v := .int 12 315) F X (by k_is) (by k_keys) (by k_is) (h 315) hs
  · exact topItem_K (v := .int 13 317) F X (by k_is) (by k_keys) (by k_is) (h 317) hs
  · exact topItem_K (v := .int 15 319) F X (by k_is) (by k_keys) (by k_is) (h 319) hs
theorem rows_at_31 : True := by
  k_with "subscriptTail" => ((k_here; (with_reducible show wpAny _ _ (subscriptTail _ _ (Value.ref 106) (Value.str _ _)) _ _ _); k_dflt (refine' pf_item ?q0F ?q0X ?q0k ?_; (case q0F => k_asm); (case q0X => k_asm); (case q0k => assumption); k_whole); intro _))
  k_with "exec Raise some none" => ((k_here; (k_dflt (refine' raise_trap ?q0h ?_; (case q0h => first | assumption | exact rfl))); (try dsimp only)))
  k_with "call ref" => (((with_reducible show wpAny _ _ (call (Value.ref 103) _) _ _ _); k_here; (with_reducible refine wpAny_call ?_); k_dflt (refine' c_mktrap ?q0C ?q0c ?q0v ?q0d ?q0u ?_; (case q0C => walk_at "ctx"); (case q0c => first | exact pfS_lt | omega); (case q0v => first | assumption | omega); (case q0d => walk_at "depth"); (case q0u => walk_at "units"); k_whole); intro _ _ _ _ _ _ _ _ _ _ _ _ _ _ _ _ _ _ _ _; (try dsimp only)))
  k_with "Exists" => (((with_reducible show ∃ e t dx, _ = _ ∧ _); refine' ⟨_, _, _, rfl, ?q0X, ?q0e, ?_⟩; (case q0X => exact Frag.In.keeps (by k_asm) (Fr.keep (by k_asm))); (case q0e => exact (News.get (by k_asm) (List.Mem.tail _ (List.Mem.head _)))); (try dsimp only)))
  k_with "leaving ref" => ((k_here; k_dflt (first | (refine' leave_onD ?q0K ?q0F ?q0R ?_; (case q0K => k_asm); (case q0R => assumption); (case q0F => assumption); intro _ _) | (refine' leaveT0 ?q0K ?q0F ?q0N ?q0a ?q0b ?q0c ?q0d ?_; (case q0K => k_asm); (case q0F => k_asm); (case q0N => k_asm); (case q0a => assumption); (case q0b => assumption); (case q0c => assumption); (case q0d => assumption); intro _ _)); (try dsimp only)))
  trivial
section
variable {prog : Program} {w : World} {p : Program} {loose : List Str} {mean : ExcName → Option Value} {mg mb : Str → Option Value} {A A₀ : Around} {env : Env} {outer : List Env} {base h₀ : Heap} {L : Addr} {m : Str → Option Value} {s : Shared} {news : List (Addr × Obj)} {R : Result → Shared → Prop}
theorem rows_at_32 : True := by
  k_with "call ref" => (((with_reducible show wpAny _ _ (call (Value.ref 536) _) _ _ _); k_here; (with_reducible refine call_R ?_); k_dflt (refine' c_get ?q0C ?q0M ?q0W ?q0hp ?q0ha ?q0h4 ?q0hd ?q0hu ?_; (case q0M => assumption); (case q0W => assumption); (case q0C => walk_at "ctx"); (case q0hp => first | assumption | walk_at "fact"); (case q0ha => first | assumption | walk_at "fact"); (case q0h4 => first | assumption | walk_at "fact"); (case q0hd => walk_at "depth"); (case q0hu => walk_at "units"); k_whole); intro _ _ _ _ _ _; (try (first | refine RetQ.ok ?_ | refine RetQ.err ?_)); (try walk_at "fold")))
  k_with "call ref" => (((with_reducible show wpAny _ _ (call (Value.ref 543) _) _ _ _); k_here; (with_reducible refine call_R ?_); k_dflt (refine' c_put ?q0C ?q0M ?q0W ?q0hne ?q0hc ?q0hp ?q0ha ?q0h4 ?q0hv ?q0hd ?q0hu ?_; (case q0M => assumption); (case q0W => assumption); (case q0C => walk_at "ctx"); (case q0hne => walk_at "apart"); (case q0hc => first | assumption | walk_at "fact"); (case q0hp => first | assumption | walk_at "fact"); (case q0ha => first | assumption | walk_at "fact"); (case q0h4 => first | assumption | walk_at "fact"); (case q0hv => first | assumption | walk_at "fact"); (case q0hd => walk_at "depth"); (case q0hu => walk_at "units"); k_whole); intro _ _ _ _ _ _ _; (try (first | refine RetQ.ok ?_ | refine RetQ.err ?_)); (try walk_at "fold")))
  k_with "call ref" => (((with_reducible show wpAny _ _ (call (Value.ref 689) _) _ _ _); k_here; (with_reducible refine call_R ?_); k_dflt (refine' c_load ?q0C ?q0Bu ?q0M ?q0W ?q0hp ?q0ha ?q0h4 ?q0hd ?q0hu ?_; (case q0Bu => assumption); (case q0M => assumption); (case q0W => assumption); (case q0C => walk_at "ctx"); (case q0hp => first | assumption | walk_at "fact"); (case q0ha => first | assumption | walk_at "fact"); (case q0h4 => first | assumption | walk_at "fact"); (case q0hd => walk_at "depth"); (case q0hu => walk_at "units"); k_whole); intro _ _ _ _ _ _; (try (first | refine RetQ.ok ?_ | refine RetQ.err ?_)); (try walk_at "fold")))
  k_with "call ref" => (((with_reducible show wpAny _ _ (call (Value.ref 697) _) _ _ _); k_here; (with_reducible refine call_R ?_); k_dflt (refine' c_store ?q0C ?q0Bu ?q0M ?q0W ?q0hne ?q0hc ?q0hp ?q0ha ?q0h4 ?q0hv ?q0hd ?q0hu ?_; (case q0Bu => assumption); (case q0M => assumption); (case q0W => assumption); (case q0C => walk_at "ctx"); (case q0hne => walk_at "apart"); (case q0hc => first | assumption | walk_at "fact"); (case q0hp => first | assumption | walk_at "fact"); (case q0ha => first | assumption | walk_at "fact"); (case q0h4 => first | assumption | walk_at "fact"); (case q0hv => first | assumption | walk_at "fact"); (case q0hd => walk_at "depth"); (case q0hu => walk_at "units"); k_whole); intro _ _ _ _ _ _ _; (try (first | refine RetQ.ok ?_ | refine RetQ.err ?_)); (try walk_at "fold")))
  k_with "call ref" => (((with_reducible show wpAny _ _ (call (Value.ref 129) _) _ _ _); k_here; (with_reducible refine call_R ?_); k_dflt (refine' c_parts_in ?q0C ?q0D ?q0ln ?q0ha ?q0hd ?q0hu ?_; (case q0D => assumption); (case q0C => walk_at "ctx"); (case q0ln => assumption); (case q0ha => first | assumption | walk_at "fact"); (case q0hd => walk_at "depth"); (case q0hu => walk_at "units"); k_whole); intro _ _ _ _ _ _ _ _ _ _ l1'; (try k_lt l1'); (try (revert l1'; intro _)); (try (first | refine RetQ.ok ?_ | refine RetQ.err ?_)); (try walk_at "fold")))
  k_with "call ref" => (((with_reducible show wpAny _ _ (call (Value.ref 129) _) _ _ _); k_here; (with_reducible refine call_R ?_); k_dflt (refine' c_parts_out ?q0C ?q0D ?q0ln ?q0ha ?q0hd ?q0hu ?_; (case q0D => assumption); (case q0C => walk_at "ctx"); (case q0ln => assumption); (case q0ha => first | assumption | walk_at "fact"); (case q0hd => walk_at "depth"); (case q0hu => walk_at "units"); k_whole); intro _ _ _ _ _; (try (first | refine RetQ.ok ?_ | refine RetQ.err ?_)); (try walk_at "fold")))
  k_with "call ref" => (((with_reducible show wpAny _ _ (call (Value.ref 137) _) _ _ _); k_here; (with_reducible refine call_R ?_); k_dflt (refine' c_address ?q0C ?q0D ?q0ln ?q0hf1 ?q0hg1 ?q0hq1 ?q0hd ?q0hu ?_; (case q0D => assumption); (case q0C => walk_at "ctx"); (case q0ln => assumption); (case q0hf1 => first | assumption | walk_at "fact"); (case q0hg1 => first | assumption | walk_at "fact"); (case q0hq1 => first | assumption | walk_at "fact"); (case q0hd => walk_at "depth"); (case q0hu => walk_at "units"); k_whole); intro _ _ _ _ _ _; (try (first | refine RetQ.ok ?_ | refine RetQ.err ?_)); (try walk_at "fold")))
  k_with "call ref" => (((with_reducible show wpAny _ _ (call (Value.ref 144) _) _ _ _); k_here; (with_reducible refine call_R ?_); k_dflt (refine' c_down ?q0C ?q0D ?q0ln ?q0ha ?q0hd ?q0hu ?_; (case q0D => assumption); (case q0C => walk_at "ctx"); (case q0ln => assumption); (case q0ha => first | assumption | walk_at "fact"); (case q0hd => walk_at "depth"); (case q0hu => walk_at "units"); k_whole); intro _ _ _ _ _ _; (try (first | refine RetQ.ok ?_ | refine RetQ.err ?_)); (try walk_at "fold")))
  k_with "call ref" => (((with_reducible show wpAny _ _ (call (Value.ref 158) _) _ _ _); k_here; (with_reducible refine call_R ?_); k_dflt (refine' c_is_begin ?q0C ?q0D ?q0ln ?q0ha ?q0hd ?q0hu ?_; (case q0D => assumption); (case q0C => walk_at "ctx"); (case q0ln => assumption); (case q0ha => first | assumption | walk_at "fact"); (case q0hd => walk_at "depth"); (case q0hu => walk_at "units"); k_whole); intro _ _ _ _ _; (try (first | refine RetQ.ok ?_ | refine RetQ.err ?_)); (try walk_at "fold")))
  k_with "call ref" => (((with_reducible show wpAny _ _ (call (Value.ref 172) _) _ _ _); k_here; (with_reducible refine call_R ?_); k_dflt (refine' c_lentry ?q0C ?q0D ?q0ln ?q0ha ?q0hf1 ?q0hd ?q0hu ?_; (case q0D => assumption); (case q0C => walk_at "ctx"); (case q0ln => assumption); (case q0ha => first | assumption | walk_at "fact"); (case q0hf1 => first | assumption | walk_at "fact"); (case q0hd => walk_at "depth"); (case q0hu => walk_at "units"); k_whole); intro _ _ _ _ _ _; (try (first | refine RetQ.ok ?_ | refine RetQ.err ?_)); (try walk_at "fold")))
  k_with "call ref" => (((with_reducible show wpAny _ _ (call (Value.ref 179) _) _ _ _); k_here; (with_reducible refine call_R ?_); k_dflt (refine' c_lphysical ?q0C ?q0D ?q0ln ?q0he ?q0hd ?q0hu ?_; (case q0D => assumption); (case q0C => walk_at "ctx"); (case q0ln => assumption); (case q0he => first | assumption | walk_at "fact"); (case q0hd => walk_at "depth"); (case q0hu => walk_at "units"); k_whole); intro _ _ _ _ _ _; (try (first | refine RetQ.ok ?_ | refine RetQ.err ?_)); (try walk_at "fold")))
  k_with "call ref" => (((with_reducible show wpAny _ _ (call (Value.ref 198) _) _ _ _); k_here; (with_reducible refine call_R ?_); k_dflt (refine' c_is_leaf ?q0C ?q0he ?q0hd ?q0hu ?_; (case q0C => walk_at "ctx"); (case q0he => first | assumption | walk_at "fact"); (case q0hd => walk_at "depth"); (case q0hu => walk_at "units"); k_whole); intro _ _ _ _ _; (try (first | refine RetQ.ok ?_ | refine RetQ.err ?_)); (try walk_at "fold")))
  k_with "call ref" => (((with_reducible show wpAny _ _ (call (Value.ref 205) _) _ _ _); k_here; (with_reducible refine call_R ?_); k_dflt (refine' c_is_sound ?q0C ?q0he ?q0hd ?q0hu ?_; (case q0C => walk_at "ctx"); (case q0he => first | assumption | walk_at "fact"); (case q0hd => walk_at "depth"); (case q0hu => walk_at "units"); k_whole); intro _ _ _ _ _; (try (first | refine RetQ.ok ?_ | refine RetQ.err ?_)); (try walk_at "fold")))
  k_with "call ref" => (((with_reducible show wpAny _ _ (call (Value.ref 212) _) _ _ _); k_here; (with_reducible refine call_R ?_); k_dflt (refine' c_may ?q0C ?q0he ?q0hd ?q0hu ?_; (case q0C => walk_at "ctx"); (case q0he => first | assumption | walk_at "fact"); (case q0hd => walk_at "depth"); (case q0hu => walk_at "units"); k_whole); intro _ _ _ _ _; (try (first | refine RetQ.ok ?_ | refine RetQ.err ?_)); (try walk_at "fold")))
  trivial
theorem c_entry_at {wal bus lay mem wd str : Addr} {pg : Int} {tt : Toks} {o : Obj} {c : List (Int × Int)} {rest : List (Addr × Obj)} {a ad : Int} {t u v : Tok} {k : Str} (C : Ctx w p loose mean mg mb A A₀ env outer base h₀ L s.heap m ((wd, o) :: rest)) (Wa : Has h₀ wal 266 (walF bus lay)) (Bu : Has h₀ bus 714 (busF mem str)) (M : Has h₀ mem 607 (memF pg wd tt)) (W : WD prog w wd o c) (hcv : ∀ i, 0 ≤ kdfLook c i 0 ∧ kdfLook c i 0 < 65536) (hp : 16 ≤ pg ∧ pg ≤ 256) (ha : 0 ≤ a ∧ a + 4 ≤ 4 * pg) (h4 : a.fmod 4 = 0) (hk : KindIs k) (had : 0 ≤ ad ∧ ad < 1000000000) (hd : A.depth ≤ 600) (hu : A.units ≤ 6000)
  (hR : ∀ h' tk t', let st' : Shared := { s with heap := h', toks := tk }; Fr h₀ L h' m → News h₀ L h' ((wd, o) :: rest) → soundS (kdfLook c (a.fdiv 4) 0) = true → R (.ok (.ret (.int (kdfLook c (a.fdiv 4) 0) t'))) st')
  (hE : ∀ h' tk g' (xe xd : Addr) (xD : Obj), soundS (kdfLook c (a.fdiv 4) 0) = false → TrapD (pfS k) (ad) xD → Fr h₀ L g' m → Thr base g' (env :: outer) xe 103 (some xd) ((xd, xD) :: ((wd, o) :: rest)) h' → R (.error (.ref xe)) { s with heap := h', toks := tk }) :
    codeAny (model prog w) A (.call (.ref 241) ⟨[.ref wal, .int a t, .int ad u, .str k v], []⟩) R s := by
  refine' enter [("self", .ref wal), ("place", .int a t), ("address", .int ad u), ("kind", .str k v)] C ?k6 ?k7 ?k8 ?k9 ?kB ?c2 ?c3 ?c4 ?c5 ?_
  walk_at "entered"
  case k9 => walk_at "binds"
  obtain ⟨B, F, X, N, T, hA, hf, hke, hh⟩ := C
  intro g' L' h' tk' FG F' N' B' X' T'
  replace Wa := Wa.keeps FG.keep
  replace Bu := Bu.keeps FG.keep
  replace M := M.keeps FG.keep
  try dsimp only
  refine foldEnter (f := execs) F' ?_
  clear F'
  intro M9 en9 A9 m9 qk ek st9 F'
  try clear N
  have hb := hcv (a.fdiv 4)
  k_steps
  all_goals first | contradiction | exact hE _ _ _ _ _ _ (by assumption) TrapD.mk' FG (by assumption) | (refine' hR _ _ _ ?F ?N ?s; (case F => k_asm); (case N => k_asm); (case s => assumption))
theorem rows_at_33 : True := by
  k_with "call ref" => (((with_reducible show wpAny _ _ (call (Value.ref 241) _) _ _ _); k_here; (with_reducible refine call_R ?_); k_dflt (refine' c_entry_at ?q0C ?q0Wa ?q0Bu ?q0M ?q0W ?q0hcv ?q0hp ?q0ha ?q0h4 ?q0hk ?q0had ?q0hd ?q0hu ?_ ?_; (case q0Wa => assumption); (case q0Bu => assumption); (case q0M => assumption); (case q0W => assumption); (case q0C => walk_at "ctx"); (case q0hcv => assumption); (case q0hp => first | assumption | walk_at "fact"); (case q0ha => first | assumption | walk_at "fact"); (case q0h4 => first | assumption | walk_at "fact"); (case q0hk => assumption); (case q0had => first | assumption | walk_at "fact"); (case q0hd => walk_at "depth"); (case q0hu => walk_at "units"); k_whole); rotate_left; (intro _ _ _ _ _ _ _ _ _ _; (try (first | refine RetQ.ok ?_ | refine RetQ.err ?_)); (try walk_at "fold")); rotate_left; (intro _ _ _ _ _ _ _; (try (first | refine RetQ.ok ?_ | refine RetQ.err ?_)); (try walk_at "fold"))))
  trivial
end
end Mine
end W5
section W9a
open PySem PySem.W PyProof.Rows PySem.Calls PySem.Spec PyProof.V
set_option maxRecDepth 100000
set_option maxHeartbeats 8000000
set_option autoImplicit false
namespace Mine


section
variable {prog : Program} {w : World} {p : Program} {loose : List Str} {mean : ExcName → Option Value} {mg mb : Str → Option Value} {A A₀ : Around} {env : Env} {outer : List Env} {base h₀ : Heap} {L : Addr} {m : Str → Option Value} {s : Shared} {news : List (Addr × Obj)} {R : Result → Shared → Prop}
theorem rows_at_34 : True := by
  k_with "call ref" => (((with_reducible show wpAny _ _ (call (Value.ref 36) _) _ _ _); k_here; (with_reducible refine call_R ?_); k_dflt (refine' c_boardinit ?q0C ?q0O ?q0hne ?q0hd ?q0hu ?_; (case q0O => assumption); (case q0C => walk_at "ctx"); (case q0hne => walk_at "apart"); (case q0hd => walk_at "depth"); (case q0hu => walk_at "units"); k_whole); intro _ _ _ _ _ _ _ _ _ _ l1 l2 _ l4; (replace l1 := ltN l1); (replace l2 := ltN l2); (have l5 := ne_all l4); (try (first | refine RetQ.ok ?_ | refine RetQ.err ?_)); (try walk_at "fold")))
  trivial
theorem c_mkarg {r : Str} {tr : Tok} (C : Ctx w p loose mean mg mb A A₀ env outer base h₀ L s.heap m news) (hd : A.depth ≤ 740) (hu : A.units ≤ 7400)
  (hR : ∀ h' tk (e t1 t2 dx : Addr) (hs1 : Int) (k1 : Tok), Fr h₀ L h' m → News h₀ L h' ((dx, dictOf [⟨hs1, .str "reason" k1, .str r tr⟩] 1) :: (e, excObj 52 t1 (some dx)) :: (t1, tupObj [.str r tr]) :: (t2, tupObj [.str r tr]) :: news) → (∀ p ∈ news, p.1 < t2) → t2 < e → e < t1 → t1 < dx → R (.ok (.ret (.ref e))) { s with heap := h', toks := tk }) :
    codeAny (model prog w) A (.call (.ref 52) ⟨[.str r tr], []⟩) R s := by
  obtain ⟨B, F, X, N, T, hA, hf, hke, hh⟩ := C
  refine oe_make (own_arg (w := w)) F X N (fI := 36) (by k_is) (by k_is) (by rw [sizeLine_eq]; exact Nat.le_of_ble_eq_true rfl) fun e t h' F' N' l1 l2 => ?_
  refine c_boardinit (s := { s with heap := h' }) ⟨B, F', X, N', T, ?_, hf, hke, ?_⟩ own_arg ?_ ?_ ?_ ?_
  · exact hA
  · exact hh
  · exact List.forall_mem_cons.mpr ⟨Nat.ne_of_lt l2, fun p hp => Nat.ne_of_lt (Nat.lt_trans (l1 p hp) l2)⟩
  · rw [depth_under_make]; omega
  · rw [units_under_make]; omega
  · intro h1 tk t1 dx hs tk1 st1 F1 nw1 N1 a b c' d
    exact ⟨rfl, hR _ _ _ _ _ _ _ _ F1 N1 l1 l2 c' b⟩
theorem raise_arg {prog : Program} {w : World} {A : Around} {E : Value → Shared → Prop} {s : Shared} {env : Env} {Q : Flow → Shared → Prop} {x : PySem.Expr} {pos : Pos} (hh : A.handled = none)
    (h : wpAny (model prog w) A (eval x env) (fun v s₁ => ∃ e t dx, v = .ref e ∧ (K w.params).In s₁.heap ∧ s₁.heap.get? e = some (excObj 52 t dx) ∧ E (.ref e) s₁) E s) :
    wpAny (model prog w) A (exec (.Raise (some x) none pos) env) Q E s := raise_own own_arg hh h
theorem rows_at_35 : True := by
  k_with "exec Raise some none" => ((k_here; (k_dflt (refine' raise_arg ?q0h ?_; (case q0h => first | assumption | exact rfl))); (try dsimp only)))
  k_with "call ref" => (((with_reducible show wpAny _ _ (call (Value.ref 52) _) _ _ _); k_here; (with_reducible refine wpAny_call ?_); k_dflt (refine' c_mkarg ?q0C ?q0d ?q0u ?_; (case q0C => walk_at "ctx"); (case q0d => walk_at "depth"); (case q0u => walk_at "units"); k_whole); intro _ _ _ _ _ _ _ _ _ _ _ _ _ _; (try dsimp only)))
  trivial
theorem c_need_parts {tab mem lay pgs wd : Addr} {b pg en lg ed : Int} {tl : Toks} {o : Obj} {rest : List (Addr × Obj)} {ad : Int} {u : Tok} (C : Ctx w p loose mean mg mb A A₀ env outer base h₀ L s.heap m ((wd, o) :: rest)) (Ta : Has h₀ tab 418 (tabF mem lay pgs)) (D : Has h₀ lay 182 (layF b pg en lg ed tl)) (ln : LayN b pg en lg ed) (ine : 0 ≤ ad ∧ ad < ed) (hd : A.depth ≤ 770) (hu : A.units ≤ 7700)
  (hR : ∀ h' tk (x : Addr) (t1 t2 t3 : Tok), let st' : Shared := { s with heap := h', toks := tk }; Fr h₀ L h' m → let nw' : List (Addr × Obj) := ((x, tupObj [.int (pF b ad) t1, .int (pS b en ad) t2, .int (pO pg ad) t3]) :: (wd, o) :: rest); News h₀ L h' nw' → (wd < x ∧ AllLt x rest) → R (.ok (.ret (.ref x))) st') :
    codeAny (model prog w) A (.call (.ref 298) ⟨[.ref tab, .int ad u], []⟩) R s := by
  refine' enter [("self", .ref tab), ("address", .int ad u)] C ?k6 ?k7 ?k8 ?k9 ?kB ?c2 ?c3 ?c4 ?c5 ?_
  walk_at "entered"
  case k9 => walk_at "binds"
  obtain ⟨B, F, X, N, T, hA, hf, hke, hh⟩ := C
  intro g' L' h' tk' FG F' N' B' X' T'
  replace Ta := Ta.keeps FG.keep
  replace D := D.keeps FG.keep
  try dsimp only
  refine foldEnter (f := execs) F' ?_
  clear F'
  intro M9 en9 A9 m9 qk ek st9 F'
  try clear N
  obtain ⟨hb, hp, hen, hlg, hed⟩ := layN_b ln
  k_steps
  all_goals (refine' hR _ _ _ _ _ _ ?F ?N ?l; (case F => k_asm); (case N => k_asm); (case l => assumption))
theorem rows_at_36 : True := by
  k_with "call ref" => (((with_reducible show wpAny _ _ (call (Value.ref 298) _) _ _ _); k_here; (with_reducible refine call_R ?_); k_dflt (refine' c_need_parts ?q0C ?q0Ta ?q0D ?q0ln ?q0ine ?q0hd ?q0hu ?_; (case q0Ta => assumption); (case q0D => assumption); (case q0C => walk_at "ctx"); (case q0ln => assumption); (case q0ine => first | assumption | walk_at "fact"); (case q0hd => walk_at "depth"); (case q0hu => walk_at "units"); k_whole); intro _ _ _ _ _ _ _ _ _ _ _; (try (first | refine RetQ.ok ?_ | refine RetQ.err ?_)); (try walk_at "fold")))
  trivial
theorem c_need_flags {tab wd : Addr} {o : Obj} {rest : List (Addr × Obj)} {f : Int} {x1 : Tok} (C : Ctx w p loose mean mg mb A A₀ env outer base h₀ L s.heap m ((wd, o) :: rest)) (hfl : 0 ≤ f ∧ f < 4096) (hd : A.depth ≤ 600) (hu : A.units ≤ 6000)
  (hR : ∀ h' tk, let st' : Shared := { s with heap := h', toks := tk }; Fr h₀ L h' m → News h₀ L h' ((wd, o) :: rest) → nfS f = true → R (.ok (.ret (.none))) st')
  (hE : ∀ h' tk g' (xe xd : Addr) (xD : Obj), nfS f = false → Fr h₀ L g' m → Thr base g' (env :: outer) xe 52 (some xd) ((xd, xD) :: ((wd, o) :: rest)) h' → R (.error (.ref xe)) { s with heap := h', toks := tk }) :
    codeAny (model prog w) A (.call (.ref 327) ⟨[.ref tab, .int f x1], []⟩) R s := by
  refine' enter [("self", .ref tab), ("flags", .int f x1)] C ?k6 ?k7 ?k8 ?k9 ?kB ?c2 ?c3 ?c4 ?c5 ?_
  walk_at "entered"
  case k9 => walk_at "binds"
  obtain ⟨B, F, X, N, T, hA, hf, hke, hh⟩ := C
  intro g' L' h' tk' FG F' N' B' X' T'
  try dsimp only
  refine foldEnter (f := execs) F' ?_
  clear F'
  intro M9 en9 A9 m9 qk ek st9 F'
  try clear N
  have hf1 : 0 ≤ Builtin.bitOr f 1 ∧ Builtin.bitOr f 1 < 65536 := or_lt ⟨hfl.1, by omega⟩ (by decide)
  k_steps
  all_goals first
    | (refine' hE _ _ _ _ _ _ ?s FG ?R
       case s => first | exact nf_f1 (by assumption) | exact nf_f2 (by assumption) | exact nf_f3 (by assumption)
       case R => first | assumption | exact Thr.sub (by assumption) sub2 | exact Thr.sub (by assumption) sub3)
    | (refine' hR _ _ ?F ?N ?s
       case s => exact nf_t (by assumption) (by assumption) (by assumption)
       case F => k_asm
       case N => k_asm)
theorem rows_at_37 : True := by
  k_with "call ref" => (((with_reducible show wpAny _ _ (call (Value.ref 327) _) _ _ _); k_here; (with_reducible refine call_R ?_); k_dflt (refine' c_need_flags ?q0C ?q0hfl ?q0hd ?q0hu ?_ ?_; (case q0C => walk_at "ctx"); (case q0hfl => first | assumption | walk_at "fact"); (case q0hd => walk_at "depth"); (case q0hu => walk_at "units"); k_whole); (intro _ _ _ _ _ _; (try (first | refine RetQ.ok ?_ | refine RetQ.err ?_)); (try walk_at "fold")); rotate_left; (intro _ _ _ _ _ _ _ _ _; (try (first | refine RetQ.ok ?_ | refine RetQ.err ?_)); (try walk_at "fold")); rotate_left))
  trivial
end
end Mine
end W9a
section W11b
open PySem PySem.W PyProof.Rows PySem.Calls PySem.Spec PyProof.V
set_option maxRecDepth 100000
set_option maxHeartbeats 8000000
set_option autoImplicit false
namespace Mine

theorem rows_at_38 : True := by
  k_with_none
  k_with "ctx" => ((refine' Ctx.mk ?q0B ?q0F ?q0X ?q0N ?q0T ?q0a ?q0f ?q0k ?q0h; (case q0B => k_asm); (case q0F => k_asm); (case q0X => k_asm); (case q0N => first | k_asm | exact news_swap1 (by k_asm) | exact news_swap2 (by k_asm) | exact news_swap3 (by k_asm)); (case q0T => k_asm); (case q0a => first | assumption | exact Around.frames_deeper (Below.stack (by assumption))); (case q0f => first | assumption | exact rfl); (case q0k => first | assumption | exact rfl); (case q0h => first | assumption | exact rfl)))
  k_with "getAttr ref" => ((k_here; k_dflt (refine' own_get ?q0D ?q0F ?q0X ?q0a ?q0b ?q0c ?q0d ?q0l ?q0v ?_; (case q0D => assumption); (case q0F => k_asm); (case q0X => k_asm); (case q0a => k_is); (case q0b => k_is); (case q0c => k_is); (case q0d => k_is); (case q0l => intro _ _; k_get); (case q0v => k_handed); k_whole)))
  k_with "getMethod ref" => ((k_here; k_dflt (refine' own_meth ?q0D ?q0F ?q0X ?q0a ?q0b ?q0c ?q0l ?_; (case q0D => assumption); (case q0F => k_asm); (case q0X => k_asm); (case q0a => k_is); (case q0b => k_is); (case q0c => k_is); (case q0l => intro _ _; k_get); k_whole)))
  k_with "getMethod ref" => ((k_here; (with_reducible show wpAny _ _ (getMethod (Value.ref _) (PySem.Str.ofString "get") _) _ _ _); k_dflt (refine' w_getm ?q0W ?q0N ?q0p ?_; (case q0W => assumption); (case q0N => k_asm); (case q0p => k_mem); k_whole)))
  k_with "getMethod ref" => ((k_here; (with_reducible show wpAny _ _ (getMethod (Value.ref _) (PySem.Str.ofString "pop") _) _ _ _); k_dflt (refine' w_popm ?q0W ?q0N ?q0p ?_; (case q0W => assumption); (case q0N => k_asm); (case q0p => k_mem); k_whole)))
  k_with "call builtin:dict.get" => ((k_here; k_dflt (refine' w_get ?q0W ?q0N ?q0p ?_; (case q0W => assumption); (case q0N => k_asm); (case q0p => k_mem); k_whole); intro _))
  k_with "call builtin:dict.pop" => ((k_here; k_dflt (refine' w_pop ?q0W ?q0F ?q0N ?q0p ?q0U ?_; (case q0W => assumption); (case q0F => k_asm); (case q0N => k_asm); (case q0p => k_mem); (case q0U => (first | (refine UpdF.head ?_; assumption) | k_updF)); k_whole); intro _ _ _ _ N'; (try dsimp only at N'); (try (revert N'; intro _)); intro _))
  k_with "setItem ref int" => ((k_here; k_dflt (refine' w_set ?q0W ?q0F ?q0N ?q0U ?q0c ?_; (case q0W => assumption); (case q0F => k_asm); (case q0N => k_asm); (case q0U => (first | (refine UpdF.head ?_; assumption) | k_updF)); (case q0c => first | assumption | omega); k_whole); intro _ _ _ N'; (try dsimp only at N'); (try (revert N'; intro _)); intro _))
  k_with "depth" => (first | exact dp1 (by assumption) rfl | exact dp2 (by assumption) rfl | ((simp +zetaDelta only [depth_mark, depth_under_make, depth_under_kw, depth_in1, depth_deeper, depth_caller]); omega))
  k_with "units" => (first | exact up1 (by assumption) rfl | exact up2 (by assumption) rfl | ((simp +zetaDelta only [units_in1, units_deeper, Around.mark_units, units_caller]); omega))
  k_with "apart" => (first | assumption | exact List.forall_mem_cons.mpr ⟨by k_ne, by assumption⟩ | exact List.forall_mem_cons.mpr ⟨by k_ne, List.forall_mem_cons.mpr ⟨by k_ne, by assumption⟩⟩)
  k_with "fact" => (omega)
  k_with "entered" => ((k_dflt ((case k6 => k_is); (case k7 => k_is); (case k8 => walk_at "room"); (case c5 => decide); (case kB => exact locs rfl); (case c2 => exact rfl); (case c3 => exact rfl); (case c4 => exact rfl))))
  k_with "binds" => ((k_dflt (exact BindsTo.of_eq (by kernel_rfl))))
  k_with "dbinds" => ((k_dflt (exact binds_K (Frag.In.keeps (Ctx.X (by assumption)) (Fr.keep (Ctx.F (by assumption)))) rfl (by k_is) rfl rfl (by kernel_rfl))))
  k_with "room" => (((simp only [rl_is]); omega))
  k_with "assign Tuple" => ((k_here; (with_reducible show wpAny _ _ (assign (Expr.Tuple _ _ _) _ (Value.ref _)) _ _ _); k_dflt (refine' unpackN_ ?q0k1 ?q0k2 ?q0k3 ?q0k4 ?q0k5 ?q0k6 ?_; (case q0k1 => k_asm); (case q0k2 => k_asm); (case q0k3 => exact News.isTup (by k_asm) (by k_mem)); (case q0k4 => first | assumption | exact rfl); (case q0k5 => exact rfl); (case q0k6 => exact rfl); k_whole); intro _ _ _; (try k_sweep)))
  k_with "unpackItems ref" => ((k_here; k_dflt (refine' unpackItemsN_ ?q0k1 ?q0k2 ?q0k3 ?q0k4 ?q0k5 ?_; (case q0k1 => k_asm); (case q0k2 => k_asm); (case q0k3 => kun_tup); (case q0k4 => first | assumption | exact rfl); (case q0k5 => exact rfl); k_whole); intro _ _ _; (try k_sweep)))
  k_with "fold" => (((fail_if_success (fail_if_success k_fold)); refine foldQ ?_; intro _))
  k_with "foldS" => (((fail_if_success (fail_if_success k_fold)); refine foldQS ?_; intro _ _))
  k_with "foldE" => (((fail_if_success (fail_if_success (refine swapT ⟨?_, ?_⟩; k_fold))); refine foldEE ?_; intro _))
  trivial

theorem rows_at_39 : True := by
  k_with "eval Name" => ((k_here; k_dflt (refine' nmL ?q0F ?q0v ?_ ?q0L ?q0x; (case q0x => rfl); (case q0F => k_asm); (case q0L => rfl); (case q0v => rfl); k_whole)))
  k_with "storeName" => ((k_here; k_dflt (refine' stL ?q0F ?q0N ?_ ?q0L ?q0x; (case q0x => rfl); (case q0F => k_asm); (case q0L => rfl); (case q0N => k_asm); k_whole; intro _ _ _ _ _ _; (try k_sweep))))
  trivial
section
variable {prog : Program} {w : World} {p : Program} {loose : List Str} {mean : ExcName → Option Value} {mg mb : Str → Option Value} {A A₀ : Around} {env : Env} {outer : List Env} {base h₀ : Heap} {L : Addr} {m : Str → Option Value} {s : Shared} {news : List (Addr × Obj)} {R : Result → Shared → Prop}
theorem rows_at_40 : True := by
  k_with "call ref" => (((with_reducible show wpAny _ _ (call (Value.ref 437) _) _ _ _); k_here; (with_reducible refine call_R ?_); k_dflt (refine' c_need_stretch ?q0C ?q0he ?q0he4 ?q0hd ?q0hu ?_; (case q0C => walk_at "ctx"); (case q0he => first | assumption | walk_at "fact"); (case q0he4 => first | assumption | walk_at "fact"); (case q0hd => walk_at "depth"); (case q0hu => walk_at "units"); k_whole); intro _ _ _ _ _; (try (first | refine RetQ.ok ?_ | refine RetQ.err ?_)); (try walk_at "fold")))
  k_with "testChain" => (refine test_link ?_)
  k_with "setAttr ref" => ((k_here; k_dflt (refine' set_dict ?q0k1 ?q0k2 ?q0k3 ?q0k4 ?q0k5 ?q0k6 ?q0k7 ?q0k8 ?q0k9 ?q0k10 ?q0k11 ?q0k12 ?q0k13 ?_; (case q0k1 => k_asm); (case q0k2 => k_asm); (case q0k3 => k_asm); (case q0k4 => k_inst); (case q0k5 => exact rfl); (case q0k6 => k_is); (case q0k7 => k_is); (case q0k8 => k_is); (case q0k9 => k_is); (case q0k10 => k_get); (case q0k11 => k_put); (case q0k12 => first | exact Upd.tail (by k_ne) (Upd.head (by assumption)) | exact Upd.tail (by k_ne) (Upd.tail (by k_ne) (Upd.head (by assumption))) | exact Upd.tail (by k_ne) (Upd.tail (by k_ne) (Upd.tail (by k_ne) (Upd.head (by assumption))))); (case q0k13 => exact Nat.le_of_ble_eq_true rfl); k_whole; intro _ _ _; (try k_sweep))))
  trivial
theorem c_meminit {x dx : Addr} {pg sz : Int} {t : Tok} {rest : List (Addr × Obj)} (C : Ctx w p loose mean mg mb A A₀ env outer base h₀ L s.heap m ((x, instObj 607 dx) :: (dx, dictOf [] 0) :: rest)) (hp : 16 ≤ pg ∧ pg ≤ 256) (hsz : sz = 4 * pg) (hne : ∀ p ∈ rest, p.1 < dx) (hxd : dx < x) (hd : A.depth ≤ 740) (hu : A.units ≤ 7400)
  (hR : ∀ h' tk (D : Obj) (wd : Addr) (o : Obj), let st' : Shared := { s with heap := h', toks := tk }; Fr h₀ L h' m → let nw' : List (Addr × Obj) := ((wd, o) :: (x, instObj 607 dx) :: (dx, D) :: rest); News h₀ L h' nw' → IsFs (memF pg wd) D → WD prog w wd o [] → (x < wd ∧ dx < wd ∧ AllLt wd rest) → R (.ok (.ret (.none))) st') :
    codeAny (model prog w) A (.call (.ref 452) ⟨[.ref x, .int sz t], []⟩) R s := by
  refine' enter [("self", .ref x), ("size", .int sz t), ("begin", .int 0 913)] C ?k6 ?k7 ?k8 ?k9 ?kB ?c2 ?c3 ?c4 ?c5 ?_
  walk_at "entered"
  case k9 => walk_at "dbinds"
  obtain ⟨B, F, X, N, T, hA, hf, hke, hh⟩ := C
  intro g' L' h' tk' FG F' N' B' X' T'
  try dsimp only
  refine foldEnter (f := execs) F' ?_
  clear F'
  intro M9 en9 A9 m9 qk ek st9 F'
  try clear N
  replace hxd := ltN hxd
  have hne2 := fun p hp => Nat.ne_of_lt (hne p hp)
  have h4 : (0 + sz).fmod 4 = 0 := by rw [hsz, Int.fmod_eq_emod_of_nonneg _ (by decide)]; omega
  k_steps
  exact hR _ _ _ _ _ (by k_asm) (by k_asm) (mem_mk hsz rfl (by omega)) ⟨by assumption, by decide, [], by assumption, by assumption⟩ (by assumption)
theorem c_mkmem {pg sz : Int} {t : Tok} (C : Ctx w p loose mean mg mb A A₀ env outer base h₀ L s.heap m news) (hp : 16 ≤ pg ∧ pg ≤ 256) (hsz : sz = 4 * pg) (hd : A.depth ≤ 720) (hu : A.units ≤ 7200)
  (hR : ∀ h' tk (x dx : Addr) (D : Obj) (wd : Addr) (o : Obj), Fr h₀ L h' m → News h₀ L h' ((wd, o) :: (x, instObj 607 dx) :: (dx, D) :: news) → IsFs (memF pg wd) D → WD prog w wd o [] → (x < wd ∧ dx < wd ∧ AllLt wd news) → (∀ p ∈ news, p.1 < dx) → dx < x → R (.ok (.ret (.ref x))) { s with heap := h', toks := tk }) :
    codeAny (model prog w) A (.call (.ref 607) ⟨[.int sz t], []⟩) R s := by
  obtain ⟨B, F, X, N, T, hA, hf, hke, hh⟩ := C
  refine make_K (fI := 452) F N (X.keeps F.keep) (by k_is) (by k_is) (by k_is) fun x dx h' F' N' l1 l2 => ?_
  refine c_meminit (s := { s with heap := h' }) ⟨B, F', X, N', T, hA, hf, hke, hh⟩ hp hsz l1 l2 ?_ ?_ ?_
  · rw [depth_under_make]; omega
  · rw [units_under_make]; omega
  · intro h1 tk D wd o st1 F1 nw1 N1 e0 e1 e2
    exact ⟨rfl, hR _ _ _ _ _ _ _ F1 N1 e0 e1 e2 l1 l2⟩
end
end Mine
end W11b
section W14
open PySem PySem.W PyProof.Rows PySem.Calls PySem.Spec PyProof.V
set_option maxRecDepth 100000
set_option maxHeartbeats 8000000
set_option autoImplicit false
namespace Mine

theorem rows_at_41 : True := by
  k_with_none
  k_with "ctx" => ((refine' Ctx.mk ?q0B ?q0F ?q0X ?q0N ?q0T ?q0a ?q0f ?q0k ?q0h; (case q0B => k_asm); (case q0F => k_asm); (case q0X => k_asm); (case q0N => first | k_asm | exact news_swap1 (by k_asm) | exact news_swap2 (by k_asm) | exact news_swap3 (by k_asm)); (case q0T => k_asm); (case q0a => first | assumption | exact Around.frames_deeper (Below.stack (by assumption))); (case q0f => first | assumption | exact rfl); (case q0k => first | assumption | exact rfl); (case q0h => first | assumption | exact rfl)))
  k_with "getAttr ref" => ((k_here; k_dflt (refine' own_get ?q0D ?q0F ?q0X ?q0a ?q0b ?q0c ?q0d ?q0l ?q0v ?_; (case q0D => assumption); (case q0F => k_asm); (case q0X => k_asm); (case q0a => k_is); (case q0b => k_is); (case q0c => k_is); (case q0d => k_is); (case q0l => intro _ _; k_get); (case q0v => k_handed); k_whole)))
  k_with "getMethod ref" => ((k_here; k_dflt (refine' own_meth ?q0D ?q0F ?q0X ?q0a ?q0b ?q0c ?q0l ?_; (case q0D => assumption); (case q0F => k_asm); (case q0X => k_asm); (case q0a => k_is); (case q0b => k_is); (case q0c => k_is); (case q0l => intro _ _; k_get); k_whole)))
  k_with "getMethod ref" => ((k_here; (with_reducible show wpAny _ _ (getMethod (Value.ref _) (PySem.Str.ofString "get") _) _ _ _); k_dflt (refine' w_getm ?q0W ?q0N ?q0p ?_; (case q0W => assumption); (case q0N => k_asm); (case q0p => k_mem); k_whole)))
  k_with "getMethod ref" => ((k_here; (with_reducible show wpAny _ _ (getMethod (Value.ref _) (PySem.Str.ofString "pop") _) _ _ _); k_dflt (refine' w_popm ?q0W ?q0N ?q0p ?_; (case q0W => assumption); (case q0N => k_asm); (case q0p => k_mem); k_whole)))
  k_with "call builtin:dict.get" => ((k_here; k_dflt (refine' w_get ?q0W ?q0N ?q0p ?_; (case q0W => assumption); (case q0N => k_asm); (case q0p => k_mem); k_whole); intro _))
  k_with "call builtin:dict.pop" => ((k_here; k_dflt (refine' w_pop ?q0W ?q0F ?q0N ?q0p ?q0U ?_; (case q0W => assumption); (case q0F => k_asm); (case q0N => k_asm); (case q0p => k_mem); (case q0U => (first | (refine UpdF.head ?_; assumption) | k_updF)); k_whole); intro _ _ _ _ N'; (try dsimp only at N'); (try (revert N'; intro _)); intro _))
  k_with "setItem ref int" => ((k_here; k_dflt (refine' w_set ?q0W ?q0F ?q0N ?q0U ?q0c ?_; (case q0W => assumption); (case q0F => k_asm); (case q0N => k_asm); (case q0U => (first | (refine UpdF.head ?_; assumption) | k_updF)); (case q0c => first | assumption | omega); k_whole); intro _ _ _ N'; (try dsimp only at N'); (try (revert N'; intro _)); intro _))
  k_with "depth" => (first | exact dp1 (by assumption) rfl | exact dp2 (by assumption) rfl | ((simp +zetaDelta only [depth_mark, depth_under_make, depth_under_kw, depth_in1, depth_deeper, depth_caller]); omega))
  k_with "units" => (first | exact up1 (by assumption) rfl | exact up2 (by assumption) rfl | ((simp +zetaDelta only [units_in1, units_deeper, Around.mark_units, units_caller]); omega))
  k_with "apart" => (first | assumption | exact List.forall_mem_cons.mpr ⟨by k_ne, by assumption⟩ | exact List.forall_mem_cons.mpr ⟨by k_ne, List.forall_mem_cons.mpr ⟨by k_ne, by assumption⟩⟩)
  k_with "fact" => (omega)
  k_with "entered" => ((k_dflt ((case k6 => k_is); (case k7 => k_is); (case k8 => walk_at "room"); (case c5 => decide); (case kB => exact locs rfl); (case c2 => exact rfl); (case c3 => exact rfl); (case c4 => exact rfl))))
  k_with "binds" => ((k_dflt (exact BindsTo.of_eq (by kernel_rfl))))
  k_with "dbinds" => ((k_dflt (exact binds_K (Frag.In.keeps (Ctx.X (by assumption)) (Fr.keep (Ctx.F (by assumption)))) rfl (by k_is) rfl rfl (by kernel_rfl))))
  k_with "room" => (((simp only [rl_is]); omega))
  k_with "assign Tuple" => ((k_here; (with_reducible show wpAny _ _ (assign (Expr.Tuple _ _ _) _ (Value.ref _)) _ _ _); k_dflt (refine' unpackN_ ?q0k1 ?q0k2 ?q0k3 ?q0k4 ?q0k5 ?q0k6 ?_; (case q0k1 => k_asm); (case q0k2 => k_asm); (case q0k3 => exact News.isTup (by k_asm) (by k_mem)); (case q0k4 => first | assumption | exact rfl); (case q0k5 => exact rfl); (case q0k6 => exact rfl); k_whole); intro _ _ _; (try k_sweep)))
  k_with "unpackItems ref" => ((k_here; k_dflt (refine' unpackItemsN_ ?q0k1 ?q0k2 ?q0k3 ?q0k4 ?q0k5 ?_; (case q0k1 => k_asm); (case q0k2 => k_asm); (case q0k3 => kun_tup); (case q0k4 => first | assumption | exact rfl); (case q0k5 => exact rfl); k_whole); intro _ _ _; (try k_sweep)))
  k_with "fold" => (((fail_if_success (fail_if_success k_fold)); refine foldQ ?_; intro _))
  k_with "foldS" => (((fail_if_success (fail_if_success k_fold)); refine foldQS ?_; intro _ _))
  k_with "foldE" => (((fail_if_success (fail_if_success (refine swapT ⟨?_, ?_⟩; k_fold))); refine foldEE ?_; intro _))
  trivial

theorem rows_at_42 : True := by
  k_with "eval Name" => ((k_here; k_dflt (refine' nmL ?q0F ?q0v ?_ ?q0L ?q0x; (case q0x => rfl); (case q0F => k_asm); (case q0L => rfl); (case q0v => rfl); k_whole)))
  k_with "storeName" => ((k_here; k_dflt (refine' stL ?q0F ?q0N ?_ ?q0L ?q0x; (case q0x => rfl); (case q0F => k_asm); (case q0L => rfl); (case q0N => k_asm); k_whole; intro _ _ _ _ _ _; (try k_sweep))))
  trivial
section
variable {prog : Program} {w : World} {p : Program} {loose : List Str} {mean : ExcName → Option Value} {mg mb : Str → Option Value} {A A₀ : Around} {env : Env} {outer : List Env} {base h₀ : Heap} {L : Addr} {m : Str → Option Value} {s : Shared} {news : List (Addr × Obj)} {R : Result → Shared → Prop}
theorem rows_at_43 : True := by
  k_with "exec For Name Call cons nil" => ((k_here; (with_unfolding_all refine' For_G ‹Fr _ _ _ _› ?_); k_whole))
  k_with "exec For Tuple Call cons nil" => ((k_here; (with_unfolding_all refine' For_G ‹Fr _ _ _ _› ?_); k_whole))
  k_with "exec For Name Name cons nil" => ((k_here; (with_unfolding_all refine' For_G ‹Fr _ _ _ _› ?_); k_whole))
  k_with "exec For Name BinOp cons nil" => ((k_here; (with_unfolding_all refine' For_G ‹Fr _ _ _ _› ?_); k_whole))
  k_with "setItem ref ref" => ((k_here; k_dflt (refine' ct_set ?q0ua ?q0Fa ?q0Na ?q0Ta ?q0ma ?q0ka ?q0la ?_; (case q0Fa => k_asm); (case q0Na => k_asm); (case q0Ta => exact CT.mono (by assumption) (fun q hq => by repeat (first | exact hq | apply List.mem_cons_of_mem))); (case q0ma => exact List.Mem.head _); (case q0ka => exact KeyO.tup); (case q0la => first | omega | (refine Nat.le_trans (setK_len _ _ _) ?_; omega)); (case q0ua => ktr_units); k_whole); intro h7 Z7 F7 N7 T7 k7; (replace kp9 := fun p hp hc => k7 p (by have z := kp9 p hp hc; repeat (first | exact z | apply List.mem_cons_of_mem)) hc)))
  trivial
theorem c_entries {ml : Addr} {items : Array Value} {k : Nat} {ns : List Int} (C : Ctx w p loose mean mg mb A A₀ env outer base h₀ L s.heap m news) (hml : (ml, listOf items k) ∈ news) (hns : IntsAre items.toList ns) (hb : ∀ n ∈ ns, 0 ≤ n ∧ n < 1000000000000) (hl : ns.length ≤ 20) (hd : A.depth ≤ 600) (hu : A.units ≤ 6000)
  (hR : ∀ h' tk (cd : Addr) (news' : List (Addr × Obj)), let st' : Shared := { s with heap := h', toks := tk }; Fr h₀ L h' m → News h₀ L h' news' → CT prog w news' cd (entN ns ns.length) → (∀ q ∈ news, q ∈ news') → R (.ok (.ret (.ref cd))) st') :
    codeAny (model prog w) A (.call (.ref 878) ⟨[.ref ml], []⟩) R s := by
  refine' enter [("marks", .ref ml)] C ?k6 ?k7 ?k8 ?k9 ?kB ?c2 ?c3 ?c4 ?c5 ?_
  walk_at "entered"
  case k9 => walk_at "binds"
  obtain ⟨B, F, X, N, T, hA, hf, hke, hh⟩ := C
  intro g' L' h' tk' FG F' N' B' X' T'
  try dsimp only
  refine foldEnter (f := execs) F' ?_
  clear F'
  intro M9 en9 A9 m9 qk ek st9 F'
  try clear N
  k_steps
  rename_i cd h2 o l1 lo hs1 fs1 hi1 fi1 h3 _ _ _ lF N9 _ _
  have hne : ∀ q ∈ news, q.1 ≠ cd := fun q hq => Nat.ne_of_lt (l1 q hq)
  refine' iterG_listC [("n" : Str), ("flags" : Str), ("frame" : Str), ("shape" : Str)] (fun i news₁ => CT prog w news₁ cd (entN ns i) ∧ ∀ q ∈ news, q ∈ news₁) ?hh ?F ?N (News.isList N9 (.tail _ hml)) ?hdl ?hj ?turn ?done
  case hh => assumption
  case F => assumption
  case N => exact N9
  case hdl => exact (N9 _ (.tail _ hml)).2.1
  case hj => exact ⟨⟨TupTab.ofEmpty (List.Mem.head _) lo hs1, List.nodup_nil⟩, fun q hq => .tail _ hq⟩
  case done =>
    rintro h9 tk9 u9 news9 F9 N9 ⟨T9, hk9⟩
    have e9 : items.size = ns.length := by rw [← Array.length_toList]; exact hns.length
    rw [e9] at T9
    k_steps
    exact hR _ _ _ _ (by k_asm) (by k_asm) T9 hk9
  case turn =>
    rintro i v u9 news9 h9 tk9 own I he ⟨T9, hk9⟩ hoff hsub ⟨oI, hI, hcI⟩ F9 N9'
    obtain ⟨n, t9, rfl, hn9⟩ := hns.at i v (by rw [← Array.getElem?_toList] at he; exact he)
    have hb9 := hb n (List.mem_of_getElem? hn9)
    have hlen : (entN ns i).length ≤ 60 := by
      have e1 := entN_len ns i
      have e2 := (List.getElem?_eq_some_iff.mp hn9).1
      omega
    have hown : ∀ p ∈ own, p.1 ≠ cd := fun p hp => by
      obtain ⟨oc, hcd⟩ : ∃ oc, (cd, oc) ∈ news9 := let ⟨_, o, _, _, _, hm, _⟩ := T9.1; ⟨o, hm⟩
      rcases hsub p hp with q | q
      · rw [q]; exact fun z => hoff _ hcd z.symm
      · rw [q]; exact hne _ hml
    replace T9 := CT.mono T9 (news' := own ++ news9) fun q hq => List.mem_append_right _ hq
    have kp9 : ∀ p ∈ own ++ news9, p.1 ≠ cd → p ∈ own ++ news9 := fun _ h _ => h
    try dsimp only
    k_steps
    all_goals show NextG _ _ _ _ _ _ _ _ _
    all_goals rw [entN_step hn9]
    all_goals first
      | (rw [es1 (by assumption)]; exact ent_next (by k_asm) (by repeat (first | (with_reducible exact over_off) | ((with_reducible refine upd_off ?_ ?_); exact rfl) | exact fun _ _ => rfl)) (by k_asm) (by assumption) kp9 hown hk9 hne hoff hI hcI)
      | (rw [es2 (by assumption) (by assumption) (by assumption)]; exact ent_next (by k_asm) (by repeat (first | (with_reducible exact over_off) | ((with_reducible refine upd_off ?_ ?_); exact rfl) | exact fun _ _ => rfl)) (by k_asm) (by assumption) kp9 hown hk9 hne hoff hI hcI)
      | (rw [es3 (by assumption) (by assumption) (by assumption)]; exact ent_next (by k_asm) (by repeat (first | (with_reducible exact over_off) | ((with_reducible refine upd_off ?_ ?_); exact rfl) | exact fun _ _ => rfl)) (by k_asm) (by assumption) kp9 hown hk9 hne hoff hI hcI)
      | (rw [es4 (by assumption) (by assumption)]; exact ent_next (by k_asm) (by repeat (first | (with_reducible exact over_off) | ((with_reducible refine upd_off ?_ ?_); exact rfl) | exact fun _ _ => rfl)) (by k_asm) (by assumption) kp9 hown hk9 hne hoff hI hcI)
end
end Mine
end W14
section W3M
open PySem PySem.W PyProof.Rows PySem.Calls PySem.Spec PyProof.V
set_option maxRecDepth 100000
set_option maxHeartbeats 8000000
set_option autoImplicit false
namespace Mine


section
variable {prog : Program} {w : World} {p : Program} {loose : List Str} {mean : ExcName → Option Value} {mg mb : Str → Option Value} {A A₀ : Around} {env : Env} {outer : List Env} {base h₀ : Heap} {L : Addr} {m : Str → Option Value} {s : Shared} {news : List (Addr × Obj)} {R : Result → Shared → Prop}
theorem c_parts_inM {lay : Addr} {b pg en lg ed : Int} {tl : Toks} {a : Int} {t : Tok} (C : CtxM w p loose mean mg mb A A₀ env outer base h₀ L s.heap m news) (D : Has h₀ lay 182 (layF b pg en lg ed tl)) (ln : LayN b pg en lg ed) (ha : 0 ≤ a ∧ a < ed) (hd : A.depth ≤ 800) (hu : A.units ≤ 8000)
  (hR : ∀ h' tk (x : Addr) (t1 t2 t3 : Tok), let st' : Shared := { s with heap := h', toks := tk }; Fr h₀ L h' m → let nw' : List (Addr × Obj) := ((x, tupObj [.int (pF b a) t1, .int (pS b en a) t2, .int (pO pg a) t3]) :: news); News h₀ L h' nw' → (∀ p ∈ news, p.1 < x) → R (.ok (.ret (.ref x))) st') :
    codeAny (model prog w) A (.call (.ref 129) ⟨[.ref lay, .int a t], []⟩) R s := by
  refine' enterM [("self", .ref lay), ("address", .int a t)] C ?k6 ?k7 ?k8 ?k9 ?kB ?c2 ?c3 ?c4 ?c5 ?_
  walk_at "entered"
  case k9 => walk_at "binds"
  obtain ⟨B, F, X, N, T, hA, hf, hke⟩ := C
  intro g' L' h' tk' FG F' N' B' X' T'
  replace D := D.keeps FG.keep
  try dsimp only
  refine foldEnter (f := execs) F' ?_
  clear F'
  intro M9 en9 A9 m9 qk ek st9 F'
  try clear N
  obtain ⟨hb, hpg, hen, hlg, hed⟩ := layN_b ln
  k_steps
  all_goals (refine' hR _ _ _ _ _ _ ?F ?N ?l; (case F => k_asm); (case N => k_asm); (case l => assumption))
end
end Mine
end W3M
section W18a
open PySem PySem.W PyProof.Rows PySem.Calls PySem.Spec PyProof.V
set_option maxRecDepth 100000
set_option maxHeartbeats 8000000
set_option autoImplicit false
namespace Mine

theorem rows_at_44 : True := by
  k_with_none
  k_with "ctx" => ((refine' Ctx.mk ?q0B ?q0F ?q0X ?q0N ?q0T ?q0a ?q0f ?q0k ?q0h; (case q0B => k_asm); (case q0F => k_asm); (case q0X => k_asm); (case q0N => first | k_asm | exact news_swap1 (by k_asm) | exact news_swap2 (by k_asm) | exact news_swap3 (by k_asm)); (case q0T => k_asm); (case q0a => first | assumption | exact Around.frames_deeper (Below.stack (by assumption))); (case q0f => first | assumption | exact rfl); (case q0k => first | assumption | exact rfl); (case q0h => first | assumption | exact rfl)))
  k_with "getAttr ref" => ((k_here; k_dflt (refine' own_get ?q0D ?q0F ?q0X ?q0a ?q0b ?q0c ?q0d ?q0l ?q0v ?_; (case q0D => assumption); (case q0F => k_asm); (case q0X => k_asm); (case q0a => k_is); (case q0b => k_is); (case q0c => k_is); (case q0d => k_is); (case q0l => intro _ _; k_get); (case q0v => k_handed); k_whole)))
  k_with "getMethod ref" => ((k_here; k_dflt (refine' own_meth ?q0D ?q0F ?q0X ?q0a ?q0b ?q0c ?q0l ?_; (case q0D => assumption); (case q0F => k_asm); (case q0X => k_asm); (case q0a => k_is); (case q0b => k_is); (case q0c => k_is); (case q0l => intro _ _; k_get); k_whole)))
  k_with "getMethod ref" => ((k_here; (with_reducible show wpAny _ _ (getMethod (Value.ref _) (PySem.Str.ofString "get") _) _ _ _); k_dflt (refine' w_getm ?q0W ?q0N ?q0p ?_; (case q0W => assumption); (case q0N => k_asm); (case q0p => k_mem); k_whole)))
  k_with "getMethod ref" => ((k_here; (with_reducible show wpAny _ _ (getMethod (Value.ref _) (PySem.Str.ofString "pop") _) _ _ _); k_dflt (refine' w_popm ?q0W ?q0N ?q0p ?_; (case q0W => assumption); (case q0N => k_asm); (case q0p => k_mem); k_whole)))
  k_with "call builtin:dict.get" => ((k_here; k_dflt (refine' w_get ?q0W ?q0N ?q0p ?_; (case q0W => assumption); (case q0N => k_asm); (case q0p => k_mem); k_whole); intro _))
  k_with "call builtin:dict.pop" => ((k_here; k_dflt (refine' w_pop ?q0W ?q0F ?q0N ?q0p ?q0U ?_; (case q0W => assumption); (case q0F => k_asm); (case q0N => k_asm); (case q0p => k_mem); (case q0U => (first | (refine UpdF.head ?_; assumption) | k_updF)); k_whole); intro _ _ _ _ N'; (try dsimp only at N'); (try (revert N'; intro _)); intro _))
  k_with "setItem ref int" => ((k_here; k_dflt (refine' w_set ?q0W ?q0F ?q0N ?q0U ?q0c ?_; (case q0W => assumption); (case q0F => k_asm); (case q0N => k_asm); (case q0U => (first | (refine UpdF.head ?_; assumption) | k_updF)); (case q0c => first | assumption | omega); k_whole); intro _ _ _ N'; (try dsimp only at N'); (try (revert N'; intro _)); intro _))
  k_with "depth" => (first | exact dp1 (by assumption) rfl | exact dp2 (by assumption) rfl | ((simp +zetaDelta only [depth_mark, depth_under_make, depth_under_kw, depth_in1, depth_deeper, depth_caller]); omega))
  k_with "units" => (first | exact up1 (by assumption) rfl | exact up2 (by assumption) rfl | ((simp +zetaDelta only [units_in1, units_deeper, Around.mark_units, units_caller]); omega))
  k_with "apart" => (first | assumption | exact List.forall_mem_cons.mpr ⟨by k_ne, by assumption⟩ | exact List.forall_mem_cons.mpr ⟨by k_ne, List.forall_mem_cons.mpr ⟨by k_ne, by assumption⟩⟩)
  k_with "fact" => (omega)
  k_with "entered" => ((k_dflt ((case k6 => k_is); (case k7 => k_is); (case k8 => walk_at "room"); (case c5 => decide); (case kB => exact locs rfl); (case c2 => exact rfl); (case c3 => exact rfl); (case c4 => exact rfl))))
  k_with "binds" => ((k_dflt (exact BindsTo.of_eq (by kernel_rfl))))
  k_with "dbinds" => ((k_dflt (exact binds_K (Frag.In.keeps (Ctx.X (by assumption)) (Fr.keep (Ctx.F (by assumption)))) rfl (by k_is) rfl rfl (by kernel_rfl))))
  k_with "room" => (((simp only [rl_is]); omega))
  k_with "assign Tuple" => ((k_here; (with_reducible show wpAny _ _ (assign (Expr.Tuple _ _ _) _ (Value.ref _)) _ _ _); k_dflt (refine' unpackN_ ?q0k1 ?q0k2 ?q0k3 ?q0k4 ?q0k5 ?q0k6 ?_; (case q0k1 => k_asm); (case q0k2 => k_asm); (case q0k3 => exact News.isTup (by k_asm) (by k_mem)); (case q0k4 => first | assumption | exact rfl); (case q0k5 => exact rfl); (case q0k6 => exact rfl); k_whole); intro _ _ _; (try k_sweep)))
  k_with "unpackItems ref" => ((k_here; k_dflt (refine' unpackItemsN_ ?q0k1 ?q0k2 ?q0k3 ?q0k4 ?q0k5 ?_; (case q0k1 => k_asm); (case q0k2 => k_asm); (case q0k3 => kun_tup); (case q0k4 => first | assumption | exact rfl); (case q0k5 => exact rfl); k_whole); intro _ _ _; (try k_sweep)))
  k_with "fold" => (((fail_if_success (fail_if_success k_fold)); refine foldQ ?_; intro _))
  k_with "foldS" => (((fail_if_success (fail_if_success k_fold)); refine foldQS ?_; intro _ _))
  k_with "foldE" => (((fail_if_success (fail_if_success (refine swapT ⟨?_, ?_⟩; k_fold))); refine foldEE ?_; intro _))
  trivial

theorem rows_at_45 : True := by
  k_with "eval Name" => ((k_here; k_dflt (refine' nmL ?q0F ?q0v ?_ ?q0L ?q0x; (case q0x => rfl); (case q0F => k_asm); (case q0L => rfl); (case q0v => rfl); k_whole)))
  k_with "storeName" => ((k_here; k_dflt (refine' stL ?q0F ?q0N ?_ ?q0L ?q0x; (case q0x => rfl); (case q0F => k_asm); (case q0L => rfl); (case q0N => k_asm); k_whole; intro _ _ _ _ _ _; (try k_sweep))))
  trivial
section
variable {prog : Program} {w : World} {p : Program} {loose : List Str} {mean : ExcName → Option Value} {mg mb : Str → Option Value} {A A₀ : Around} {env : Env} {outer : List Env} {base h₀ : Heap} {L : Addr} {m : Str → Option Value} {s : Shared} {news : List (Addr × Obj)} {R : Result → Shared → Prop}
theorem rows_at_46 : True := by
  k_with "eval ListComp" =>
    ((k_here; first
      | ((with_reducible show wpAny _ _ (eval (PySem.Expr.ListComp _ [⟨PySem.Expr.Name _ _, _, [], 0⟩] _ _) _) _ _ _); k_dflt (refine listComp_O (F₀ := by k_asm) (by with_unfolding_all rfl) (by decide) (by rfl) (by decide) (by rfl) ?_))
      | ((with_reducible show wpAny _ _ (eval (PySem.Expr.ListComp _ [⟨PySem.Expr.Tuple [PySem.Expr.Name _ _, PySem.Expr.Name _ _] _ _, _, [], 0⟩] _ _) _) _ _ _); k_dflt (refine listComp_OP (F₀ := by k_asm) (by with_unfolding_all rfl) (by decide) (by rfl) (by decide) (by rfl) (by rfl) (by decide) ?_))))
  k_with "call builtin:sorted" => ((k_here; k_dflt (refine' w_sorted ?q0W ?q0hh ?q0F ?q0N ?q0p ?q0l ?_; (case q0W => assumption); (case q0hh => first | assumption | exact rfl); (case q0F => k_asm); (case q0N => k_asm); (case q0p => k_mem); (case q0l => omega); k_whole); intro _ _ _ _ _ _ _ _ l1' _ _ _; (try k_lt l1'); (try (revert l1'; intro _))))
  k_with "subscriptTail" => ((k_here; (with_reducible show wpAny _ _ (subscriptTail _ _ (Value.ref _) (Value.int _ _)) _ _ _); k_dflt (refine' w_item ?q0W ?q0N ?q0p ?q0k ?_; (case q0W => assumption); (case q0N => k_asm); (case q0p => k_mem); (case q0k => assumption); k_whole); intro _))
  trivial
theorem c_memrows {mem wd : Addr} {pg : Int} {tt : Toks} {o : Obj} {c : Cs} {rest : List (Addr × Obj)} (C : Ctx w p loose mean mg mb A A₀ env outer base h₀ L s.heap m ((wd, o) :: rest)) (M : Has h₀ mem 607 (memF pg wd tt)) (W : WD prog w wd o c) (hc : c.length < 60) (hkb : ∀ q ∈ c, 0 ≤ q.1 ∧ q.1 < 256) (hd : A.depth ≤ 700) (hu : A.units ≤ 7000)
  (hR : ∀ h' tk (fa : Addr) (ys : List Value) (k : Nat) (tl : List (Addr × Obj)) (ks : List Int), let st' : Shared := { s with heap := h', toks := tk }; Fr h₀ L h' m → let nw' : List (Addr × Obj) := ((wd, o) :: (fa, listOf ys.toArray k) :: (tl ++ rest)); News h₀ L h' nw' → PairsAt tl ys (ks.map (memF2 c)) → ks.Perm (c.map (·.1)) → ks.Pairwise (· ≤ ·) → wd ≠ fa → (∀ p ∈ tl, p.1 ≠ wd) → R (.ok (.ret (.ref fa))) st') :
    codeAny (model prog w) A (.call (.ref 590) ⟨[.ref mem], []⟩) R s := by
  refine' enterC [("self", .ref mem)] C ?k6 ?k7 ?k8 ?k9 ?kB ?kD ?c2 ?c3 ?c4 ?_
  case k6 => k_is
  case k7 => k_is
  case k8 => walk_at "room"
  case k9 => walk_at "binds"
  case kB => exact rfl
  case kD => decide +kernel
  case c2 => exact rfl
  case c3 => exact rfl
  case c4 => exact rfl
  obtain ⟨B, F, X, N, T, hA, hf, hke, hh⟩ := C
  intro g' L' h' tk' cells FG F' N' Y B' X' T' lL
  obtain ⟨oc, hE, hoc⟩ := CellsAre.one Y
  subst hE
  clear Y
  replace M := M.keeps FG.keep
  try simp only [List.cons_append, List.nil_append] at N'
  try dsimp only
  try k_fold
  try clear N
  k_steps
  rename_i Bl vs ks kk hS tkS FS NS IS PS SS lS
  generalize hbase : ((Bl, PySem.W.listOf vs.toArray kk) :: (L' + 1, oc) :: (wd, o) :: rest : List (Addr × Obj)) = bs at NS
  have hBl : (Bl, PySem.W.listOf vs.toArray kk) ∈ bs := by rw [← hbase]; exact .head _
  have hwb : (wd, o) ∈ bs := by rw [← hbase]; exact .tail _ (.tail _ (.head _))
  refine SrcO.ledger hh (by k_asm) NS (by rw [← hbase]; exact .head _) (by rw [sizeLine_eq, List.size_toArray, IS.length, PS.length_eq, List.length_map]; omega) fun gH => comp_inv (fun i => JM wd bs ((ks.take i).map (memF2 c))) ⟨[], rfl, trivial, fun _ h => nomatch h⟩ ?turn ?fin
  case turn =>
    rintro i v ys nw I oI C oC D m2 h tk E9 hi hP ⟨tl, rfl, hpairs, htl⟩ hC hx F9 N9 off
    obtain ⟨k, t9, rfl, hk9⟩ := IS.at i v (by simpa using hP)
    have hhas := has_of_perm PS (List.mem_of_getElem? hk9)
    have hkk := key_of_perm PS hkb (List.mem_of_getElem? hk9)
    replace N9 : News g' L' h ((L' + 1, oc) :: (wd, o) :: (I, oI) :: (C, oC) :: (D, LCg.lst ys) :: (tl ++ bs)) := News.sub N9 fun q hq => by
      rw [← hbase] at hq ⊢
      simp +zetaDelta only [List.mem_cons, List.mem_append] at hq ⊢
      grind
    try dsimp only
    k_steps
    rw [take_succ (memF2 c) hk9]
    refine jm_next (by k_asm) (by assumption) hpairs htl off (by assumption) (show _ ∧ _ ∧ _ ∧ _ ∧ _ ∧ _ from by assumption).2.1 (.inr ⟨_, List.mem_append_right _ hBl, rfl, _, rfl⟩)
  case fin =>
    rintro ys nw ⟨tl, rfl, hpairs, htl⟩ D9 h9 tk9 F9 N9 off9
    try dsimp only
    k_steps
    have hlen : (vs.toArray).size = ks.length := by rw [List.size_toArray]; exact IS.length
    rw [hlen, List.take_length] at hpairs
    have hsub : ∀ q ∈ (wd, o) :: (D9, PySem.W.listOf ys.toArray ys.length) :: (tl ++ rest), q ∈ (D9, LCg.lst ys) :: (tl ++ bs) := fun q hq => by
      rw [← hbase]
      simp +zetaDelta only [List.mem_cons, List.mem_append] at hq ⊢
      grind
    exact hR _ _ D9 ys ys.length tl ks (by k_asm) (News.sub (by assumption) hsub) hpairs PS SS (off1_mem off9 (wd, o) (List.mem_append_right _ hwb)) htl
end
end Mine
end W18a
section W6
open PySem PySem.W PyProof.Rows PySem.Calls PySem.Spec PyProof.V
set_option maxRecDepth 100000
set_option maxHeartbeats 8000000
set_option autoImplicit false
namespace Mine


theorem rows_at_47 : True := by
  k_with "subscriptTail" => ((k_here; (with_reducible show wpAny _ _ (subscriptTail _ _ (Value.ref 106) (Value.str _ _)) _ _ _); k_dflt (refine' pf_item ?q0F ?q0X ?q0k ?_; (case q0F => k_asm); (case q0X => k_asm); (case q0k => assumption); k_whole); intro _))
  k_with "exec Raise some none" => ((k_here; (k_dflt (refine' raise_trap ?q0h ?_; (case q0h => first | assumption | exact rfl))); (try dsimp only)))
  k_with "call ref" => (((with_reducible show wpAny _ _ (call (Value.ref 103) _) _ _ _); k_here; (with_reducible refine wpAny_call ?_); k_dflt (refine' c_mktrap ?q0C ?q0c ?q0v ?q0d ?q0u ?_; (case q0C => walk_at "ctx"); (case q0c => first | exact pfS_lt | omega); (case q0v => first | assumption | omega); (case q0d => walk_at "depth"); (case q0u => walk_at "units"); k_whole); intro _ _ _ _ _ _ _ _ _ _ _ _ _ _ _ _ _ _ _ _; (try dsimp only)))
  k_with "Exists" => (((with_reducible show ∃ e t dx, _ = _ ∧ _); refine' ⟨_, _, _, rfl, ?q0X, ?q0e, ?_⟩; (case q0X => exact Frag.In.keeps (by k_asm) (Fr.keep (by k_asm))); (case q0e => exact (News.get (by k_asm) (List.Mem.tail _ (List.Mem.head _)))); (try dsimp only)))
  k_with "leaving ref" => ((k_here; k_dflt (first | (refine' leave_onD ?q0K ?q0F ?q0R ?_; (case q0K => k_asm); (case q0R => assumption); (case q0F => assumption); intro _ _) | (refine' leaveT0 ?q0K ?q0F ?q0N ?q0a ?q0b ?q0c ?q0d ?_; (case q0K => k_asm); (case q0F => k_asm); (case q0N => k_asm); (case q0a => assumption); (case q0b => assumption); (case q0c => assumption); (case q0d => assumption); intro _ _)); (try dsimp only)))
  trivial
section
variable {prog : Program} {w : World} {p : Program} {loose : List Str} {mean : ExcName → Option Value} {mg mb : Str → Option Value} {A A₀ : Around} {env : Env} {outer : List Env} {base h₀ : Heap} {L : Addr} {m : Str → Option Value} {s : Shared} {news : List (Addr × Obj)} {R : Result → Shared → Prop}
theorem rows_at_48 : True := by
  k_with "call ref" => (((with_reducible show wpAny _ _ (call (Value.ref 536) _) _ _ _); k_here; (with_reducible refine call_R ?_); k_dflt (refine' c_get ?q0C ?q0M ?q0W ?q0hp ?q0ha ?q0h4 ?q0hd ?q0hu ?_; (case q0M => assumption); (case q0W => assumption); (case q0C => walk_at "ctx"); (case q0hp => first | assumption | walk_at "fact"); (case q0ha => first | assumption | walk_at "fact"); (case q0h4 => first | assumption | walk_at "fact"); (case q0hd => walk_at "depth"); (case q0hu => walk_at "units"); k_whole); intro _ _ _ _ _ _; (try (first | refine RetQ.ok ?_ | refine RetQ.err ?_)); (try walk_at "fold")))
  k_with "call ref" => (((with_reducible show wpAny _ _ (call (Value.ref 543) _) _ _ _); k_here; (with_reducible refine call_R ?_); k_dflt (refine' c_put ?q0C ?q0M ?q0W ?q0hne ?q0hc ?q0hp ?q0ha ?q0h4 ?q0hv ?q0hd ?q0hu ?_; (case q0M => assumption); (case q0W => assumption); (case q0C => walk_at "ctx"); (case q0hne => walk_at "apart"); (case q0hc => first | assumption | walk_at "fact"); (case q0hp => first | assumption | walk_at "fact"); (case q0ha => first | assumption | walk_at "fact"); (case q0h4 => first | assumption | walk_at "fact"); (case q0hv => first | assumption | walk_at "fact"); (case q0hd => walk_at "depth"); (case q0hu => walk_at "units"); k_whole); intro _ _ _ _ _ _ _; (try (first | refine RetQ.ok ?_ | refine RetQ.err ?_)); (try walk_at "fold")))
  k_with "call ref" => (((with_reducible show wpAny _ _ (call (Value.ref 689) _) _ _ _); k_here; (with_reducible refine call_R ?_); k_dflt (refine' c_load ?q0C ?q0Bu ?q0M ?q0W ?q0hp ?q0ha ?q0h4 ?q0hd ?q0hu ?_; (case q0Bu => assumption); (case q0M => assumption); (case q0W => assumption); (case q0C => walk_at "ctx"); (case q0hp => first | assumption | walk_at "fact"); (case q0ha => first | assumption | walk_at "fact"); (case q0h4 => first | assumption | walk_at "fact"); (case q0hd => walk_at "depth"); (case q0hu => walk_at "units"); k_whole); intro _ _ _ _ _ _; (try (first | refine RetQ.ok ?_ | refine RetQ.err ?_)); (try walk_at "fold")))
  k_with "call ref" => (((with_reducible show wpAny _ _ (call (Value.ref 697) _) _ _ _); k_here; (with_reducible refine call_R ?_); k_dflt (refine' c_store ?q0C ?q0Bu ?q0M ?q0W ?q0hne ?q0hc ?q0hp ?q0ha ?q0h4 ?q0hv ?q0hd ?q0hu ?_; (case q0Bu => assumption); (case q0M => assumption); (case q0W => assumption); (case q0C => walk_at "ctx"); (case q0hne => walk_at "apart"); (case q0hc => first | assumption | walk_at "fact"); (case q0hp => first | assumption | walk_at "fact"); (case q0ha => first | assumption | walk_at "fact"); (case q0h4 => first | assumption | walk_at "fact"); (case q0hv => first | assumption | walk_at "fact"); (case q0hd => walk_at "depth"); (case q0hu => walk_at "units"); k_whole); intro _ _ _ _ _ _ _; (try (first | refine RetQ.ok ?_ | refine RetQ.err ?_)); (try walk_at "fold")))
  k_with "call ref" => (((with_reducible show wpAny _ _ (call (Value.ref 129) _) _ _ _); k_here; (with_reducible refine call_R ?_); k_dflt (refine' c_parts_in ?q0C ?q0D ?q0ln ?q0ha ?q0hd ?q0hu ?_; (case q0D => assumption); (case q0C => walk_at "ctx"); (case q0ln => assumption); (case q0ha => first | assumption | walk_at "fact"); (case q0hd => walk_at "depth"); (case q0hu => walk_at "units"); k_whole); intro _ _ _ _ _ _ _ _ _ _ l1'; (try k_lt l1'); (try (revert l1'; intro _)); (try (first | refine RetQ.ok ?_ | refine RetQ.err ?_)); (try walk_at "fold")))
  k_with "call ref" => (((with_reducible show wpAny _ _ (call (Value.ref 129) _) _ _ _); k_here; (with_reducible refine call_R ?_); k_dflt (refine' c_parts_out ?q0C ?q0D ?q0ln ?q0ha ?q0hd ?q0hu ?_; (case q0D => assumption); (case q0C => walk_at "ctx"); (case q0ln => assumption); (case q0ha => first | assumption | walk_at "fact"); (case q0hd => walk_at "depth"); (case q0hu => walk_at "units"); k_whole); intro _ _ _ _ _; (try (first | refine RetQ.ok ?_ | refine RetQ.err ?_)); (try walk_at "fold")))
  k_with "call ref" => (((with_reducible show wpAny _ _ (call (Value.ref 137) _) _ _ _); k_here; (with_reducible refine call_R ?_); k_dflt (refine' c_address ?q0C ?q0D ?q0ln ?q0hf1 ?q0hg1 ?q0hq1 ?q0hd ?q0hu ?_; (case q0D => assumption); (case q0C => walk_at "ctx"); (case q0ln => assumption); (case q0hf1 => first | assumption | walk_at "fact"); (case q0hg1 => first | assumption | walk_at "fact"); (case q0hq1 => first | assumption | walk_at "fact"); (case q0hd => walk_at "depth"); (case q0hu => walk_at "units"); k_whole); intro _ _ _ _ _ _; (try (first | refine RetQ.ok ?_ | refine RetQ.err ?_)); (try walk_at "fold")))
  k_with "call ref" => (((with_reducible show wpAny _ _ (call (Value.ref 144) _) _ _ _); k_here; (with_reducible refine call_R ?_); k_dflt (refine' c_down ?q0C ?q0D ?q0ln ?q0ha ?q0hd ?q0hu ?_; (case q0D => assumption); (case q0C => walk_at "ctx"); (case q0ln => assumption); (case q0ha => first | assumption | walk_at "fact"); (case q0hd => walk_at "depth"); (case q0hu => walk_at "units"); k_whole); intro _ _ _ _ _ _; (try (first | refine RetQ.ok ?_ | refine RetQ.err ?_)); (try walk_at "fold")))
  k_with "call ref" => (((with_reducible show wpAny _ _ (call (Value.ref 158) _) _ _ _); k_here; (with_reducible refine call_R ?_); k_dflt (refine' c_is_begin ?q0C ?q0D ?q0ln ?q0ha ?q0hd ?q0hu ?_; (case q0D => assumption); (case q0C => walk_at "ctx"); (case q0ln => assumption); (case q0ha => first | assumption | walk_at "fact"); (case q0hd => walk_at "depth"); (case q0hu => walk_at "units"); k_whole); intro _ _ _ _ _; (try (first | refine RetQ.ok ?_ | refine RetQ.err ?_)); (try walk_at "fold")))
  k_with "call ref" => (((with_reducible show wpAny _ _ (call (Value.ref 172) _) _ _ _); k_here; (with_reducible refine call_R ?_); k_dflt (refine' c_lentry ?q0C ?q0D ?q0ln ?q0ha ?q0hf1 ?q0hd ?q0hu ?_; (case q0D => assumption); (case q0C => walk_at "ctx"); (case q0ln => assumption); (case q0ha => first | assumption | walk_at "fact"); (case q0hf1 => first | assumption | walk_at "fact"); (case q0hd => walk_at "depth"); (case q0hu => walk_at "units"); k_whole); intro _ _ _ _ _ _; (try (first | refine RetQ.ok ?_ | refine RetQ.err ?_)); (try walk_at "fold")))
  k_with "call ref" => (((with_reducible show wpAny _ _ (call (Value.ref 179) _) _ _ _); k_here; (with_reducible refine call_R ?_); k_dflt (refine' c_lphysical ?q0C ?q0D ?q0ln ?q0he ?q0hd ?q0hu ?_; (case q0D => assumption); (case q0C => walk_at "ctx"); (case q0ln => assumption); (case q0he => first | assumption | walk_at "fact"); (case q0hd => walk_at "depth"); (case q0hu => walk_at "units"); k_whole); intro _ _ _ _ _ _; (try (first | refine RetQ.ok ?_ | refine RetQ.err ?_)); (try walk_at "fold")))
  k_with "call ref" => (((with_reducible show wpAny _ _ (call (Value.ref 198) _) _ _ _); k_here; (with_reducible refine call_R ?_); k_dflt (refine' c_is_leaf ?q0C ?q0he ?q0hd ?q0hu ?_; (case q0C => walk_at "ctx"); (case q0he => first | assumption | walk_at "fact"); (case q0hd => walk_at "depth"); (case q0hu => walk_at "units"); k_whole); intro _ _ _ _ _; (try (first | refine RetQ.ok ?_ | refine RetQ.err ?_)); (try walk_at "fold")))
  k_with "call ref" => (((with_reducible show wpAny _ _ (call (Value.ref 205) _) _ _ _); k_here; (with_reducible refine call_R ?_); k_dflt (refine' c_is_sound ?q0C ?q0he ?q0hd ?q0hu ?_; (case q0C => walk_at "ctx"); (case q0he => first | assumption | walk_at "fact"); (case q0hd => walk_at "depth"); (case q0hu => walk_at "units"); k_whole); intro _ _ _ _ _; (try (first | refine RetQ.ok ?_ | refine RetQ.err ?_)); (try walk_at "fold")))
  k_with "call ref" => (((with_reducible show wpAny _ _ (call (Value.ref 212) _) _ _ _); k_here; (with_reducible refine call_R ?_); k_dflt (refine' c_may ?q0C ?q0he ?q0hd ?q0hu ?_; (case q0C => walk_at "ctx"); (case q0he => first | assumption | walk_at "fact"); (case q0hd => walk_at "depth"); (case q0hu => walk_at "units"); k_whole); intro _ _ _ _ _; (try (first | refine RetQ.ok ?_ | refine RetQ.err ?_)); (try walk_at "fold")))
  k_with "call ref" => (((with_reducible show wpAny _ _ (call (Value.ref 241) _) _ _ _); k_here; (with_reducible refine call_R ?_); k_dflt (refine' c_entry_at ?q0C ?q0Wa ?q0Bu ?q0M ?q0W ?q0hcv ?q0hp ?q0ha ?q0h4 ?q0hk ?q0had ?q0hd ?q0hu ?_ ?_; (case q0Wa => assumption); (case q0Bu => assumption); (case q0M => assumption); (case q0W => assumption); (case q0C => walk_at "ctx"); (case q0hcv => assumption); (case q0hp => first | assumption | walk_at "fact"); (case q0ha => first | assumption | walk_at "fact"); (case q0h4 => first | assumption | walk_at "fact"); (case q0hk => assumption); (case q0had => first | assumption | walk_at "fact"); (case q0hd => walk_at "depth"); (case q0hu => walk_at "units"); k_whole); rotate_left; (intro _ _ _ _ _ _ _ _ _ _; (try (first | refine RetQ.ok ?_ | refine RetQ.err ?_)); (try walk_at "fold")); rotate_left; (intro _ _ _ _ _ _ _; (try (first | refine RetQ.ok ?_ | refine RetQ.err ?_)); (try walk_at "fold"))))
  trivial
theorem c_mark {wal bus lay mem wd str : Addr} {pg : Int} {tt : Toks} {o : Obj} {c : List (Int × Int)} {rest : List (Addr × Obj)} {a ad e : Int} {t u v x1 : Tok} {k : Str} (C : Ctx w p loose mean mg mb A A₀ env outer base h₀ L s.heap m ((wd, o) :: rest)) (Wa : Has h₀ wal 266 (walF bus lay)) (Bu : Has h₀ bus 714 (busF mem str)) (M : Has h₀ mem 607 (memF pg wd tt)) (W : WD prog w wd o c) (hne : ∀ p ∈ rest, p.1 ≠ wd) (hc : c.length < 900) (hp : 16 ≤ pg ∧ pg ≤ 256) (ha : 0 ≤ a ∧ a + 4 ≤ 4 * pg) (h4 : a.fmod 4 = 0) (he : 0 ≤ e ∧ e < 65536) (had : 0 ≤ ad ∧ ad < 1000000000) (hk : KindIs k) (hd : A.depth ≤ 590) (hu : A.units ≤ 5900)
  (hR : ∀ h' tk o', let st' : Shared := { s with heap := h', toks := tk }; Fr h₀ L h' m → News h₀ L h' ((wd, o') :: rest) → WD prog w wd o' (markC c (a.fdiv 4) e k) → R (.ok (.ret (.none))) st') :
    codeAny (model prog w) A (.call (.ref 255) ⟨[.ref wal, .int a t, .int e u, .int ad v, .str k x1], []⟩) R s := by
  refine' enter [("self", .ref wal), ("place", .int a t), ("entry", .int e u), ("address", .int ad v), ("kind", .str k x1)] C ?k6 ?k7 ?k8 ?k9 ?kB ?c2 ?c3 ?c4 ?c5 ?_
  walk_at "entered"
  case k9 => walk_at "binds"
  obtain ⟨B, F, X, N, T, hA, hf, hke, hh⟩ := C
  intro g' L' h' tk' FG F' N' B' X' T'
  replace Wa := Wa.keeps FG.keep
  replace Bu := Bu.keeps FG.keep
  replace M := M.keeps FG.keep
  try dsimp only
  refine foldEnter (f := execs) F' ?_
  clear F'
  intro M9 en9 A9 m9 qk ek st9 F'
  try clear N
  have hm := mark_lt (k := k) he
  by_cases hq : (k == Str.ofString "store") = true
  · rw [mark_t hq] at hm
    k_steps
    · refine' hR _ _ _ ?F ?N ?W
      case F => k_asm
      case N => k_asm
      case W => rw [markC_ne (by rw [mark_t hq]; assumption), mark_t hq]; assumption
    · refine' hR _ _ _ ?F ?N ?W
      case F => k_asm
      case N => k_asm
      case W => rw [markC_eq (by rw [mark_t hq]; assumption)]; assumption
  · rw [mark_f (by simpa using hq)] at hm
    k_steps
    · refine' hR _ _ _ ?F ?N ?W
      case F => k_asm
      case N => k_asm
      case W => rw [markC_ne (by rw [mark_f (by simpa using hq)]; assumption), mark_f (by simpa using hq)]; assumption
    · refine' hR _ _ _ ?F ?N ?W
      case F => k_asm
      case N => k_asm
      case W => rw [markC_eq (by rw [mark_f (by simpa using hq)]; assumption)]; assumption
theorem rows_at_49 : True := by
  k_with "call ref" => (((with_reducible show wpAny _ _ (call (Value.ref 255) _) _ _ _); k_here; (with_reducible refine call_R ?_); k_dflt (refine' c_mark ?q0C ?q0Wa ?q0Bu ?q0M ?q0W ?q0hne ?q0hc ?q0hp ?q0ha ?q0h4 ?q0he ?q0had ?q0hk ?q0hd ?q0hu ?_; (case q0Wa => assumption); (case q0Bu => assumption); (case q0M => assumption); (case q0W => assumption); (case q0C => walk_at "ctx"); (case q0hne => walk_at "apart"); (case q0hc => first | assumption | walk_at "fact"); (case q0hp => first | assumption | walk_at "fact"); (case q0ha => first | assumption | walk_at "fact"); (case q0h4 => first | assumption | walk_at "fact"); (case q0he => first | assumption | walk_at "fact"); (case q0had => first | assumption | walk_at "fact"); (case q0hk => assumption); (case q0hd => walk_at "depth"); (case q0hu => walk_at "units"); k_whole); intro _ _ _ _ _ _ _; (try (first | refine RetQ.ok ?_ | refine RetQ.err ?_)); (try walk_at "fold")))
  trivial
theorem c_large_page {wal bus lay mem wd str : Addr} {b pg en lg ed : Int} {tl tt : Toks} {o : Obj} {c : List (Int × Int)} {rest : List (Addr × Obj)} {a ad e mode sm mx : Int} {t u v x1 x2 x3 x4 : Tok} {k : Str} (C : Ctx w p loose mean mg mb A A₀ env outer base h₀ L s.heap m ((wd, o) :: rest)) (Wa : Has h₀ wal 266 (walF bus lay)) (D : Has h₀ lay 182 (layF b pg en lg ed tl)) (ln : LayN b pg en lg ed) (Bu : Has h₀ bus 714 (busF mem str)) (M : Has h₀ mem 607 (memF pg wd tt)) (W : WD prog w wd o c) (hne : ∀ p ∈ rest, p.1 ≠ wd) (hc : c.length < 900) (ha : 0 ≤ a ∧ a + 4 ≤ 4 * pg) (h4 : a.fmod 4 = 0) (he : 0 ≤ e ∧ e < 65536) (had : 0 ≤ ad ∧ ad < 1000000000) (hk : KindIs k) (hd : A.depth ≤ 580) (hu : A.units ≤ 5800)
  (hR : ∀ h' tk t' o', let st' : Shared := { s with heap := h', toks := tk }; Fr h₀ L h' m → News h₀ L h' ((wd, o') :: rest) → okL b lg e k mode sm mx = true → WD prog w wd o' (markC c (a.fdiv 4) e k) → R (.ok (.ret (.int (Builtin.bitOr (physS b e) (Builtin.bitAnd ad (lg - 1))) t'))) st')
  (hE : ∀ h' tk g' (xe xd : Addr) (xD : Obj), okL b lg e k mode sm mx = false → TrapD (pfS k) (ad) xD → Fr h₀ L g' m → Thr base g' (env :: outer) xe 103 (some xd) ((xd, xD) :: ((wd, o) :: rest)) h' → R (.error (.ref xe)) { s with heap := h', toks := tk }) :
    codeAny (model prog w) A (.call (.ref 248) ⟨[.ref wal, .int a t, .int e u, .int ad v, .str k x1, .int mode x2, .int sm x3, .int mx x4], []⟩) R s := by
  refine' enter [("self", .ref wal), ("place", .int a t), ("entry", .int e u), ("address", .int ad v), ("kind", .str k x1), ("mode", .int mode x2), ("sum_bit", .int sm x3), ("mxr", .int mx x4)] C ?k6 ?k7 ?k8 ?k9 ?kB ?c2 ?c3 ?c4 ?c5 ?_
  walk_at "entered"
  case k9 => walk_at "binds"
  obtain ⟨B, F, X, N, T, hA, hf, hke, hh⟩ := C
  intro g' L' h' tk' FG F' N' B' X' T'
  replace Wa := Wa.keeps FG.keep
  replace D := D.keeps FG.keep
  replace Bu := Bu.keeps FG.keep
  replace M := M.keeps FG.keep
  try dsimp only
  refine foldEnter (f := execs) F' ?_
  clear F'
  intro M9 en9 A9 m9 qk ek st9 F'
  try clear N
  obtain ⟨hb, hp, hen, hlg, hed⟩ := layN_b ln
  k_steps
  all_goals first | exact hE _ _ _ _ _ _ (okL_f1 (by assumption)) TrapD.mk' FG (by assumption) | exact hE _ _ _ _ _ _ (okL_f2 (by assumption)) TrapD.mk' FG (by assumption) | (refine' hR _ _ _ _ ?F ?N ?k ?W; (case F => k_asm); (case N => k_asm); (case k => exact okL_t (by assumption) (by assumption)); (case W => assumption))
theorem rows_at_50 : True := by
  k_with "call ref" => (((with_reducible show wpAny _ _ (call (Value.ref 248) _) _ _ _); k_here; (with_reducible refine call_R ?_); k_dflt (refine' c_large_page ?q0C ?q0Wa ?q0D ?q0ln ?q0Bu ?q0M ?q0W ?q0hne ?q0hc ?q0ha ?q0h4 ?q0he ?q0had ?q0hk ?q0hd ?q0hu ?_ ?_; (case q0Wa => assumption); (case q0D => assumption); (case q0Bu => assumption); (case q0M => assumption); (case q0W => assumption); (case q0C => walk_at "ctx"); (case q0ln => assumption); (case q0hne => walk_at "apart"); (case q0hc => first | assumption | walk_at "fact"); (case q0ha => first | assumption | walk_at "fact"); (case q0h4 => first | assumption | walk_at "fact"); (case q0he => first | assumption | walk_at "fact"); (case q0had => first | assumption | walk_at "fact"); (case q0hk => assumption); (case q0hd => walk_at "depth"); (case q0hu => walk_at "units"); k_whole); rotate_left; (intro _ _ _ _ _ _ _ _ _ _; (try (first | refine RetQ.ok ?_ | refine RetQ.err ?_)); (try walk_at "fold")); rotate_left; (intro _ _ _ _ _ _ _ _ _; (try (first | refine RetQ.ok ?_ | refine RetQ.err ?_)); (try walk_at "fold"))))
  trivial
end
end Mine
end W6
section W9b
open PySem PySem.W PyProof.Rows PySem.Calls PySem.Spec PyProof.V
set_option maxRecDepth 100000
set_option maxHeartbeats 8000000
set_option autoImplicit false
namespace Mine

theorem rows_at_51 : True := by
  k_with_none
  k_with "ctx" => ((refine' Ctx.mk ?q0B ?q0F ?q0X ?q0N ?q0T ?q0a ?q0f ?q0k ?q0h; (case q0B => k_asm); (case q0F => k_asm); (case q0X => k_asm); (case q0N => first | k_asm | exact news_swap1 (by k_asm) | exact news_swap2 (by k_asm) | exact news_swap3 (by k_asm)); (case q0T => k_asm); (case q0a => first | assumption | exact Around.frames_deeper (Below.stack (by assumption))); (case q0f => first | assumption | exact rfl); (case q0k => first | assumption | exact rfl); (case q0h => first | assumption | exact rfl)))
  k_with "getAttr ref" => ((k_here; k_dflt (refine' own_get ?q0D ?q0F ?q0X ?q0a ?q0b ?q0c ?q0d ?q0l ?q0v ?_; (case q0D => assumption); (case q0F => k_asm); (case q0X => k_asm); (case q0a => k_is); (case q0b => k_is); (case q0c => k_is); (case q0d => k_is); (case q0l => intro _ _; k_get); (case q0v => k_handed); k_whole)))
  k_with "getMethod ref" => ((k_here; k_dflt (refine' own_meth ?q0D ?q0F ?q0X ?q0a ?q0b ?q0c ?q0l ?_; (case q0D => assumption); (case q0F => k_asm); (case q0X => k_asm); (case q0a => k_is); (case q0b => k_is); (case q0c => k_is); (case q0l => intro _ _; k_get); k_whole)))
  k_with "getMethod ref" => ((k_here; (with_reducible show wpAny _ _ (getMethod (Value.ref _) (PySem.Str.ofString "get") _) _ _ _); k_dflt (refine' w_getm ?q0W ?q0N ?q0p ?_; (case q0W => assumption); (case q0N => k_asm); (case q0p => k_mem); k_whole)))
  k_with "getMethod ref" => ((k_here; (with_reducible show wpAny _ _ (getMethod (Value.ref _) (PySem.Str.ofString "pop") _) _ _ _); k_dflt (refine' w_popm ?q0W ?q0N ?q0p ?_; (case q0W => assumption); (case q0N => k_asm); (case q0p => k_mem); k_whole)))
  k_with "call builtin:dict.get" => ((k_here; k_dflt (refine' w_get ?q0W ?q0N ?q0p ?_; (case q0W => assumption); (case q0N => k_asm); (case q0p => k_mem); k_whole); intro _))
  k_with "call builtin:dict.pop" => ((k_here; k_dflt (refine' w_pop ?q0W ?q0F ?q0N ?q0p ?q0U ?_; (case q0W => assumption); (case q0F => k_asm); (case q0N => k_asm); (case q0p => k_mem); (case q0U => (first | (refine UpdF.head ?_; assumption) | k_updF)); k_whole); intro _ _ _ _ N'; (try dsimp only at N'); (try (revert N'; intro _)); intro _))
  k_with "setItem ref int" => ((k_here; k_dflt (refine' w_set ?q0W ?q0F ?q0N ?q0U ?q0c ?_; (case q0W => assumption); (case q0F => k_asm); (case q0N => k_asm); (case q0U => (first | (refine UpdF.head ?_; assumption) | k_updF)); (case q0c => first | assumption | omega); k_whole); intro _ _ _ N'; (try dsimp only at N'); (try (revert N'; intro _)); intro _))
  k_with "depth" => (first | exact dp1 (by assumption) rfl | exact dp2 (by assumption) rfl | ((simp +zetaDelta only [depth_mark, depth_under_make, depth_under_kw, depth_in1, depth_deeper, depth_caller]); omega))
  k_with "units" => (first | exact up1 (by assumption) rfl | exact up2 (by assumption) rfl | ((simp +zetaDelta only [units_in1, units_deeper, Around.mark_units, units_caller]); omega))
  k_with "apart" => (first | assumption | exact List.forall_mem_cons.mpr ⟨by k_ne, by assumption⟩ | exact List.forall_mem_cons.mpr ⟨by k_ne, List.forall_mem_cons.mpr ⟨by k_ne, by assumption⟩⟩)
  k_with "fact" => (omega)
  k_with "entered" => ((k_dflt ((case k6 => k_is); (case k7 => k_is); (case k8 => walk_at "room"); (case c5 => decide); (case kB => exact locs rfl); (case c2 => exact rfl); (case c3 => exact rfl); (case c4 => exact rfl))))
  k_with "binds" => ((k_dflt (exact BindsTo.of_eq (by kernel_rfl))))
  k_with "dbinds" => ((k_dflt (exact binds_K (Frag.In.keeps (Ctx.X (by assumption)) (Fr.keep (Ctx.F (by assumption)))) rfl (by k_is) rfl rfl (by kernel_rfl))))
  k_with "room" => (((simp only [rl_is]); omega))
  k_with "assign Tuple" => ((k_here; (with_reducible show wpAny _ _ (assign (Expr.Tuple _ _ _) _ (Value.ref _)) _ _ _); k_dflt (refine' unpackN_ ?q0k1 ?q0k2 ?q0k3 ?q0k4 ?q0k5 ?q0k6 ?_; (case q0k1 => k_asm); (case q0k2 => k_asm); (case q0k3 => exact News.isTup (by k_asm) (by k_mem)); (case q0k4 => first | assumption | exact rfl); (case q0k5 => exact rfl); (case q0k6 => exact rfl); k_whole); intro _ _ _; (try k_sweep)))
  k_with "unpackItems ref" => ((k_here; k_dflt (refine' unpackItemsN_ ?q0k1 ?q0k2 ?q0k3 ?q0k4 ?q0k5 ?_; (case q0k1 => k_asm); (case q0k2 => k_asm); (case q0k3 => kun_tup); (case q0k4 => first | assumption | exact rfl); (case q0k5 => exact rfl); k_whole); intro _ _ _; (try k_sweep)))
  k_with "fold" => (((fail_if_success (fail_if_success k_fold)); refine foldQ ?_; intro _))
  k_with "foldS" => (((fail_if_success (fail_if_success k_fold)); refine foldQS ?_; intro _ _))
  k_with "foldE" => (((fail_if_success (fail_if_success (refine swapT ⟨?_, ?_⟩; k_fold))); refine foldEE ?_; intro _))
  trivial

theorem rows_at_52 : True := by
  k_with "eval Name" => ((k_here; k_dflt (refine' nmL ?q0F ?q0v ?_ ?q0L ?q0x; (case q0x => rfl); (case q0F => k_asm); (case q0L => rfl); (case q0v => rfl); k_whole)))
  k_with "storeName" => ((k_here; k_dflt (refine' stL ?q0F ?q0N ?_ ?q0L ?q0x; (case q0x => rfl); (case q0F => k_asm); (case q0L => rfl); (case q0N => k_asm); k_whole; intro _ _ _ _ _ _; (try k_sweep))))
  trivial
section
variable {prog : Program} {w : World} {p : Program} {loose : List Str} {mean : ExcName → Option Value} {mg mb : Str → Option Value} {A A₀ : Around} {env : Env} {outer : List Env} {base h₀ : Heap} {L : Addr} {m : Str → Option Value} {s : Shared} {news : List (Addr × Obj)} {R : Result → Shared → Prop}
theorem rows_at_53 : True := by
  k_with "call ref" => (((with_reducible show wpAny _ _ (call (Value.ref 473) _) _ _ _); k_here; (with_reducible refine call_R ?_); k_dflt (refine' c_need_aligned ?q0C ?q0M ?q0hp ?q0ha ?q0h4 ?q0hd ?q0hu ?_; (case q0M => assumption); (case q0C => walk_at "ctx"); (case q0hp => first | assumption | walk_at "fact"); (case q0ha => first | assumption | walk_at "fact"); (case q0h4 => first | assumption | walk_at "fact"); (case q0hd => walk_at "depth"); (case q0hu => walk_at "units"); k_whole); intro _ _ _ _ _; (try (first | refine RetQ.ok ?_ | refine RetQ.err ?_)); (try walk_at "fold")))
  k_with "call ref" => (((with_reducible show wpAny _ _ (call (Value.ref 494) _) _ _ _); k_here; (with_reducible refine call_R ?_); k_dflt (refine' c_keep ?q0C ?q0M ?q0W ?q0hne ?q0hc ?q0hd ?q0hu ?_; (case q0M => assumption); (case q0W => assumption); (case q0C => walk_at "ctx"); (case q0hne => walk_at "apart"); (case q0hc => first | assumption | walk_at "fact"); (case q0hd => walk_at "depth"); (case q0hu => walk_at "units"); k_whole); intro _ _ _ _ _ _ _; (try (first | refine RetQ.ok ?_ | refine RetQ.err ?_)); (try walk_at "fold")))
  k_with "call ref" => (((with_reducible show wpAny _ _ (call (Value.ref 480) _) _ _ _); k_here; (with_reducible refine call_R ?_); k_dflt (refine' c_word ?q0C ?q0M ?q0W ?q0hp ?q0ha ?q0h4 ?q0hd ?q0hu ?_; (case q0M => assumption); (case q0W => assumption); (case q0C => walk_at "ctx"); (case q0hp => first | assumption | walk_at "fact"); (case q0ha => first | assumption | walk_at "fact"); (case q0h4 => first | assumption | walk_at "fact"); (case q0hd => walk_at "depth"); (case q0hu => walk_at "units"); k_whole); intro _ _ _ _ _ _; (try (first | refine RetQ.ok ?_ | refine RetQ.err ?_)); (try walk_at "fold")))
  k_with "call ref" => (((with_reducible show wpAny _ _ (call (Value.ref 487) _) _ _ _); k_here; (with_reducible refine call_R ?_); k_dflt (refine' c_put_word ?q0C ?q0M ?q0W ?q0hne ?q0hc ?q0hp ?q0ha ?q0h4 ?q0hv ?q0hd ?q0hu ?_; (case q0M => assumption); (case q0W => assumption); (case q0C => walk_at "ctx"); (case q0hne => walk_at "apart"); (case q0hc => first | assumption | walk_at "fact"); (case q0hp => first | assumption | walk_at "fact"); (case q0ha => first | assumption | walk_at "fact"); (case q0h4 => first | assumption | walk_at "fact"); (case q0hv => first | assumption | walk_at "fact"); (case q0hd => walk_at "depth"); (case q0hu => walk_at "units"); k_whole); intro _ _ _ _ _ _ _; (try (first | refine RetQ.ok ?_ | refine RetQ.err ?_)); (try walk_at "fold")))
  k_with "call ref" => (((with_reducible show wpAny _ _ (call (Value.ref 129) _) _ _ _); k_here; (with_reducible refine call_R ?_); k_dflt (refine' c_parts_in ?q0C ?q0D ?q0ln ?q0ha ?q0hd ?q0hu ?_; (case q0D => assumption); (case q0C => walk_at "ctx"); (case q0ln => assumption); (case q0ha => first | assumption | walk_at "fact"); (case q0hd => walk_at "depth"); (case q0hu => walk_at "units"); k_whole); intro _ _ _ _ _ _ _ _ _ _ l1'; (try k_lt l1'); (try (revert l1'; intro _)); (try (first | refine RetQ.ok ?_ | refine RetQ.err ?_)); (try walk_at "fold")))
  k_with "call ref" => (((with_reducible show wpAny _ _ (call (Value.ref 129) _) _ _ _); k_here; (with_reducible refine call_R ?_); k_dflt (refine' c_parts_out ?q0C ?q0D ?q0ln ?q0ha ?q0hd ?q0hu ?_; (case q0D => assumption); (case q0C => walk_at "ctx"); (case q0ln => assumption); (case q0ha => first | assumption | walk_at "fact"); (case q0hd => walk_at "depth"); (case q0hu => walk_at "units"); k_whole); intro _ _ _ _ _; (try (first | refine RetQ.ok ?_ | refine RetQ.err ?_)); (try walk_at "fold")))
  k_with "call ref" => (((with_reducible show wpAny _ _ (call (Value.ref 137) _) _ _ _); k_here; (with_reducible refine call_R ?_); k_dflt (refine' c_address ?q0C ?q0D ?q0ln ?q0hf1 ?q0hg1 ?q0hq1 ?q0hd ?q0hu ?_; (case q0D => assumption); (case q0C => walk_at "ctx"); (case q0ln => assumption); (case q0hf1 => first | assumption | walk_at "fact"); (case q0hg1 => first | assumption | walk_at "fact"); (case q0hq1 => first | assumption | walk_at "fact"); (case q0hd => walk_at "depth"); (case q0hu => walk_at "units"); k_whole); intro _ _ _ _ _ _; (try (first | refine RetQ.ok ?_ | refine RetQ.err ?_)); (try walk_at "fold")))
  k_with "call ref" => (((with_reducible show wpAny _ _ (call (Value.ref 144) _) _ _ _); k_here; (with_reducible refine call_R ?_); k_dflt (refine' c_down ?q0C ?q0D ?q0ln ?q0ha ?q0hd ?q0hu ?_; (case q0D => assumption); (case q0C => walk_at "ctx"); (case q0ln => assumption); (case q0ha => first | assumption | walk_at "fact"); (case q0hd => walk_at "depth"); (case q0hu => walk_at "units"); k_whole); intro _ _ _ _ _ _; (try (first | refine RetQ.ok ?_ | refine RetQ.err ?_)); (try walk_at "fold")))
  k_with "call ref" => (((with_reducible show wpAny _ _ (call (Value.ref 158) _) _ _ _); k_here; (with_reducible refine call_R ?_); k_dflt (refine' c_is_begin ?q0C ?q0D ?q0ln ?q0ha ?q0hd ?q0hu ?_; (case q0D => assumption); (case q0C => walk_at "ctx"); (case q0ln => assumption); (case q0ha => first | assumption | walk_at "fact"); (case q0hd => walk_at "depth"); (case q0hu => walk_at "units"); k_whole); intro _ _ _ _ _; (try (first | refine RetQ.ok ?_ | refine RetQ.err ?_)); (try walk_at "fold")))
  k_with "call ref" => (((with_reducible show wpAny _ _ (call (Value.ref 172) _) _ _ _); k_here; (with_reducible refine call_R ?_); k_dflt (refine' c_lentry ?q0C ?q0D ?q0ln ?q0ha ?q0hf1 ?q0hd ?q0hu ?_; (case q0D => assumption); (case q0C => walk_at "ctx"); (case q0ln => assumption); (case q0ha => first | assumption | walk_at "fact"); (case q0hf1 => first | assumption | walk_at "fact"); (case q0hd => walk_at "depth"); (case q0hu => walk_at "units"); k_whole); intro _ _ _ _ _ _; (try (first | refine RetQ.ok ?_ | refine RetQ.err ?_)); (try walk_at "fold")))
  k_with "call ref" => (((with_reducible show wpAny _ _ (call (Value.ref 179) _) _ _ _); k_here; (with_reducible refine call_R ?_); k_dflt (refine' c_lphysical ?q0C ?q0D ?q0ln ?q0he ?q0hd ?q0hu ?_; (case q0D => assumption); (case q0C => walk_at "ctx"); (case q0ln => assumption); (case q0he => first | assumption | walk_at "fact"); (case q0hd => walk_at "depth"); (case q0hu => walk_at "units"); k_whole); intro _ _ _ _ _ _; (try (first | refine RetQ.ok ?_ | refine RetQ.err ?_)); (try walk_at "fold")))
  k_with "call ref" => (((with_reducible show wpAny _ _ (call (Value.ref 198) _) _ _ _); k_here; (with_reducible refine call_R ?_); k_dflt (refine' c_is_leaf ?q0C ?q0he ?q0hd ?q0hu ?_; (case q0C => walk_at "ctx"); (case q0he => first | assumption | walk_at "fact"); (case q0hd => walk_at "depth"); (case q0hu => walk_at "units"); k_whole); intro _ _ _ _ _; (try (first | refine RetQ.ok ?_ | refine RetQ.err ?_)); (try walk_at "fold")))
  k_with "call ref" => (((with_reducible show wpAny _ _ (call (Value.ref 205) _) _ _ _); k_here; (with_reducible refine call_R ?_); k_dflt (refine' c_is_sound ?q0C ?q0he ?q0hd ?q0hu ?_; (case q0C => walk_at "ctx"); (case q0he => first | assumption | walk_at "fact"); (case q0hd => walk_at "depth"); (case q0hu => walk_at "units"); k_whole); intro _ _ _ _ _; (try (first | refine RetQ.ok ?_ | refine RetQ.err ?_)); (try walk_at "fold")))
  k_with "call ref" => (((with_reducible show wpAny _ _ (call (Value.ref 212) _) _ _ _); k_here; (with_reducible refine call_R ?_); k_dflt (refine' c_may ?q0C ?q0he ?q0hd ?q0hu ?_; (case q0C => walk_at "ctx"); (case q0he => first | assumption | walk_at "fact"); (case q0hd => walk_at "depth"); (case q0hu => walk_at "units"); k_whole); intro _ _ _ _ _; (try (first | refine RetQ.ok ?_ | refine RetQ.err ?_)); (try walk_at "fold")))
  k_with "call ref" => (((with_reducible show wpAny _ _ (call (Value.ref 298) _) _ _ _); k_here; (with_reducible refine call_R ?_); k_dflt (refine' c_need_parts ?q0C ?q0Ta ?q0D ?q0ln ?q0ine ?q0hd ?q0hu ?_; (case q0Ta => assumption); (case q0D => assumption); (case q0C => walk_at "ctx"); (case q0ln => assumption); (case q0ine => first | assumption | walk_at "fact"); (case q0hd => walk_at "depth"); (case q0hu => walk_at "units"); k_whole); intro _ _ _ _ _ _ _ _ _ _ _; (try (first | refine RetQ.ok ?_ | refine RetQ.err ?_)); (try walk_at "fold")))
  k_with "call ref" => (((with_reducible show wpAny _ _ (call (Value.ref 327) _) _ _ _); k_here; (with_reducible refine call_R ?_); k_dflt (refine' c_need_flags ?q0C ?q0hfl ?q0hd ?q0hu ?_ ?_; (case q0C => walk_at "ctx"); (case q0hfl => first | assumption | walk_at "fact"); (case q0hd => walk_at "depth"); (case q0hu => walk_at "units"); k_whole); (intro _ _ _ _ _ _; (try (first | refine RetQ.ok ?_ | refine RetQ.err ?_)); (try walk_at "fold")); rotate_left; (intro _ _ _ _ _ _ _ _ _; (try (first | refine RetQ.ok ?_ | refine RetQ.err ?_)); (try walk_at "fold")); rotate_left))
  k_with "exec Raise some none" => ((k_here; (k_dflt (refine' raise_arg ?q0h ?_; (case q0h => first | assumption | exact rfl))); (try dsimp only)))
  k_with "call ref" => (((with_reducible show wpAny _ _ (call (Value.ref 52) _) _ _ _); k_here; (with_reducible refine wpAny_call ?_); k_dflt (refine' c_mkarg ?q0C ?q0d ?q0u ?_; (case q0C => walk_at "ctx"); (case q0d => walk_at "depth"); (case q0u => walk_at "units"); k_whole); intro _ _ _ _ _ _ _ _ _ _ _ _ _ _; (try dsimp only)))
  k_with "Exists" => (((with_reducible show ∃ e t dx, _ = _ ∧ _); refine' ⟨_, _, _, rfl, ?q0X, ?q0e, ?_⟩; (case q0X => exact Frag.In.keeps (by k_asm) (Fr.keep (by k_asm))); (case q0e => exact (News.get (by k_asm) (List.Mem.tail _ (List.Mem.head _)))); (try dsimp only)))
  k_with "leaving ref" => ((k_here; k_dflt (first | (refine' leave_onD ?q0K ?q0F ?q0R ?_; (case q0K => k_asm); (case q0R => assumption); (case q0F => assumption); intro _ _) | (refine' leaveT0 ?q0K ?q0F ?q0N ?q0a ?q0b ?q0c ?q0d ?_; (case q0K => k_asm); (case q0F => k_asm); (case q0N => k_asm); (case q0a => assumption); (case q0b => assumption); (case q0c => assumption); (case q0d => assumption); intro _ _)); (try dsimp only)))
  k_with "fact" => (first | exact (p2 (v1_t (by assumption)) (by assumption)).1 | exact (p2 (v1_t (by assumption)) (by assumption)).2 | exact (p2 (by assumption) (by assumption)).1 | exact (p2 (by assumption) (by assumption)).2)
  trivial
theorem c_walk {tab mem lay pgs wd : Addr} {b pg en lg ed : Int} {tl tt : Toks} {o : Obj} {c : List (Int × Int)} {rest : List (Addr × Obj)} {ad : Int} {t u : Tok} (C : Ctx w p loose mean mg mb A A₀ env outer base h₀ L s.heap m ((wd, o) :: rest)) (Ta : Has h₀ tab 418 (tabF mem lay pgs)) (D : Has h₀ lay 182 (layF b pg en lg ed tl)) (ln : LayN b pg en lg ed) (M : Has h₀ mem 607 (memF pg wd tt)) (W : WD prog w wd o c) (hcv : ∀ i, 0 ≤ kdfLook c i 0 ∧ kdfLook c i 0 < 65536) (ine : 0 ≤ ad ∧ ad < ed) (p1 : 0 ≤ p1S b ad ∧ p1S b ad + 4 ≤ 4 * pg) (p1m : (p1S b ad).fmod 4 = 0) (hd : A.depth ≤ 590) (hu : A.units ≤ 5900)
  (hN : ∀ h' tk, let st' : Shared := { s with heap := h', toks := tk }; Fr h₀ L h' m → News h₀ L h' ((wd, o) :: rest) → v1S (e1S b ad c) = false → R (.ok (.ret (.none))) st')
  (hR : ∀ h' tk t', let st' : Shared := { s with heap := h', toks := tk }; Fr h₀ L h' m → News h₀ L h' ((wd, o) :: rest) → v1S (e1S b ad c) = true → leafS (e1S b ad c) = false → R (.ok (.ret (.int (p2S b en ad c) t'))) st')
  (hE : ∀ h' tk g' (xe xd : Addr) (xD : Obj), v1S (e1S b ad c) = true → leafS (e1S b ad c) = true → Fr h₀ L g' m → Thr base g' (env :: outer) xe 52 (some xd) ((xd, xD) :: ((wd, o) :: rest)) h' → R (.error (.ref xe)) { s with heap := h', toks := tk }) :
    codeAny (model prog w) A (.call (.ref 306) ⟨[.ref tab, .int 0 t, .int ad u], []⟩) R s := by
  refine' enter [("self", .ref tab), ("root", .int 0 t), ("address", .int ad u), ("make", .bool false)] C ?k6 ?k7 ?k8 ?k9 ?kB ?c2 ?c3 ?c4 ?c5 ?_
  walk_at "entered"
  case k9 => walk_at "dbinds"
  obtain ⟨B, F, X, N, T, hA, hf, hke, hh⟩ := C
  intro g' L' h' tk' FG F' N' B' X' T'
  replace Ta := Ta.keeps FG.keep
  replace D := D.keeps FG.keep
  replace M := M.keeps FG.keep
  try dsimp only
  refine foldEnter (f := execs) F' ?_
  clear F'
  intro M9 en9 A9 m9 qk ek st9 F'
  try clear N
  obtain ⟨hb, hp, hen, hlg, hed⟩ := layN_b ln
  have v1 := hcv ((p1S b ad).fdiv 4)
  have v2 := hcv ((p2S b en ad c).fdiv 4)
  k_steps
  all_goals first
    | (refine' hE _ _ _ _ _ _ (v1_t (by assumption)) (by assumption) FG ?R
       case R => first | assumption | exact Thr.sub (by assumption) sub2 | exact Thr.sub (by assumption) sub3 | exact Thr.sub (by assumption) sub5 | exact Thr.sub (by assumption) sub6)
    | (refine' hN _ _ ?F ?N (v1_f (by assumption))
       case F => k_asm
       case N => first | k_asm | exact News.sub (by k_asm) sub1 | exact News.sub (by k_asm) sub2)
    | (refine' hR _ _ _ ?F ?N (v1_t (by assumption)) (by assumption)
       case F => k_asm
       case N => first | k_asm | exact News.sub (by k_asm) sub1 | exact News.sub (by k_asm) sub2)
theorem rows_at_54 : True := by
  k_with "call ref" => (((with_reducible show wpAny _ _ (call (Value.ref 306) _) _ _ _); k_here; (with_reducible refine call_R ?_); k_dflt (refine' c_walk ?q0C ?q0Ta ?q0D ?q0ln ?q0M ?q0W ?q0hcv ?q0ine ?q0p1 ?q0p1m ?q0hd ?q0hu ?_ ?_ ?_; (case q0Ta => assumption); (case q0D => assumption); (case q0M => assumption); (case q0W => assumption); (case q0C => walk_at "ctx"); (case q0ln => assumption); (case q0hcv => assumption); (case q0ine => first | assumption | walk_at "fact"); (case q0p1 => first | assumption | walk_at "fact"); (case q0p1m => first | assumption | walk_at "fact"); (case q0hd => walk_at "depth"); (case q0hu => walk_at "units"); k_whole); (intro _ _ _ _ _ _; (try (first | refine RetQ.ok ?_ | refine RetQ.err ?_)); (try walk_at "fold")); rotate_left; (intro _ _ _ _ _ _ _ _; (try (first | refine RetQ.ok ?_ | refine RetQ.err ?_)); (try walk_at "fold")); rotate_left; (intro _ _ _ _ _ _ _ _ _ _; (try (first | refine RetQ.ok ?_ | refine RetQ.err ?_)); (try walk_at "fold")); rotate_left))
  trivial
theorem c_entry {tab mem lay pgs wd : Addr} {b pg en lg ed : Int} {tl tt : Toks} {o : Obj} {c : List (Int × Int)} {rest : List (Addr × Obj)} {ad : Int} {t u : Tok} (C : Ctx w p loose mean mg mb A A₀ env outer base h₀ L s.heap m ((wd, o) :: rest)) (Ta : Has h₀ tab 418 (tabF mem lay pgs)) (D : Has h₀ lay 182 (layF b pg en lg ed tl)) (ln : LayN b pg en lg ed) (M : Has h₀ mem 607 (memF pg wd tt)) (W : WD prog w wd o c) (hcv : ∀ i, 0 ≤ kdfLook c i 0 ∧ kdfLook c i 0 < 65536) (ine : 0 ≤ ad ∧ ad < ed) (p1 : 0 ≤ p1S b ad ∧ p1S b ad + 4 ≤ 4 * pg) (p1m : (p1S b ad).fmod 4 = 0) (p2 : v1S (e1S b ad c) = true → leafS (e1S b ad c) = false → (0 ≤ p2S b en ad c ∧ p2S b en ad c + 4 ≤ 4 * pg) ∧ (p2S b en ad c).fmod 4 = 0) (hd : A.depth ≤ 590) (hu : A.units ≤ 5900)
  (hR : ∀ h' tk (v' : Int) (t' : Tok), let st' : Shared := { s with heap := h', toks := tk }; Fr h₀ L h' m → News h₀ L h' ((wd, o) :: rest) → v' = enS b en ad c → R (.ok (.ret (.int v' t'))) st') :
    codeAny (model prog w) A (.call (.ref 313) ⟨[.ref tab, .int 0 t, .int ad u], []⟩) R s := by
  refine' enter [("self", .ref tab), ("root", .int 0 t), ("address", .int ad u)] C ?k6 ?k7 ?k8 ?k9 ?kB ?c2 ?c3 ?c4 ?c5 ?_
  walk_at "entered"
  case k9 => walk_at "binds"
  obtain ⟨B, F, X, N, T, hA, hf, hke, hh⟩ := C
  intro g' L' h' tk' FG F' N' B' X' T'
  replace Ta := Ta.keeps FG.keep
  replace D := D.keeps FG.keep
  replace M := M.keeps FG.keep
  try dsimp only
  refine foldEnter (f := execs) F' ?_
  clear F'
  intro M9 en9 A9 m9 qk ek st9 F'
  try clear N
  obtain ⟨hb, hp, hen, hlg, hed⟩ := layN_b ln
  have v1 := hcv ((p1S b ad).fdiv 4)
  have v2 := hcv ((p2S b en ad c).fdiv 4)
  k_steps
  all_goals first | contradiction | (refine' hR _ _ _ _ ?F ?N ?e; (case e => first | exact (en0 (v1_f (by assumption))).symm | exact (en1 (v1_t (by assumption)) (by assumption)).symm | exact (en2 (v1_t (by assumption)) (by assumption) (v1_t (by assumption))).symm | exact (en3 (v1_t (by assumption)) (by assumption) (v1_f (by assumption))).symm); (case F => k_asm); (case N => first | k_asm | exact News.sub (by k_asm) sub1 | exact News.sub (by k_asm) sub2))
theorem rows_at_55 : True := by
  k_with "call ref" => (((with_reducible show wpAny _ _ (call (Value.ref 313) _) _ _ _); k_here; (with_reducible refine call_R ?_); k_dflt (refine' c_entry ?q0C ?q0Ta ?q0D ?q0ln ?q0M ?q0W ?q0hcv ?q0ine ?q0p1 ?q0p1m ?q0p2 ?q0hd ?q0hu ?_; (case q0Ta => assumption); (case q0D => assumption); (case q0M => assumption); (case q0W => assumption); (case q0C => walk_at "ctx"); (case q0ln => assumption); (case q0hcv => assumption); (case q0ine => first | assumption | walk_at "fact"); (case q0p1 => first | assumption | walk_at "fact"); (case q0p1m => first | assumption | walk_at "fact"); (case q0p2 => first | assumption | walk_at "fact"); (case q0hd => walk_at "depth"); (case q0hu => walk_at "units"); k_whole); intro _ _ _ _ _ _ _ ve'; subst ve'; (try (first | refine RetQ.ok ?_ | refine RetQ.err ?_)); (try walk_at "fold")))
  trivial
end
end Mine
end W9b
section W13
open PySem PySem.W PyProof.Rows PySem.Calls PySem.Spec PyProof.V
set_option maxRecDepth 100000
set_option maxHeartbeats 8000000
set_option autoImplicit false
namespace Mine

theorem rows_at_56 : True := by
  k_with_none
  k_with "ctx" => ((refine' Ctx.mk ?q0B ?q0F ?q0X ?q0N ?q0T ?q0a ?q0f ?q0k ?q0h; (case q0B => k_asm); (case q0F => k_asm); (case q0X => k_asm); (case q0N => first | k_asm | exact news_swap1 (by k_asm) | exact news_swap2 (by k_asm) | exact news_swap3 (by k_asm)); (case q0T => k_asm); (case q0a => first | assumption | exact Around.frames_deeper (Below.stack (by assumption))); (case q0f => first | assumption | exact rfl); (case q0k => first | assumption | exact rfl); (case q0h => first | assumption | exact rfl)))
  k_with "getAttr ref" => ((k_here; k_dflt (refine' own_get ?q0D ?q0F ?q0X ?q0a ?q0b ?q0c ?q0d ?q0l ?q0v ?_; (case q0D => assumption); (case q0F => k_asm); (case q0X => k_asm); (case q0a => k_is); (case q0b => k_is); (case q0c => k_is); (case q0d => k_is); (case q0l => intro _ _; k_get); (case q0v => k_handed); k_whole)))
  k_with "getMethod ref" => ((k_here; k_dflt (refine' own_meth ?q0D ?q0F ?q0X ?q0a ?q0b ?q0c ?q0l ?_; (case q0D => assumption); (case q0F => k_asm); (case q0X => k_asm); (case q0a => k_is); (case q0b => k_is); (case q0c => k_is); (case q0l => intro _ _; k_get); k_whole)))
  k_with "getMethod ref" => ((k_here; (with_reducible show wpAny _ _ (getMethod (Value.ref _) (PySem.Str.ofString "get") _) _ _ _); k_dflt (refine' w_getm ?q0W ?q0N ?q0p ?_; (case q0W => assumption); (case q0N => k_asm); (case q0p => k_mem); k_whole)))
  k_with "getMethod ref" => ((k_here; (with_reducible show wpAny _ _ (getMethod (Value.ref _) (PySem.Str.ofString "pop") _) _ _ _); k_dflt (refine' w_popm ?q0W ?q0N ?q0p ?_; (case q0W => assumption); (case q0N => k_asm); (case q0p => k_mem); k_whole)))
  k_with "call builtin:dict.get" => ((k_here; k_dflt (refine' w_get ?q0W ?q0N ?q0p ?_; (case q0W => assumption); (case q0N => k_asm); (case q0p => k_mem); k_whole); intro _))
  k_with "call builtin:dict.pop" => ((k_here; k_dflt (refine' w_pop ?q0W ?q0F ?q0N ?q0p ?q0U ?_; (case q0W => assumption); (case q0F => k_asm); (case q0N => k_asm); (case q0p => k_mem); (case q0U => (first | (refine UpdF.head ?_; assumption) | k_updF)); k_whole); intro _ _ _ _ N'; (try dsimp only at N'); (try (revert N'; intro _)); intro _))
  k_with "setItem ref int" => ((k_here; k_dflt (refine' w_set ?q0W ?q0F ?q0N ?q0U ?q0c ?_; (case q0W => assumption); (case q0F => k_asm); (case q0N => k_asm); (case q0U => (first | (refine UpdF.head ?_; assumption) | k_updF)); (case q0c => first | assumption | omega); k_whole); intro _ _ _ N'; (try dsimp only at N'); (try (revert N'; intro _)); intro _))
  k_with "depth" => (first | exact dp1 (by assumption) rfl | exact dp2 (by assumption) rfl | ((simp +zetaDelta only [depth_mark, depth_under_make, depth_under_kw, depth_in1, depth_deeper, depth_caller]); omega))
  k_with "units" => (first | exact up1 (by assumption) rfl | exact up2 (by assumption) rfl | ((simp +zetaDelta only [units_in1, units_deeper, Around.mark_units, units_caller]); omega))
  k_with "apart" => (first | assumption | exact List.forall_mem_cons.mpr ⟨by k_ne, by assumption⟩ | exact List.forall_mem_cons.mpr ⟨by k_ne, List.forall_mem_cons.mpr ⟨by k_ne, by assumption⟩⟩)
  k_with "fact" => (omega)
  k_with "entered" => ((k_dflt ((case k6 => k_is); (case k7 => k_is); (case k8 => walk_at "room"); (case c5 => decide); (case kB => exact locs rfl); (case c2 => exact rfl); (case c3 => exact rfl); (case c4 => exact rfl))))
  k_with "binds" => ((k_dflt (exact BindsTo.of_eq (by kernel_rfl))))
  k_with "dbinds" => ((k_dflt (exact binds_K (Frag.In.keeps (Ctx.X (by assumption)) (Fr.keep (Ctx.F (by assumption)))) rfl (by k_is) rfl rfl (by kernel_rfl))))
  k_with "room" => (((simp only [rl_is]); omega))
  k_with "assign Tuple" => ((k_here; (with_reducible show wpAny _ _ (assign (Expr.Tuple _ _ _) _ (Value.ref _)) _ _ _); k_dflt (refine' unpackN_ ?q0k1 ?q0k2 ?q0k3 ?q0k4 ?q0k5 ?q0k6 ?_; (case q0k1 => k_asm); (case q0k2 => k_asm); (case q0k3 => exact News.isTup (by k_asm) (by k_mem)); (case q0k4 => first | assumption | exact rfl); (case q0k5 => exact rfl); (case q0k6 => exact rfl); k_whole); intro _ _ _; (try k_sweep)))
  k_with "unpackItems ref" => ((k_here; k_dflt (refine' unpackItemsN_ ?q0k1 ?q0k2 ?q0k3 ?q0k4 ?q0k5 ?_; (case q0k1 => k_asm); (case q0k2 => k_asm); (case q0k3 => kun_tup); (case q0k4 => first | assumption | exact rfl); (case q0k5 => exact rfl); k_whole); intro _ _ _; (try k_sweep)))
  k_with "fold" => (((fail_if_success (fail_if_success k_fold)); refine foldQ ?_; intro _))
  k_with "foldS" => (((fail_if_success (fail_if_success k_fold)); refine foldQS ?_; intro _ _))
  k_with "foldE" => (((fail_if_success (fail_if_success (refine swapT ⟨?_, ?_⟩; k_fold))); refine foldEE ?_; intro _))
  trivial

theorem rows_at_57 : True := by
  k_with "eval Name" => ((k_here; k_dflt (refine' nmL ?q0F ?q0v ?_ ?q0L ?q0x; (case q0x => rfl); (case q0F => k_asm); (case q0L => rfl); (case q0v => rfl); k_whole)))
  k_with "storeName" => ((k_here; k_dflt (refine' stL ?q0F ?q0N ?_ ?q0L ?q0x; (case q0x => rfl); (case q0F => k_asm); (case q0L => rfl); (case q0N => k_asm); k_whole; intro _ _ _ _ _ _; (try k_sweep))))
  trivial
section
variable {prog : Program} {w : World} {p : Program} {loose : List Str} {mean : ExcName → Option Value} {mg mb : Str → Option Value} {A A₀ : Around} {env : Env} {outer : List Env} {base h₀ : Heap} {L : Addr} {m : Str → Option Value} {s : Shared} {news : List (Addr × Obj)} {R : Result → Shared → Prop}
theorem rows_at_58 : True := by
  k_with "call ref" => (((with_reducible show wpAny _ _ (call (Value.ref 487) _) _ _ _); k_here; (with_reducible refine call_R ?_); k_dflt (refine' c_put_wordX ?q0C ?q0M ?q0W ?q0hni ?q0hc ?q0hp ?q0ha ?q0h4 ?q0hv ?q0hd ?q0hu ?_; (case q0W => assumption); (case q0C => walk_at "ctx"); (case q0M => first | assumption | exact HasI.hasE (by assumption) | exact HasI.hasE (hasI_of (by k_mem) (by k_mem))); (case q0hni => walk_at "apart"); (case q0hc => first | assumption | walk_at "fact"); (case q0hp => first | assumption | walk_at "fact"); (case q0ha => first | assumption | walk_at "fact"); (case q0h4 => first | assumption | walk_at "fact"); (case q0hv => first | assumption | walk_at "fact"); (case q0hd => walk_at "depth"); (case q0hu => walk_at "units"); k_whole); intro _ _ _ _ _ _ _ _; (try (first | refine RetQ.ok ?_ | refine RetQ.err ?_)); (try walk_at "fold")))
  k_with "exec For Name Call cons nil" => ((k_here; (with_unfolding_all refine' For_G ‹Fr _ _ _ _› ?_); k_whole))
  k_with "exec For Tuple Call cons nil" => ((k_here; (with_unfolding_all refine' For_G ‹Fr _ _ _ _› ?_); k_whole))
  k_with "exec For Name Name cons nil" => ((k_here; (with_unfolding_all refine' For_G ‹Fr _ _ _ _› ?_); k_whole))
  k_with "exec For Name BinOp cons nil" => ((k_here; (with_unfolding_all refine' For_G ‹Fr _ _ _ _› ?_); k_whole))
  k_with "getAttr ref" => ((k_here; k_dflt (refine' own_getN ?q0D ?q0N ?q0F ?q0X ?q0a ?q0b ?q0c ?q0d ?q0l ?q0v ?_; (case q0D => exact hasI_of (by k_mem) (by k_mem)); (case q0N => k_asm); (case q0F => k_asm); (case q0X => k_asm); (case q0a => k_is); (case q0b => k_is); (case q0c => k_is); (case q0d => k_is); (case q0l => intro _ _; k_get); (case q0v => k_handed); k_whole)))
  k_with "getMethod ref" => ((k_here; k_dflt (refine' own_methN ?q0D ?q0N ?q0F ?q0X ?q0a ?q0b ?q0c ?q0l ?_; (case q0D => exact hasI_of (by k_mem) (by k_mem)); (case q0N => k_asm); (case q0F => k_asm); (case q0X => k_asm); (case q0a => k_is); (case q0b => k_is); (case q0c => k_is); (case q0l => intro _ _; k_get); k_whole)))
  k_with "call ref" => (((with_reducible show wpAny _ _ (call (Value.ref 182) _) _ _ _); k_here; (with_reducible refine wpAny_call ?_); k_dflt (refine' c_mklay ?q0C ?q0ln ?q0hd ?q0hu ?_; (case q0C => walk_at "ctx"); (case q0ln => assumption); (case q0hd => walk_at "depth"); (case q0hu => walk_at "units"); k_whole); intro _ _ _ _ _ _ _ I'; (obtain ⟨_, _, _, _, hD9⟩ := I'); subst hD9; intro l1'; replace l1' := allLt_of l1'; (try simp only [AllLt, and_true] at l1'); revert l1'; intro _; intro l2'; replace l2' := ltN l2'; revert l2'; intro _; (try dsimp only); (try k_fold)))
  k_with "call ref" => (((with_reducible show wpAny _ _ (call (Value.ref 607) _) _ _ _); k_here; (with_reducible refine wpAny_call ?_); k_dflt (refine' c_mkmem ?q0C ?q0hp ?q0hsz ?q0hd ?q0hu ?_; (case q0C => walk_at "ctx"); (case q0hp => omega); (case q0hsz => rfl); (case q0hd => walk_at "depth"); (case q0hu => walk_at "units"); k_whole); intro _ _ _ _ _ _ _ _ _ I'; (obtain ⟨_, _, _, _, hD9⟩ := I'); subst hD9; intro _; intro l3'; (try simp only [AllLt] at l3'); revert l3'; intro _; intro l1'; replace l1' := allLt_of l1'; (try simp only [AllLt, and_true] at l1'); revert l1'; intro _; intro l2'; replace l2' := ltN l2'; revert l2'; intro _; (try dsimp only); (try k_fold)))
  k_with "call ref" => (((with_reducible show wpAny _ _ (call (Value.ref 714) _) _ _ _); k_here; (with_reducible refine wpAny_call ?_); k_dflt (refine' c_mkbus ?q0C ?q0hd ?q0hu ?_; (case q0C => walk_at "ctx"); (case q0hd => walk_at "depth"); (case q0hu => walk_at "units"); k_whole); intro _ _ _ _ _ _ _ _ I'; (obtain ⟨_, _, _, _, hD9⟩ := I'); subst hD9; intro l3'; (try simp only [AllLt] at l3'); revert l3'; intro _; intro l1'; replace l1' := allLt_of l1'; (try simp only [AllLt, and_true] at l1'); revert l1'; intro _; intro l2'; replace l2' := ltN l2'; revert l2'; intro _; (try dsimp only); (try k_fold)))
  k_with "call ref" => (((with_reducible show wpAny _ _ (call (Value.ref 266) _) _ _ _); k_here; (with_reducible refine wpAny_call ?_); k_dflt (refine' c_mkwal ?q0C ?q0hd ?q0hu ?_; (case q0C => walk_at "ctx"); (case q0hd => walk_at "depth"); (case q0hu => walk_at "units"); k_whole); intro _ _ _ _ _ _ _ I'; (obtain ⟨_, _, _, _, hD9⟩ := I'); subst hD9; intro l1'; replace l1' := allLt_of l1'; (try simp only [AllLt, and_true] at l1'); revert l1'; intro _; intro l2'; replace l2' := ltN l2'; revert l2'; intro _; (try dsimp only); (try k_fold)))
  k_with "call ref" => (((with_reducible show wpAny _ _ (call (Value.ref 418) _) _ _ _); k_here; (with_reducible refine wpAny_call ?_); k_dflt (refine' c_mktab ?q0C ?q0hd ?q0hu ?_; (case q0C => walk_at "ctx"); (case q0hd => walk_at "depth"); (case q0hu => walk_at "units"); k_whole); intro _ _ _ _ _ _ _ I'; (obtain ⟨_, _, _, _, hD9⟩ := I'); subst hD9; intro l1'; replace l1' := allLt_of l1'; (try simp only [AllLt, and_true] at l1'); revert l1'; intro _; intro l2'; replace l2' := ltN l2'; revert l2'; intro _; (try dsimp only); (try k_fold)))
  k_with "call ref" => (((with_reducible show wpAny _ _ (call (Value.ref 834) _) _ _ _); k_here; (with_reducible refine wpAny_call ?_); k_dflt (refine' c_mkpgs ?q0C ?q0hp ?q0hd ?q0hu ?_; (case q0C => walk_at "ctx"); (case q0hp => omega); (case q0hd => walk_at "depth"); (case q0hu => walk_at "units"); k_whole); intro _ _ _ _ _ _ l1'; replace l1' := allLt_of l1'; (try simp only [AllLt, and_true] at l1'); revert l1'; intro _; intro l2'; replace l2' := ltN l2'; revert l2'; intro _; (try dsimp only); (try k_fold)))
  k_with "subscriptTail" => ((k_here; (with_reducible show wpAny _ _ (subscriptTail _ _ (Value.ref _) (Value.ref _)) _ _ _); k_dflt (refine' ct_item ?q0u ?q0N ?q0T ?q0m ?q0k ?q0e ?_; (case q0N => k_asm); (case q0T => exact CT.mono (by assumption) (fun q hq => by repeat (first | exact List.mem_append_left _ hq | exact hq | apply List.mem_cons_of_mem))); (case q0m => k_mem); (case q0k => exact ⟨_, _, _, _, _, rfl⟩); (case q0e => assumption); (case q0u => ktr_units); k_whole); intro _))
  trivial
theorem c_board {cd : Addr} {S : Cells} {b pg en lg ed : Int} {t : Tok} (C : Ctx w p loose mean mg mb A A₀ env outer base h₀ L s.heap m news) (ln : LayN b pg en lg ed) (CT0 : CT prog w news cd S) (ok : OKC S) (hd : A.depth ≤ 600) (hu : A.units ≤ 6000)
  (hR : ∀ h' tk (brd lay mem bus str wal tab pgs wd : Addr) (tl tt : Toks) (o : Obj) (imm : List (Addr × Obj)), let st' : Shared := { s with heap := h', toks := tk }; Fr h₀ L h' m → let nw' : List (Addr × Obj) := ((wd, o) :: (imm ++ news)); News h₀ L h' nw' → WD prog w wd o (cellsN pg S S.length) → Brd prog w imm brd lay mem bus str wal tab pgs wd b pg en lg ed tl tt → (∀ p ∈ imm, p.1 ≠ wd) → AllLt wd news → (∀ p ∈ imm, ∀ q ∈ news, q.1 < p.1) → R (.ok (.ret (.ref brd))) st') :
    codeAny (model prog w) A (.call (.ref 845) ⟨[.int b t, .ref cd], []⟩) R s := by
  refine' enter [("bits", .int b t), ("cells", .ref cd)] C ?k6 ?k7 ?k8 ?k9 ?kB ?c2 ?c3 ?c4 ?c5 ?_
  walk_at "entered"
  case k9 => walk_at "binds"
  obtain ⟨B, F, X, N, T, hA, hf, hke, hh⟩ := C
  intro g' L' h' tk' FG F' N' B' X' T'
  try dsimp only
  refine foldEnter (f := execs) F' ?_
  clear F'
  intro M9 en9 A9 m9 qk ek st9 F'
  try clear N
  obtain ⟨hb, hp, hen, hlg, hed⟩ := layN_b ln
  k_steps
  rename_i lay dlay H1 T1 tl k1 l1a l2a h2 _ _ _ _ _ _ h3 tk3 mem dmem wd o H2 T2 tt k2 W9 l3 l1b l2b h4 _ _ _ lF N9 _ _
  have Nn : News g' L' h4 news := News.sub N9 fun q hq => by repeat (first | exact hq | apply List.mem_cons_of_mem)
  obtain ⟨lo, es, ep, hraw, hes, ⟨oc, hoc⟩, hkey⟩ := ct_raw Nn CT0
  have hcw : cd < wd := allLt_mem l3.2.2.2.2 _ hoc
  refine' iterG_raw [("spot" : Str)] (fun i news₁ => ∃ o', news₁ = (wd, o') :: (mem, instObj 607 dmem) :: (dmem, dictOf (mkEs H2 T2 0 (memF pg wd tt)) k2) :: (lay, instObj 182 dlay) :: (dlay, dictOf (mkEs H1 T1 0 (layF b pg en lg ed tl)) k1) :: news ∧ WD prog w wd o' (cellsN pg S i)) ?hh ?F ?N lo hraw ?hdl ?hj ?turn ?done
  case hh => assumption
  case F => assumption
  case N => exact N9
  case hdl => exact (Nn _ hoc).2.1
  case hj => exact ⟨o, rfl, W9⟩
  case done =>
    rintro h9 tk9 u9 news9 F9 N9 ⟨o', rfl, W1⟩
    rw [hes] at W1
    k_steps
    obtain ⟨imm9, Nz, Bz, q1, q2, q3⟩ := brd_mk (by assumption) (by assumption) l1a l2a l1b l2b l3 (by assumption) (by assumption) (by assumption) (by assumption) (by assumption) (by assumption) (by assumption) (by assumption)
    exact hR _ _ _ _ _ _ _ _ _ _ _ _ _ _ imm9 (by k_asm) Nz W1 Bz q1 q2 q3
  case turn =>
    rintro i e u9 news9 h9 tk9 own I he ⟨o', rfl, W1⟩ hoff hsub ⟨oI, hI, hcI⟩ F9 N9'
    obtain ⟨t9, ok9, a9, b9, v9, hk9, hm9, ⟨dt, t1, t2, n9, sl, rfl⟩, hS9⟩ := hkey i e he
    have hmem9 : ((a9, b9), v9) ∈ S := List.mem_of_getElem? hS9
    obtain ⟨ha9, hb9, hv9⟩ := ok.2 _ hmem9
    dsimp only at ha9 hb9 hv9
    obtain ⟨sp1, sp2, sp3⟩ := spot_ok ln ha9 hb9
    have ht9 : t9 < wd := allLt_mem l3.2.2.2.2 _ hm9
    have hc9 : (cellsN pg S i).length < 900 := by
      have e1 := cellsN_len (pg := pg) (S := S) i
      have e2 := (Array.getElem?_eq_some_iff.mp he).1
      have e3 := ok.1
      omega
    have N10 : News g' (envOf _ _ L' 845 (Value.ref 844)).locals h9 ((wd, o') :: (t9, ⟨.type "tuple", dt, .seq #[.int a9 t1, .int b9 t2] n9, sl⟩) :: (mem, instObj 607 dmem) :: (dmem, dictOf (mkEs H2 T2 0 (memF pg wd tt)) k2) :: (lay, instObj 182 dlay) :: (dlay, dictOf (mkEs H1 T1 0 (layF b pg en lg ed tl)) k1) :: (news ++ own)) := News.sub N9' fun q hq => by
      simp +zetaDelta only [List.mem_cons, List.mem_append] at hq ⊢
      rcases hq with hq | hq | hq | hq | hq | hq | hq | hq
      · exact .inr (.inl hq)
      · rw [hq]; exact .inr (.inr (.inr (.inr (.inr (.inr hm9)))))
      · exact .inr (.inr (.inl hq))
      · exact .inr (.inr (.inr (.inl hq)))
      · exact .inr (.inr (.inr (.inr (.inl hq))))
      · exact .inr (.inr (.inr (.inr (.inr (.inl hq)))))
      · exact .inr (.inr (.inr (.inr (.inr (.inr hq)))))
      · exact .inl hq
    have hni : ∀ p ∈ ((t9, ⟨.type "tuple", dt, .seq #[.int a9 t1, .int b9 t2] n9, sl⟩) :: (mem, instObj 607 dmem) :: (dmem, dictOf (mkEs H2 T2 0 (memF pg wd tt)) k2) :: (lay, instObj 182 dlay) :: (dlay, dictOf (mkEs H1 T1 0 (layF b pg en lg ed tl)) k1) :: (news ++ own) : List (Addr × Obj)), p.1 ≠ wd := fun p hp => by
      simp +zetaDelta only [List.mem_cons, List.mem_append] at hp
      rcases hp with hp | hp | hp | hp | hp | hp | hp
      · rw [hp]; exact Nat.ne_of_lt ht9
      · rw [hp]; exact Nat.ne_of_lt l3.1
      · rw [hp]; exact Nat.ne_of_lt l3.2.1
      · rw [hp]; exact Nat.ne_of_lt l3.2.2.1
      · rw [hp]; exact Nat.ne_of_lt l3.2.2.2.1
      · exact Nat.ne_of_lt (allLt_mem l3.2.2.2.2 _ hp)
      · rcases hsub p hp with q | q
        · rw [q]; exact fun z => hoff _ (.head _) z.symm
        · rw [q]; exact Nat.ne_of_lt hcw
    clear N9' N9 Nn
    rw [hk9]
    try dsimp only
    k_steps
    show NextG _ _ _ _ _ _ _ _ _
    refine ⟨_, _, _, (wd, _) :: (mem, instObj 607 dmem) :: (dmem, dictOf (mkEs H2 T2 0 (memF pg wd tt)) k2) :: (lay, instObj 182 dlay) :: (dlay, dictOf (mkEs H1 T1 0 (layF b pg en lg ed tl)) k1) :: news, rfl, by k_asm, (by repeat (first | (with_reducible exact over_off) | ((with_reducible refine upd_off ?_ ?_); exact rfl) | exact fun _ _ => rfl)), News.sub (by k_asm) (fun q hq => ?_), ?_, _, rfl, by rw [cellsN_step hS9]; assumption⟩
    · simp +zetaDelta only [List.mem_cons, List.mem_append] at hq ⊢
      rcases hq with hq | hq | hq | hq | hq | hq | hq <;> simp +zetaDelta [hq]
    · intro p hp
      rw [List.mem_singleton]
      rcases List.mem_cons.mp hp with hp | hp
      · rw [hp]; exact (hoff (wd, o') (.head _) : wd ≠ I)
      · exact hoff _ (.tail _ hp)
end
end Mine
end W13
section W17a
open PySem PySem.W PyProof.Rows PySem.Calls PySem.Spec PyProof.V
set_option maxRecDepth 100000
set_option maxHeartbeats 8000000
set_option autoImplicit false
namespace Mine

theorem rows_at_59 : True := by
  k_with_none
  k_with "ctx" => ((refine' Ctx.mk ?q0B ?q0F ?q0X ?q0N ?q0T ?q0a ?q0f ?q0k ?q0h; (case q0B => k_asm); (case q0F => k_asm); (case q0X => k_asm); (case q0N => first | k_asm | exact news_swap1 (by k_asm) | exact news_swap2 (by k_asm) | exact news_swap3 (by k_asm)); (case q0T => k_asm); (case q0a => first | assumption | exact Around.frames_deeper (Below.stack (by assumption))); (case q0f => first | assumption | exact rfl); (case q0k => first | assumption | exact rfl); (case q0h => first | assumption | exact rfl)))
  k_with "getAttr ref" => ((k_here; k_dflt (refine' own_get ?q0D ?q0F ?q0X ?q0a ?q0b ?q0c ?q0d ?q0l ?q0v ?_; (case q0D => assumption); (case q0F => k_asm); (case q0X => k_asm); (case q0a => k_is); (case q0b => k_is); (case q0c => k_is); (case q0d => k_is); (case q0l => intro _ _; k_get); (case q0v => k_handed); k_whole)))
  k_with "getMethod ref" => ((k_here; k_dflt (refine' own_meth ?q0D ?q0F ?q0X ?q0a ?q0b ?q0c ?q0l ?_; (case q0D => assumption); (case q0F => k_asm); (case q0X => k_asm); (case q0a => k_is); (case q0b => k_is); (case q0c => k_is); (case q0l => intro _ _; k_get); k_whole)))
  k_with "getMethod ref" => ((k_here; (with_reducible show wpAny _ _ (getMethod (Value.ref _) (PySem.Str.ofString "get") _) _ _ _); k_dflt (refine' w_getm ?q0W ?q0N ?q0p ?_; (case q0W => assumption); (case q0N => k_asm); (case q0p => k_mem); k_whole)))
  k_with "getMethod ref" => ((k_here; (with_reducible show wpAny _ _ (getMethod (Value.ref _) (PySem.Str.ofString "pop") _) _ _ _); k_dflt (refine' w_popm ?q0W ?q0N ?q0p ?_; (case q0W => assumption); (case q0N => k_asm); (case q0p => k_mem); k_whole)))
  k_with "call builtin:dict.get" => ((k_here; k_dflt (refine' w_get ?q0W ?q0N ?q0p ?_; (case q0W => assumption); (case q0N => k_asm); (case q0p => k_mem); k_whole); intro _))
  k_with "call builtin:dict.pop" => ((k_here; k_dflt (refine' w_pop ?q0W ?q0F ?q0N ?q0p ?q0U ?_; (case q0W => assumption); (case q0F => k_asm); (case q0N => k_asm); (case q0p => k_mem); (case q0U => (first | (refine UpdF.head ?_; assumption) | k_updF)); k_whole); intro _ _ _ _ N'; (try dsimp only at N'); (try (revert N'; intro _)); intro _))
  k_with "setItem ref int" => ((k_here; k_dflt (refine' w_set ?q0W ?q0F ?q0N ?q0U ?q0c ?_; (case q0W => assumption); (case q0F => k_asm); (case q0N => k_asm); (case q0U => (first | (refine UpdF.head ?_; assumption) | k_updF)); (case q0c => first | assumption | omega); k_whole); intro _ _ _ N'; (try dsimp only at N'); (try (revert N'; intro _)); intro _))
  k_with "depth" => (first | exact dp1 (by assumption) rfl | exact dp2 (by assumption) rfl | ((simp +zetaDelta only [depth_mark, depth_under_make, depth_under_kw, depth_in1, depth_deeper, depth_caller]); omega))
  k_with "units" => (first | exact up1 (by assumption) rfl | exact up2 (by assumption) rfl | ((simp +zetaDelta only [units_in1, units_deeper, Around.mark_units, units_caller]); omega))
  k_with "apart" => (first | assumption | exact List.forall_mem_cons.mpr ⟨by k_ne, by assumption⟩ | exact List.forall_mem_cons.mpr ⟨by k_ne, List.forall_mem_cons.mpr ⟨by k_ne, by assumption⟩⟩)
  k_with "fact" => (omega)
  k_with "entered" => ((k_dflt ((case k6 => k_is); (case k7 => k_is); (case k8 => walk_at "room"); (case c5 => decide); (case kB => exact locs rfl); (case c2 => exact rfl); (case c3 => exact rfl); (case c4 => exact rfl))))
  k_with "binds" => ((k_dflt (exact BindsTo.of_eq (by kernel_rfl))))
  k_with "dbinds" => ((k_dflt (exact binds_K (Frag.In.keeps (Ctx.X (by assumption)) (Fr.keep (Ctx.F (by assumption)))) rfl (by k_is) rfl rfl (by kernel_rfl))))
  k_with "room" => (((simp only [rl_is]); omega))
  k_with "assign Tuple" => ((k_here; (with_reducible show wpAny _ _ (assign (Expr.Tuple _ _ _) _ (Value.ref _)) _ _ _); k_dflt (refine' unpackN_ ?q0k1 ?q0k2 ?q0k3 ?q0k4 ?q0k5 ?q0k6 ?_; (case q0k1 => k_asm); (case q0k2 => k_asm); (case q0k3 => exact News.isTup (by k_asm) (by k_mem)); (case q0k4 => first | assumption | exact rfl); (case q0k5 => exact rfl); (case q0k6 => exact rfl); k_whole); intro _ _ _; (try k_sweep)))
  k_with "unpackItems ref" => ((k_here; k_dflt (refine' unpackItemsN_ ?q0k1 ?q0k2 ?q0k3 ?q0k4 ?q0k5 ?_; (case q0k1 => k_asm); (case q0k2 => k_asm); (case q0k3 => kun_tup); (case q0k4 => first | assumption | exact rfl); (case q0k5 => exact rfl); k_whole); intro _ _ _; (try k_sweep)))
  k_with "fold" => (((fail_if_success (fail_if_success k_fold)); refine foldQ ?_; intro _))
  k_with "foldS" => (((fail_if_success (fail_if_success k_fold)); refine foldQS ?_; intro _ _))
  k_with "foldE" => (((fail_if_success (fail_if_success (refine swapT ⟨?_, ?_⟩; k_fold))); refine foldEE ?_; intro _))
  trivial

theorem rows_at_60 : True := by
  k_with "eval Name" => ((k_here; k_dflt (refine' nmL ?q0F ?q0v ?_ ?q0L ?q0x; (case q0x => rfl); (case q0F => k_asm); (case q0L => rfl); (case q0v => rfl); k_whole)))
  k_with "storeName" => ((k_here; k_dflt (refine' stL ?q0F ?q0N ?_ ?q0L ?q0x; (case q0x => rfl); (case q0F => k_asm); (case q0L => rfl); (case q0N => k_asm); k_whole; intro _ _ _ _ _ _; (try k_sweep))))
  k_with "subscriptTail" => ((k_here; (with_reducible show wpAny _ _ (subscriptTail _ _ (Value.ref 106) (Value.str _ _)) _ _ _); k_dflt (refine' pf_item ?q0F ?q0X ?q0k ?_; (case q0F => k_asm); (case q0X => k_asm); (case q0k => assumption); k_whole); intro _))
  k_with "exec Raise some none" => ((k_here; (k_dflt (refine' raise_trap ?q0h ?_; (case q0h => first | assumption | exact rfl))); (try dsimp only)))
  k_with "call ref" => (((with_reducible show wpAny _ _ (call (Value.ref 103) _) _ _ _); k_here; (with_reducible refine wpAny_call ?_); k_dflt (refine' c_mktrap ?q0C ?q0c ?q0v ?q0d ?q0u ?_; (case q0C => walk_at "ctx"); (case q0c => first | exact pfS_lt | omega); (case q0v => first | assumption | omega); (case q0d => walk_at "depth"); (case q0u => walk_at "units"); k_whole); intro _ _ _ _ _ _ _ _ _ _ _ _ _ _ _ _ _ _ _ _; (try dsimp only)))
  k_with "Exists" => (((with_reducible show ∃ e t dx, _ = _ ∧ _); refine' ⟨_, _, _, rfl, ?q0X, ?q0e, ?_⟩; (case q0X => exact Frag.In.keeps (by k_asm) (Fr.keep (by k_asm))); (case q0e => exact (News.get (by k_asm) (List.Mem.tail _ (List.Mem.head _)))); (try dsimp only)))
  k_with "leaving ref" => ((k_here; k_dflt (first | (refine' leave_onD ?q0K ?q0F ?q0R ?_; (case q0K => k_asm); (case q0R => assumption); (case q0F => assumption); intro _ _) | (refine' leaveT0 ?q0K ?q0F ?q0N ?q0a ?q0b ?q0c ?q0d ?_; (case q0K => k_asm); (case q0F => k_asm); (case q0N => k_asm); (case q0a => assumption); (case q0b => assumption); (case q0c => assumption); (case q0d => assumption); intro _ _)); (try dsimp only)))
  trivial
section
variable {prog : Program} {w : World} {p : Program} {loose : List Str} {mean : ExcName → Option Value} {mg mb : Str → Option Value} {A A₀ : Around} {env : Env} {outer : List Env} {base h₀ : Heap} {L : Addr} {m : Str → Option Value} {s : Shared} {news : List (Addr × Obj)} {R : Result → Shared → Prop}
theorem rows_at_61 : True := by
  k_with "call ref" => (((with_reducible show wpAny _ _ (call (Value.ref 129) _) _ _ _); k_here; (with_reducible refine call_R ?_); k_dflt (refine' c_parts_in ?q0C ?q0D ?q0ln ?q0ha ?q0hd ?q0hu ?_; (case q0D => assumption); (case q0C => walk_at "ctx"); (case q0ln => assumption); (case q0ha => first | assumption | walk_at "fact"); (case q0hd => walk_at "depth"); (case q0hu => walk_at "units"); k_whole); intro _ _ _ _ _ _ _ _ _ _ l1'; (try k_lt l1'); (try (revert l1'; intro _)); (try (first | refine RetQ.ok ?_ | refine RetQ.err ?_)); (try walk_at "fold")))
  k_with "call ref" => (((with_reducible show wpAny _ _ (call (Value.ref 129) _) _ _ _); k_here; (with_reducible refine call_R ?_); k_dflt (refine' c_parts_out ?q0C ?q0D ?q0ln ?q0ha ?q0hd ?q0hu ?_; (case q0D => assumption); (case q0C => walk_at "ctx"); (case q0ln => assumption); (case q0ha => first | assumption | walk_at "fact"); (case q0hd => walk_at "depth"); (case q0hu => walk_at "units"); k_whole); intro _ _ _ _ _; (try (first | refine RetQ.ok ?_ | refine RetQ.err ?_)); (try walk_at "fold")))
  k_with "call ref" => (((with_reducible show wpAny _ _ (call (Value.ref 137) _) _ _ _); k_here; (with_reducible refine call_R ?_); k_dflt (refine' c_address ?q0C ?q0D ?q0ln ?q0hf1 ?q0hg1 ?q0hq1 ?q0hd ?q0hu ?_; (case q0D => assumption); (case q0C => walk_at "ctx"); (case q0ln => assumption); (case q0hf1 => first | assumption | walk_at "fact"); (case q0hg1 => first | assumption | walk_at "fact"); (case q0hq1 => first | assumption | walk_at "fact"); (case q0hd => walk_at "depth"); (case q0hu => walk_at "units"); k_whole); intro _ _ _ _ _ _; (try (first | refine RetQ.ok ?_ | refine RetQ.err ?_)); (try walk_at "fold")))
  k_with "call ref" => (((with_reducible show wpAny _ _ (call (Value.ref 144) _) _ _ _); k_here; (with_reducible refine call_R ?_); k_dflt (refine' c_down ?q0C ?q0D ?q0ln ?q0ha ?q0hd ?q0hu ?_; (case q0D => assumption); (case q0C => walk_at "ctx"); (case q0ln => assumption); (case q0ha => first | assumption | walk_at "fact"); (case q0hd => walk_at "depth"); (case q0hu => walk_at "units"); k_whole); intro _ _ _ _ _ _; (try (first | refine RetQ.ok ?_ | refine RetQ.err ?_)); (try walk_at "fold")))
  k_with "call ref" => (((with_reducible show wpAny _ _ (call (Value.ref 158) _) _ _ _); k_here; (with_reducible refine call_R ?_); k_dflt (refine' c_is_begin ?q0C ?q0D ?q0ln ?q0ha ?q0hd ?q0hu ?_; (case q0D => assumption); (case q0C => walk_at "ctx"); (case q0ln => assumption); (case q0ha => first | assumption | walk_at "fact"); (case q0hd => walk_at "depth"); (case q0hu => walk_at "units"); k_whole); intro _ _ _ _ _; (try (first | refine RetQ.ok ?_ | refine RetQ.err ?_)); (try walk_at "fold")))
  k_with "call ref" => (((with_reducible show wpAny _ _ (call (Value.ref 172) _) _ _ _); k_here; (with_reducible refine call_R ?_); k_dflt (refine' c_lentry ?q0C ?q0D ?q0ln ?q0ha ?q0hf1 ?q0hd ?q0hu ?_; (case q0D => assumption); (case q0C => walk_at "ctx"); (case q0ln => assumption); (case q0ha => first | assumption | walk_at "fact"); (case q0hf1 => first | assumption | walk_at "fact"); (case q0hd => walk_at "depth"); (case q0hu => walk_at "units"); k_whole); intro _ _ _ _ _ _; (try (first | refine RetQ.ok ?_ | refine RetQ.err ?_)); (try walk_at "fold")))
  k_with "call ref" => (((with_reducible show wpAny _ _ (call (Value.ref 179) _) _ _ _); k_here; (with_reducible refine call_R ?_); k_dflt (refine' c_lphysical ?q0C ?q0D ?q0ln ?q0he ?q0hd ?q0hu ?_; (case q0D => assumption); (case q0C => walk_at "ctx"); (case q0ln => assumption); (case q0he => first | assumption | walk_at "fact"); (case q0hd => walk_at "depth"); (case q0hu => walk_at "units"); k_whole); intro _ _ _ _ _ _; (try (first | refine RetQ.ok ?_ | refine RetQ.err ?_)); (try walk_at "fold")))
  k_with "call ref" => (((with_reducible show wpAny _ _ (call (Value.ref 198) _) _ _ _); k_here; (with_reducible refine call_R ?_); k_dflt (refine' c_is_leaf ?q0C ?q0he ?q0hd ?q0hu ?_; (case q0C => walk_at "ctx"); (case q0he => first | assumption | walk_at "fact"); (case q0hd => walk_at "depth"); (case q0hu => walk_at "units"); k_whole); intro _ _ _ _ _; (try (first | refine RetQ.ok ?_ | refine RetQ.err ?_)); (try walk_at "fold")))
  k_with "call ref" => (((with_reducible show wpAny _ _ (call (Value.ref 205) _) _ _ _); k_here; (with_reducible refine call_R ?_); k_dflt (refine' c_is_sound ?q0C ?q0he ?q0hd ?q0hu ?_; (case q0C => walk_at "ctx"); (case q0he => first | assumption | walk_at "fact"); (case q0hd => walk_at "depth"); (case q0hu => walk_at "units"); k_whole); intro _ _ _ _ _; (try (first | refine RetQ.ok ?_ | refine RetQ.err ?_)); (try walk_at "fold")))
  k_with "call ref" => (((with_reducible show wpAny _ _ (call (Value.ref 212) _) _ _ _); k_here; (with_reducible refine call_R ?_); k_dflt (refine' c_may ?q0C ?q0he ?q0hd ?q0hu ?_; (case q0C => walk_at "ctx"); (case q0he => first | assumption | walk_at "fact"); (case q0hd => walk_at "depth"); (case q0hu => walk_at "units"); k_whole); intro _ _ _ _ _; (try (first | refine RetQ.ok ?_ | refine RetQ.err ?_)); (try walk_at "fold")))
  trivial
theorem c_translateO {wal bus lay : Addr} {b pg en lg ed : Int} {tl : Toks} {t u v x2 : Tok} {k : Str} (C : Ctx w p loose mean mg mb A A₀ env outer base h₀ L s.heap m news) (Wa : Has h₀ wal 266 (walF bus lay)) (D : Has h₀ lay 182 (layF b pg en lg ed tl)) (ln : LayN b pg en lg ed) (hk : KindIs k) (hd : A.depth ≤ 560) (hu : A.units ≤ 5600)
  (hR : ∀ h' tk, let st' : Shared := { s with heap := h', toks := tk }; Fr h₀ L h' m → News h₀ L h' news → False → R (.ok (.ret (.none))) st')
  (hE : ∀ h' tk g' (xe xd : Addr) (xD : Obj), TrapD (pfS k) (ed) xD → Fr h₀ L g' m → Thr base g' (env :: outer) xe 103 (some xd) ((xd, xD) :: news) h' → R (.error (.ref xe)) { s with heap := h', toks := tk }) :
    codeAny (model prog w) A (.call (.ref 234) ⟨[.ref wal, .int 0 t, .int ed u, .str k v, .int 0 x2], []⟩) R s := by
  refine' enter [("self", .ref wal), ("root", .int 0 t), ("address", .int ed u), ("kind", .str k v), ("mode", .int 0 x2), ("sum_bit", .int 0 547), ("mxr", .int 0 548)] C ?k6 ?k7 ?k8 ?k9 ?kB ?c2 ?c3 ?c4 ?c5 ?_
  walk_at "entered"
  case k9 => walk_at "dbinds"
  obtain ⟨B, F, X, N, T, hA, hf, hke, hh⟩ := C
  intro g' L' h' tk' FG F' N' B' X' T'
  replace Wa := Wa.keeps FG.keep
  replace D := D.keeps FG.keep
  try dsimp only
  refine foldEnter (f := execs) F' ?_
  clear F'
  intro M9 en9 A9 m9 qk ek st9 F'
  try clear N
  obtain ⟨hb, hp, hen, hlg, hed⟩ := layN_b ln
  k_steps
  all_goals first
    | contradiction
    | (refine' hE _ _ _ _ _ _ ?T FG ?R
       case R => first | assumption | exact Thr.sub (by assumption) sub2 | exact Thr.sub (by assumption) sub3
       case T => first | assumption | exact TrapD.mk')
theorem rows_at_62 : True := by
  k_with "call ref" => (((with_reducible show wpAny _ _ (call (Value.ref 234) _) _ _ _); k_here; (with_reducible refine call_R ?_); k_dflt (refine' c_translateO ?q0C ?q0Wa ?q0D ?q0ln ?q0hk ?q0hd ?q0hu ?_ ?_; (case q0Wa => assumption); (case q0D => assumption); (case q0C => walk_at "ctx"); (case q0ln => assumption); (case q0hk => assumption); (case q0hd => walk_at "depth"); (case q0hu => walk_at "units"); k_whole); rotate_left; (intro _ _ _ _ _ _ _ _ _; (try (first | refine RetQ.ok ?_ | refine RetQ.err ?_)); (try walk_at "fold")); rotate_left; (intro _ _ _ _ _ no'; (first | exact no'.elim | exact False.elim no'); (try (first | refine RetQ.ok ?_ | refine RetQ.err ?_)); (try walk_at "fold"))))
  trivial
end
end Mine
end W17a
section W18b
open PySem PySem.W PyProof.Rows PySem.Calls PySem.Spec PyProof.V
set_option maxRecDepth 100000
set_option maxHeartbeats 8000000
set_option autoImplicit false
namespace Mine

theorem rows_at_63 : True := by
  k_with_none
  k_with "ctx" => ((refine' Ctx.mk ?q0B ?q0F ?q0X ?q0N ?q0T ?q0a ?q0f ?q0k ?q0h; (case q0B => k_asm); (case q0F => k_asm); (case q0X => k_asm); (case q0N => first | k_asm | exact news_swap1 (by k_asm) | exact news_swap2 (by k_asm) | exact news_swap3 (by k_asm)); (case q0T => k_asm); (case q0a => first | assumption | exact Around.frames_deeper (Below.stack (by assumption))); (case q0f => first | assumption | exact rfl); (case q0k => first | assumption | exact rfl); (case q0h => first | assumption | exact rfl)))
  k_with "getAttr ref" => ((k_here; k_dflt (refine' own_get ?q0D ?q0F ?q0X ?q0a ?q0b ?q0c ?q0d ?q0l ?q0v ?_; (case q0D => assumption); (case q0F => k_asm); (case q0X => k_asm); (case q0a => k_is); (case q0b => k_is); (case q0c => k_is); (case q0d => k_is); (case q0l => intro _ _; k_get); (case q0v => k_handed); k_whole)))
  k_with "getMethod ref" => ((k_here; k_dflt (refine' own_meth ?q0D ?q0F ?q0X ?q0a ?q0b ?q0c ?q0l ?_; (case q0D => assumption); (case q0F => k_asm); (case q0X => k_asm); (case q0a => k_is); (case q0b => k_is); (case q0c => k_is); (case q0l => intro _ _; k_get); k_whole)))
  k_with "getMethod ref" => ((k_here; (with_reducible show wpAny _ _ (getMethod (Value.ref _) (PySem.Str.ofString "get") _) _ _ _); k_dflt (refine' w_getm ?q0W ?q0N ?q0p ?_; (case q0W => assumption); (case q0N => k_asm); (case q0p => k_mem); k_whole)))
  k_with "getMethod ref" => ((k_here; (with_reducible show wpAny _ _ (getMethod (Value.ref _) (PySem.Str.ofString "pop") _) _ _ _); k_dflt (refine' w_popm ?q0W ?q0N ?q0p ?_; (case q0W => assumption); (case q0N => k_asm); (case q0p => k_mem); k_whole)))
  k_with "call builtin:dict.get" => ((k_here; k_dflt (refine' w_get ?q0W ?q0N ?q0p ?_; (case q0W => assumption); (case q0N => k_asm); (case q0p => k_mem); k_whole); intro _))
  k_with "call builtin:dict.pop" => ((k_here; k_dflt (refine' w_pop ?q0W ?q0F ?q0N ?q0p ?q0U ?_; (case q0W => assumption); (case q0F => k_asm); (case q0N => k_asm); (case q0p => k_mem); (case q0U => (first | (refine UpdF.head ?_; assumption) | k_updF)); k_whole); intro _ _ _ _ N'; (try dsimp only at N'); (try (revert N'; intro _)); intro _))
  k_with "setItem ref int" => ((k_here; k_dflt (refine' w_set ?q0W ?q0F ?q0N ?q0U ?q0c ?_; (case q0W => assumption); (case q0F => k_asm); (case q0N => k_asm); (case q0U => (first | (refine UpdF.head ?_; assumption) | k_updF)); (case q0c => first | assumption | omega); k_whole); intro _ _ _ N'; (try dsimp only at N'); (try (revert N'; intro _)); intro _))
  k_with "depth" => (first | exact dp1 (by assumption) rfl | exact dp2 (by assumption) rfl | ((simp +zetaDelta only [depth_mark, depth_under_make, depth_under_kw, depth_in1, depth_deeper, depth_caller]); omega))
  k_with "units" => (first | exact up1 (by assumption) rfl | exact up2 (by assumption) rfl | ((simp +zetaDelta only [units_in1, units_deeper, Around.mark_units, units_caller]); omega))
  k_with "apart" => (first | assumption | exact List.forall_mem_cons.mpr ⟨by k_ne, by assumption⟩ | exact List.forall_mem_cons.mpr ⟨by k_ne, List.forall_mem_cons.mpr ⟨by k_ne, by assumption⟩⟩)
  k_with "fact" => (omega)
  k_with "entered" => ((k_dflt ((case k6 => k_is); (case k7 => k_is); (case k8 => walk_at "room"); (case c5 => decide); (case kB => exact locs rfl); (case c2 => exact rfl); (case c3 => exact rfl); (case c4 => exact rfl))))
  k_with "binds" => ((k_dflt (exact BindsTo.of_eq (by kernel_rfl))))
  k_with "dbinds" => ((k_dflt (exact binds_K (Frag.In.keeps (Ctx.X (by assumption)) (Fr.keep (Ctx.F (by assumption)))) rfl (by k_is) rfl rfl (by kernel_rfl))))
  k_with "room" => (((simp only [rl_is]); omega))
  k_with "assign Tuple" => ((k_here; (with_reducible show wpAny _ _ (assign (Expr.Tuple _ _ _) _ (Value.ref _)) _ _ _); k_dflt (refine' unpackN_ ?q0k1 ?q0k2 ?q0k3 ?q0k4 ?q0k5 ?q0k6 ?_; (case q0k1 => k_asm); (case q0k2 => k_asm); (case q0k3 => exact News.isTup (by k_asm) (by k_mem)); (case q0k4 => first | assumption | exact rfl); (case q0k5 => exact rfl); (case q0k6 => exact rfl); k_whole); intro _ _ _; (try k_sweep)))
  k_with "unpackItems ref" => ((k_here; k_dflt (refine' unpackItemsN_ ?q0k1 ?q0k2 ?q0k3 ?q0k4 ?q0k5 ?_; (case q0k1 => k_asm); (case q0k2 => k_asm); (case q0k3 => kun_tup); (case q0k4 => first | assumption | exact rfl); (case q0k5 => exact rfl); k_whole); intro _ _ _; (try k_sweep)))
  k_with "fold" => (((fail_if_success (fail_if_success k_fold)); refine foldQ ?_; intro _))
  k_with "foldS" => (((fail_if_success (fail_if_success k_fold)); refine foldQS ?_; intro _ _))
  k_with "foldE" => (((fail_if_success (fail_if_success (refine swapT ⟨?_, ?_⟩; k_fold))); refine foldEE ?_; intro _))
  trivial

theorem rows_at_64 : True := by
  k_with "eval Name" => ((k_here; k_dflt (refine' nmL ?q0F ?q0v ?_ ?q0L ?q0x; (case q0x => rfl); (case q0F => k_asm); (case q0L => rfl); (case q0v => rfl); k_whole)))
  k_with "storeName" => ((k_here; k_dflt (refine' stL ?q0F ?q0N ?_ ?q0L ?q0x; (case q0x => rfl); (case q0F => k_asm); (case q0L => rfl); (case q0N => k_asm); k_whole; intro _ _ _ _ _ _; (try k_sweep))))
  trivial
section
variable {prog : Program} {w : World} {p : Program} {loose : List Str} {mean : ExcName → Option Value} {mg mb : Str → Option Value} {A A₀ : Around} {env : Env} {outer : List Env} {base h₀ : Heap} {L : Addr} {m : Str → Option Value} {s : Shared} {news : List (Addr × Obj)} {R : Result → Shared → Prop}
theorem rows_at_65 : True := by
  k_with "subscriptTail" => ((k_here; (with_reducible show wpAny _ _ (subscriptTail _ _ (Value.ref _) (Value.str _ _)) _ _ _); k_dflt (refine' brd_item ?q0D ?q0F ?q0v ?_; (case q0D => assumption); (case q0F => k_asm); (case q0v => with_unfolding_all rfl); k_whole)))
  k_with "call ref" => (((with_reducible show wpAny _ _ (call (Value.ref 590) _) _ _ _); k_here; (with_reducible refine call_R ?_); k_dflt (refine' c_memrows ?q0C ?q0M ?q0W ?q0hc ?q0hkb ?q0hd ?q0hu ?_; (case q0M => assumption); (case q0W => assumption); (case q0C => walk_at "ctx"); (case q0hc => first | assumption | walk_at "fact"); (case q0hkb => assumption); (case q0hd => walk_at "depth"); (case q0hu => walk_at "units"); k_whole); intro _ _ _ _ _ _ _ _ _ _ _ _ _ _ _ _; (try (first | refine RetQ.ok ?_ | refine RetQ.err ?_)); (try walk_at "fold")))
  k_with "eval ListComp" =>
    ((k_here; first
      | ((with_reducible show wpAny _ _ (eval (PySem.Expr.ListComp _ [⟨PySem.Expr.Name _ _, _, [], 0⟩] _ _) _) _ _ _); k_dflt (refine listComp_O (F₀ := by k_asm) (by with_unfolding_all rfl) (by decide) (by rfl) (by decide) (by rfl) ?_))
      | ((with_reducible show wpAny _ _ (eval (PySem.Expr.ListComp _ [⟨PySem.Expr.Tuple [PySem.Expr.Name _ _, PySem.Expr.Name _ _] _ _, _, [], 0⟩] _ _) _) _ _ _); k_dflt (refine listComp_OP (F₀ := by k_asm) (by with_unfolding_all rfl) (by decide) (by rfl) (by decide) (by rfl) (by rfl) (by decide) ?_))))
  k_with "call builtin:sorted" => ((k_here; k_dflt (refine' w_sorted ?q0W ?q0hh ?q0F ?q0N ?q0p ?q0l ?_; (case q0W => assumption); (case q0hh => first | assumption | exact rfl); (case q0F => k_asm); (case q0N => k_asm); (case q0p => k_mem); (case q0l => omega); k_whole); intro _ _ _ _ _ _ _ _ l1' _ _ _; (try k_lt l1'); (try (revert l1'; intro _))))
  k_with "storeName" => ((k_here; k_dflt (refine' storeX_C ?q0F ?q0N ?q0c ?q0U ?q0d ?_; (case q0F => k_asm); (case q0N => k_asm); (case q0c => rfl); (case q0U => (refine UpdF.head ?_; assumption)); (case q0d => assumption); k_whole); intro _ _ _ N'; (try dsimp only at N'); (try (revert N'; intro _)); intro _))
  trivial
theorem c_cells {cn : Str} {cs : Scope} {ccd : Value} {La : Addr} {imm : List (Addr × Obj)} {brd lay mem bus str wal tab pgs wd : Addr} {b pg en lg ed : Int} {tl tt : Toks} {o : Obj} {c : Cs} (C : Ctx w p loose mean mg mb A A₀ (envOf cn cs L La ccd) outer base h₀ L s.heap m ((wd, o) :: imm)) (BR : Brd prog w imm brd lay mem bus str wal tab pgs wd b pg en lg ed tl tt) (ln : LayN b pg en lg ed) (W : WD prog w wd o c) (hni : ∀ p ∈ imm, p.1 ≠ wd) (hc : c.length < 60) (hkb : ∀ q ∈ c, 0 ≤ q.1 ∧ q.1 < 256) (hd : A.depth ≤ 640) (hu : A.units ≤ 6400)
  (hR : ∀ h' tk (l : Addr) (res : List (Addr × Obj)) (ks : List Int), let st' : Shared := { s with heap := h', toks := tk }; Fr h₀ L h' m → let nw' : List (Addr × Obj) := ((wd, o) :: (res ++ imm)); News h₀ L h' nw' → ks.Perm (c.map (·.1)) → ks.Pairwise (· ≤ ·) → RI res (.ref l) (.list (ks.map (cellD pg c))) → (∀ p ∈ res, p.1 ≠ wd) → (∀ p ∈ res, ∀ q ∈ imm, q.1 ≠ p.1) → R (.ok (.ret (.ref l))) st') :
    codeAny (model prog w) A (.call (.ref 871) ⟨[.ref brd], []⟩) R s := by
  refine' enterXC (news := [(wd, o)]) (imm := imm) [("board", .ref brd)] C ?hdis ?k6 ?k7 ?k8 ?k9 ?kB ?kD ?c2 ?c3 ?c4 ?_
  case hdis => exact fun p hp q hq => by rw [List.mem_singleton.mp hq]; exact hni p hp
  case k6 => k_is
  case k7 => k_is
  case k8 => walk_at "room"
  case k9 => walk_at "binds"
  case kB => exact rfl
  case kD => decide +kernel
  case c2 => exact rfl
  case c3 => exact rfl
  case c4 => exact rfl
  obtain ⟨B, F, X, N, T, hA, hf, hke, hh⟩ := C
  intro g' L' h' tk' cells FG F' N' Y B' X' T' lL HI
  obtain ⟨oc, hE, hoc⟩ := CellsAre.one Y
  subst hE
  clear Y
  try simp only [List.cons_append, List.nil_append] at N'
  try dsimp only
  try k_fold
  try clear N
  obtain ⟨hb, hp, hen, hlg, hed⟩ := layN_b ln
  have BD := BR.dictG HI
  have D := BR.hlay.has HI
  have M := BR.hmem.has HI
  replace hoc : oc.data = .cell none := hoc
  have hwL : wd < L' := lL (wd, o) (.head _)
  have hneC : ∀ p ∈ [(wd, o)], p.1 ≠ L' + 1 := fun p hp => by rw [List.mem_singleton.mp hp]; exact Nat.ne_of_lt (Nat.lt_succ_of_lt hwL)
  k_steps
  rename Obj => o7
  rename_i fa ys kk tl0 ks _ F8 _ N8 hp8 hq8 hs8 hw8 ht8
  obtain ⟨bs, hbase⟩ : ∃ bs, bs = ((L' + 1, o7) :: (wd, o) :: (fa, PySem.W.listOf ys.toArray kk) :: tl0 : List (Addr × Obj)) := ⟨_, rfl⟩
  have NS : News g' L' _ bs := News.sub N8 fun q hq => by
    rw [hbase] at hq
    simp +zetaDelta only [List.mem_cons, List.mem_append, List.not_mem_nil, or_false] at hq ⊢
    grind
  have hfa : (fa, PySem.W.listOf ys.toArray kk) ∈ bs := by rw [hbase]; exact .tail _ (.tail _ (.head _))
  have hwb : (wd, o) ∈ bs := by rw [hbase]; exact .tail _ (.head _)
  have htb : ∀ q ∈ tl0, q ∈ bs := fun q hq => by rw [hbase]; exact .tail _ (.tail _ (.tail _ hq))
  have hlen : ys.toArray.size = ks.length := by rw [List.size_toArray, hp8.len, List.length_map]
  refine SrcOP.ledger hh (by k_asm) NS hfa (by rw [sizeLine_eq, hlen, hq8.length_eq, List.length_map]; omega) fun gH => comp_invP (fun i => JR2 wd bs ((ks.take i).map (cellD pg c))) ⟨[], rfl, RIs.nil, fun _ h => nomatch h⟩ ?turn ?fin
  case turn =>
    rintro i v y2 nw hi hP ⟨tl9, rfl, hr9, ht9⟩
    obtain ⟨r, hr, t, t1, t2, rfl, hm⟩ := hp8.get i (v := v) (by simpa using hP)
    obtain ⟨k, hk, rfl⟩ : ∃ k, ks[i]? = some k ∧ memF2 c k = r := by simpa using hr
    refine ⟨t, _, _, _, 0, rfl, List.mem_append_right _ (htb _ hm), rfl, rfl, fun I oI C oC D m2 h tk E9 hC hx hx2 F9 N9 off => ?_⟩
    replace N9 : News g' L' h ((L' + 1, o7) :: (wd, o) :: (I, oI) :: (C, oC) :: (D, LCg.lst y2) :: (tl9 ++ bs)) := News.sub N9 fun q hq => by
      rw [hbase] at hq ⊢
      simp +zetaDelta only [List.mem_cons, List.mem_append] at hq ⊢
      grind
    try dsimp only
    k_steps
    rw [take_succ (cellD pg c) hk]
    exact jr2_next (by k_asm) (by assumption) hr9 (RI.tup (.head _) (.cons (RI.int _ _) (.cons (RI.int _ _) (.cons (RI.int _ _) .nil)))) ht9 off (by assumption) (show _ ∧ _ ∧ _ ∧ _ ∧ _ ∧ _ from by assumption).2.1 (.inr ⟨_, List.mem_append_right _ hfa, rfl, _, rfl⟩)
  case fin =>
    rintro y2 nw ⟨tl9, rfl, hr9, ht9⟩ D9 h9 tk9 F9 N9 off9
    rw [hlen, List.take_length] at hr9
    try dsimp only
    k_steps
    have hsub : ∀ q ∈ (wd, o) :: ((D9, PySem.W.listOf y2.toArray y2.length) :: tl9), q ∈ (D9, LCg.lst y2) :: (tl9 ++ bs) := fun q hq => by
      rw [hbase]
      simp +zetaDelta only [List.mem_cons, List.mem_append] at hq ⊢
      grind
    exact hR _ _ D9 ((D9, PySem.W.listOf y2.toArray y2.length) :: tl9) ks (by k_asm) (news_res (by assumption) (by assumption) hsub) hq8 hs8 (RI.list (.head _) rfl rfl (hr9.mono fun q hq => .tail _ hq)) (List.forall_mem_cons.mpr ⟨fun e => off1_mem off9 (wd, o) (List.mem_append_right _ hwb) e.symm, ht9⟩) (disj_res N9 HI hsub)
end
end Mine
end W18b
section W7
open PySem PySem.W PyProof.Rows PySem.Calls PySem.Spec PyProof.V
set_option maxRecDepth 100000
set_option maxHeartbeats 8000000
set_option autoImplicit false
namespace Mine

theorem rows_at_66 : True := by
  k_with_none
  k_with "ctx" => ((refine' Ctx.mk ?q0B ?q0F ?q0X ?q0N ?q0T ?q0a ?q0f ?q0k ?q0h; (case q0B => k_asm); (case q0F => k_asm); (case q0X => k_asm); (case q0N => first | k_asm | exact news_swap1 (by k_asm) | exact news_swap2 (by k_asm) | exact news_swap3 (by k_asm)); (case q0T => k_asm); (case q0a => first | assumption | exact Around.frames_deeper (Below.stack (by assumption))); (case q0f => first | assumption | exact rfl); (case q0k => first | assumption | exact rfl); (case q0h => first | assumption | exact rfl)))
  k_with "getAttr ref" => ((k_here; k_dflt (refine' own_get ?q0D ?q0F ?q0X ?q0a ?q0b ?q0c ?q0d ?q0l ?q0v ?_; (case q0D => assumption); (case q0F => k_asm); (case q0X => k_asm); (case q0a => k_is); (case q0b => k_is); (case q0c => k_is); (case q0d => k_is); (case q0l => intro _ _; k_get); (case q0v => k_handed); k_whole)))
  k_with "getMethod ref" => ((k_here; k_dflt (refine' own_meth ?q0D ?q0F ?q0X ?q0a ?q0b ?q0c ?q0l ?_; (case q0D => assumption); (case q0F => k_asm); (case q0X => k_asm); (case q0a => k_is); (case q0b => k_is); (case q0c => k_is); (case q0l => intro _ _; k_get); k_whole)))
  k_with "getMethod ref" => ((k_here; (with_reducible show wpAny _ _ (getMethod (Value.ref _) (PySem.Str.ofString "get") _) _ _ _); k_dflt (refine' w_getm ?q0W ?q0N ?q0p ?_; (case q0W => assumption); (case q0N => k_asm); (case q0p => k_mem); k_whole)))
  k_with "getMethod ref" => ((k_here; (with_reducible show wpAny _ _ (getMethod (Value.ref _) (PySem.Str.ofString "pop") _) _ _ _); k_dflt (refine' w_popm ?q0W ?q0N ?q0p ?_; (case q0W => assumption); (case q0N => k_asm); (case q0p => k_mem); k_whole)))
  k_with "call builtin:dict.get" => ((k_here; k_dflt (refine' w_get ?q0W ?q0N ?q0p ?_; (case q0W => assumption); (case q0N => k_asm); (case q0p => k_mem); k_whole); intro _))
  k_with "call builtin:dict.pop" => ((k_here; k_dflt (refine' w_pop ?q0W ?q0F ?q0N ?q0p ?q0U ?_; (case q0W => assumption); (case q0F => k_asm); (case q0N => k_asm); (case q0p => k_mem); (case q0U => (first | (refine UpdF.head ?_; assumption) | k_updF)); k_whole); intro _ _ _ _ N'; (try dsimp only at N'); (try (revert N'; intro _)); intro _))
  k_with "setItem ref int" => ((k_here; k_dflt (refine' w_set ?q0W ?q0F ?q0N ?q0U ?q0c ?_; (case q0W => assumption); (case q0F => k_asm); (case q0N => k_asm); (case q0U => (first | (refine UpdF.head ?_; assumption) | k_updF)); (case q0c => first | assumption | omega); k_whole); intro _ _ _ N'; (try dsimp only at N'); (try (revert N'; intro _)); intro _))
  k_with "depth" => (first | exact dp1 (by assumption) rfl | exact dp2 (by assumption) rfl | ((simp +zetaDelta only [depth_mark, depth_under_make, depth_under_kw, depth_in1, depth_deeper, depth_caller]); omega))
  k_with "units" => (first | exact up1 (by assumption) rfl | exact up2 (by assumption) rfl | ((simp +zetaDelta only [units_in1, units_deeper, Around.mark_units, units_caller]); omega))
  k_with "apart" => (first | assumption | exact List.forall_mem_cons.mpr ⟨by k_ne, by assumption⟩ | exact List.forall_mem_cons.mpr ⟨by k_ne, List.forall_mem_cons.mpr ⟨by k_ne, by assumption⟩⟩)
  k_with "fact" => (omega)
  k_with "entered" => ((k_dflt ((case k6 => k_is); (case k7 => k_is); (case k8 => walk_at "room"); (case c5 => decide); (case kB => exact locs rfl); (case c2 => exact rfl); (case c3 => exact rfl); (case c4 => exact rfl))))
  k_with "binds" => ((k_dflt (exact BindsTo.of_eq (by kernel_rfl))))
  k_with "dbinds" => ((k_dflt (exact binds_K (Frag.In.keeps (Ctx.X (by assumption)) (Fr.keep (Ctx.F (by assumption)))) rfl (by k_is) rfl rfl (by kernel_rfl))))
  k_with "room" => (((simp only [rl_is]); omega))
  k_with "assign Tuple" => ((k_here; (with_reducible show wpAny _ _ (assign (Expr.Tuple _ _ _) _ (Value.ref _)) _ _ _); k_dflt (refine' unpackN_ ?q0k1 ?q0k2 ?q0k3 ?q0k4 ?q0k5 ?q0k6 ?_; (case q0k1 => k_asm); (case q0k2 => k_asm); (case q0k3 => exact News.isTup (by k_asm) (by k_mem)); (case q0k4 => first | assumption | exact rfl); (case q0k5 => exact rfl); (case q0k6 => exact rfl); k_whole); intro _ _ _; (try k_sweep)))
  k_with "unpackItems ref" => ((k_here; k_dflt (refine' unpackItemsN_ ?q0k1 ?q0k2 ?q0k3 ?q0k4 ?q0k5 ?_; (case q0k1 => k_asm); (case q0k2 => k_asm); (case q0k3 => kun_tup); (case q0k4 => first | assumption | exact rfl); (case q0k5 => exact rfl); k_whole); intro _ _ _; (try k_sweep)))
  k_with "fold" => (((fail_if_success (fail_if_success k_fold)); refine foldQ ?_; intro _))
  k_with "foldS" => (((fail_if_success (fail_if_success k_fold)); refine foldQS ?_; intro _ _))
  k_with "foldE" => (((fail_if_success (fail_if_success (refine swapT ⟨?_, ?_⟩; k_fold))); refine foldEE ?_; intro _))
  trivial

theorem rows_at_67 : True := by
  k_with "eval Name" => ((k_here; k_dflt (refine' nmL ?q0F ?q0v ?_ ?q0L ?q0x; (case q0x => rfl); (case q0F => k_asm); (case q0L => rfl); (case q0v => rfl); k_whole)))
  k_with "storeName" => ((k_here; k_dflt (refine' stL ?q0F ?q0N ?_ ?q0L ?q0x; (case q0x => rfl); (case q0F => k_asm); (case q0L => rfl); (case q0N => k_asm); k_whole; intro _ _ _ _ _ _; (try k_sweep))))
  k_with "subscriptTail" => ((k_here; (with_reducible show wpAny _ _ (subscriptTail _ _ (Value.ref 106) (Value.str _ _)) _ _ _); k_dflt (refine' pf_item ?q0F ?q0X ?q0k ?_; (case q0F => k_asm); (case q0X => k_asm); (case q0k => assumption); k_whole); intro _))
  k_with "exec Raise some none" => ((k_here; (k_dflt (refine' raise_trap ?q0h ?_; (case q0h => first | assumption | exact rfl))); (try dsimp only)))
  k_with "call ref" => (((with_reducible show wpAny _ _ (call (Value.ref 103) _) _ _ _); k_here; (with_reducible refine wpAny_call ?_); k_dflt (refine' c_mktrap ?q0C ?q0c ?q0v ?q0d ?q0u ?_; (case q0C => walk_at "ctx"); (case q0c => first | exact pfS_lt | omega); (case q0v => first | assumption | omega); (case q0d => walk_at "depth"); (case q0u => walk_at "units"); k_whole); intro _ _ _ _ _ _ _ _ _ _ _ _ _ _ _ _ _ _ _ _; (try dsimp only)))
  k_with "Exists" => (((with_reducible show ∃ e t dx, _ = _ ∧ _); refine' ⟨_, _, _, rfl, ?q0X, ?q0e, ?_⟩; (case q0X => exact Frag.In.keeps (by k_asm) (Fr.keep (by k_asm))); (case q0e => exact (News.get (by k_asm) (List.Mem.tail _ (List.Mem.head _)))); (try dsimp only)))
  k_with "leaving ref" => ((k_here; k_dflt (first | (refine' leave_onD ?q0K ?q0F ?q0R ?_; (case q0K => k_asm); (case q0R => assumption); (case q0F => assumption); intro _ _) | (refine' leaveT0 ?q0K ?q0F ?q0N ?q0a ?q0b ?q0c ?q0d ?_; (case q0K => k_asm); (case q0F => k_asm); (case q0N => k_asm); (case q0a => assumption); (case q0b => assumption); (case q0c => assumption); (case q0d => assumption); intro _ _)); (try dsimp only)))
  trivial
section
variable {prog : Program} {w : World} {p : Program} {loose : List Str} {mean : ExcName → Option Value} {mg mb : Str → Option Value} {A A₀ : Around} {env : Env} {outer : List Env} {base h₀ : Heap} {L : Addr} {m : Str → Option Value} {s : Shared} {news : List (Addr × Obj)} {R : Result → Shared → Prop}
theorem rows_at_68 : True := by
  k_with "call ref" => (((with_reducible show wpAny _ _ (call (Value.ref 536) _) _ _ _); k_here; (with_reducible refine call_R ?_); k_dflt (refine' c_get ?q0C ?q0M ?q0W ?q0hp ?q0ha ?q0h4 ?q0hd ?q0hu ?_; (case q0M => assumption); (case q0W => assumption); (case q0C => walk_at "ctx"); (case q0hp => first | assumption | walk_at "fact"); (case q0ha => first | assumption | walk_at "fact"); (case q0h4 => first | assumption | walk_at "fact"); (case q0hd => walk_at "depth"); (case q0hu => walk_at "units"); k_whole); intro _ _ _ _ _ _; (try (first | refine RetQ.ok ?_ | refine RetQ.err ?_)); (try walk_at "fold")))
  k_with "call ref" => (((with_reducible show wpAny _ _ (call (Value.ref 543) _) _ _ _); k_here; (with_reducible refine call_R ?_); k_dflt (refine' c_put ?q0C ?q0M ?q0W ?q0hne ?q0hc ?q0hp ?q0ha ?q0h4 ?q0hv ?q0hd ?q0hu ?_; (case q0M => assumption); (case q0W => assumption); (case q0C => walk_at "ctx"); (case q0hne => walk_at "apart"); (case q0hc => first | assumption | walk_at "fact"); (case q0hp => first | assumption | walk_at "fact"); (case q0ha => first | assumption | walk_at "fact"); (case q0h4 => first | assumption | walk_at "fact"); (case q0hv => first | assumption | walk_at "fact"); (case q0hd => walk_at "depth"); (case q0hu => walk_at "units"); k_whole); intro _ _ _ _ _ _ _; (try (first | refine RetQ.ok ?_ | refine RetQ.err ?_)); (try walk_at "fold")))
  k_with "call ref" => (((with_reducible show wpAny _ _ (call (Value.ref 689) _) _ _ _); k_here; (with_reducible refine call_R ?_); k_dflt (refine' c_load ?q0C ?q0Bu ?q0M ?q0W ?q0hp ?q0ha ?q0h4 ?q0hd ?q0hu ?_; (case q0Bu => assumption); (case q0M => assumption); (case q0W => assumption); (case q0C => walk_at "ctx"); (case q0hp => first | assumption | walk_at "fact"); (case q0ha => first | assumption | walk_at "fact"); (case q0h4 => first | assumption | walk_at "fact"); (case q0hd => walk_at "depth"); (case q0hu => walk_at "units"); k_whole); intro _ _ _ _ _ _; (try (first | refine RetQ.ok ?_ | refine RetQ.err ?_)); (try walk_at "fold")))
  k_with "call ref" => (((with_reducible show wpAny _ _ (call (Value.ref 697) _) _ _ _); k_here; (with_reducible refine call_R ?_); k_dflt (refine' c_store ?q0C ?q0Bu ?q0M ?q0W ?q0hne ?q0hc ?q0hp ?q0ha ?q0h4 ?q0hv ?q0hd ?q0hu ?_; (case q0Bu => assumption); (case q0M => assumption); (case q0W => assumption); (case q0C => walk_at "ctx"); (case q0hne => walk_at "apart"); (case q0hc => first | assumption | walk_at "fact"); (case q0hp => first | assumption | walk_at "fact"); (case q0ha => first | assumption | walk_at "fact"); (case q0h4 => first | assumption | walk_at "fact"); (case q0hv => first | assumption | walk_at "fact"); (case q0hd => walk_at "depth"); (case q0hu => walk_at "units"); k_whole); intro _ _ _ _ _ _ _; (try (first | refine RetQ.ok ?_ | refine RetQ.err ?_)); (try walk_at "fold")))
  k_with "call ref" => (((with_reducible show wpAny _ _ (call (Value.ref 129) _) _ _ _); k_here; (with_reducible refine call_R ?_); k_dflt (refine' c_parts_in ?q0C ?q0D ?q0ln ?q0ha ?q0hd ?q0hu ?_; (case q0D => assumption); (case q0C => walk_at "ctx"); (case q0ln => assumption); (case q0ha => first | assumption | walk_at "fact"); (case q0hd => walk_at "depth"); (case q0hu => walk_at "units"); k_whole); intro _ _ _ _ _ _ _ _ _ _ l1'; (try k_lt l1'); (try (revert l1'; intro _)); (try (first | refine RetQ.ok ?_ | refine RetQ.err ?_)); (try walk_at "fold")))
  k_with "call ref" => (((with_reducible show wpAny _ _ (call (Value.ref 129) _) _ _ _); k_here; (with_reducible refine call_R ?_); k_dflt (refine' c_parts_out ?q0C ?q0D ?q0ln ?q0ha ?q0hd ?q0hu ?_; (case q0D => assumption); (case q0C => walk_at "ctx"); (case q0ln => assumption); (case q0ha => first | assumption | walk_at "fact"); (case q0hd => walk_at "depth"); (case q0hu => walk_at "units"); k_whole); intro _ _ _ _ _; (try (first | refine RetQ.ok ?_ | refine RetQ.err ?_)); (try walk_at "fold")))
  k_with "call ref" => (((with_reducible show wpAny _ _ (call (Value.ref 137) _) _ _ _); k_here; (with_reducible refine call_R ?_); k_dflt (refine' c_address ?q0C ?q0D ?q0ln ?q0hf1 ?q0hg1 ?q0hq1 ?q0hd ?q0hu ?_; (case q0D => assumption); (case q0C => walk_at "ctx"); (case q0ln => assumption); (case q0hf1 => first | assumption | walk_at "fact"); (case q0hg1 => first | assumption | walk_at "fact"); (case q0hq1 => first | assumption | walk_at "fact"); (case q0hd => walk_at "depth"); (case q0hu => walk_at "units"); k_whole); intro _ _ _ _ _ _; (try (first | refine RetQ.ok ?_ | refine RetQ.err ?_)); (try walk_at "fold")))
  k_with "call ref" => (((with_reducible show wpAny _ _ (call (Value.ref 144) _) _ _ _); k_here; (with_reducible refine call_R ?_); k_dflt (refine' c_down ?q0C ?q0D ?q0ln ?q0ha ?q0hd ?q0hu ?_; (case q0D => assumption); (case q0C => walk_at "ctx"); (case q0ln => assumption); (case q0ha => first | assumption | walk_at "fact"); (case q0hd => walk_at "depth"); (case q0hu => walk_at "units"); k_whole); intro _ _ _ _ _ _; (try (first | refine RetQ.ok ?_ | refine RetQ.err ?_)); (try walk_at "fold")))
  k_with "call ref" => (((with_reducible show wpAny _ _ (call (Value.ref 158) _) _ _ _); k_here; (with_reducible refine call_R ?_); k_dflt (refine' c_is_begin ?q0C ?q0D ?q0ln ?q0ha ?q0hd ?q0hu ?_; (case q0D => assumption); (case q0C => walk_at "ctx"); (case q0ln => assumption); (case q0ha => first | assumption | walk_at "fact"); (case q0hd => walk_at "depth"); (case q0hu => walk_at "units"); k_whole); intro _ _ _ _ _; (try (first | refine RetQ.ok ?_ | refine RetQ.err ?_)); (try walk_at "fold")))
  k_with "call ref" => (((with_reducible show wpAny _ _ (call (Value.ref 172) _) _ _ _); k_here; (with_reducible refine call_R ?_); k_dflt (refine' c_lentry ?q0C ?q0D ?q0ln ?q0ha ?q0hf1 ?q0hd ?q0hu ?_; (case q0D => assumption); (case q0C => walk_at "ctx"); (case q0ln => assumption); (case q0ha => first | assumption | walk_at "fact"); (case q0hf1 => first | assumption | walk_at "fact"); (case q0hd => walk_at "depth"); (case q0hu => walk_at "units"); k_whole); intro _ _ _ _ _ _; (try (first | refine RetQ.ok ?_ | refine RetQ.err ?_)); (try walk_at "fold")))
  k_with "call ref" => (((with_reducible show wpAny _ _ (call (Value.ref 179) _) _ _ _); k_here; (with_reducible refine call_R ?_); k_dflt (refine' c_lphysical ?q0C ?q0D ?q0ln ?q0he ?q0hd ?q0hu ?_; (case q0D => assumption); (case q0C => walk_at "ctx"); (case q0ln => assumption); (case q0he => first | assumption | walk_at "fact"); (case q0hd => walk_at "depth"); (case q0hu => walk_at "units"); k_whole); intro _ _ _ _ _ _; (try (first | refine RetQ.ok ?_ | refine RetQ.err ?_)); (try walk_at "fold")))
  k_with "call ref" => (((with_reducible show wpAny _ _ (call (Value.ref 198) _) _ _ _); k_here; (with_reducible refine call_R ?_); k_dflt (refine' c_is_leaf ?q0C ?q0he ?q0hd ?q0hu ?_; (case q0C => walk_at "ctx"); (case q0he => first | assumption | walk_at "fact"); (case q0hd => walk_at "depth"); (case q0hu => walk_at "units"); k_whole); intro _ _ _ _ _; (try (first | refine RetQ.ok ?_ | refine RetQ.err ?_)); (try walk_at "fold")))
  k_with "call ref" => (((with_reducible show wpAny _ _ (call (Value.ref 205) _) _ _ _); k_here; (with_reducible refine call_R ?_); k_dflt (refine' c_is_sound ?q0C ?q0he ?q0hd ?q0hu ?_; (case q0C => walk_at "ctx"); (case q0he => first | assumption | walk_at "fact"); (case q0hd => walk_at "depth"); (case q0hu => walk_at "units"); k_whole); intro _ _ _ _ _; (try (first | refine RetQ.ok ?_ | refine RetQ.err ?_)); (try walk_at "fold")))
  k_with "call ref" => (((with_reducible show wpAny _ _ (call (Value.ref 212) _) _ _ _); k_here; (with_reducible refine call_R ?_); k_dflt (refine' c_may ?q0C ?q0he ?q0hd ?q0hu ?_; (case q0C => walk_at "ctx"); (case q0he => first | assumption | walk_at "fact"); (case q0hd => walk_at "depth"); (case q0hu => walk_at "units"); k_whole); intro _ _ _ _ _; (try (first | refine RetQ.ok ?_ | refine RetQ.err ?_)); (try walk_at "fold")))
  k_with "call ref" => (((with_reducible show wpAny _ _ (call (Value.ref 241) _) _ _ _); k_here; (with_reducible refine call_R ?_); k_dflt (refine' c_entry_at ?q0C ?q0Wa ?q0Bu ?q0M ?q0W ?q0hcv ?q0hp ?q0ha ?q0h4 ?q0hk ?q0had ?q0hd ?q0hu ?_ ?_; (case q0Wa => assumption); (case q0Bu => assumption); (case q0M => assumption); (case q0W => assumption); (case q0C => walk_at "ctx"); (case q0hcv => assumption); (case q0hp => first | assumption | walk_at "fact"); (case q0ha => first | assumption | walk_at "fact"); (case q0h4 => first | assumption | walk_at "fact"); (case q0hk => assumption); (case q0had => first | assumption | walk_at "fact"); (case q0hd => walk_at "depth"); (case q0hu => walk_at "units"); k_whole); rotate_left; (intro _ _ _ _ _ _ _ _ _ _; (try (first | refine RetQ.ok ?_ | refine RetQ.err ?_)); (try walk_at "fold")); rotate_left; (intro _ _ _ _ _ _ _; (try (first | refine RetQ.ok ?_ | refine RetQ.err ?_)); (try walk_at "fold"))))
  k_with "call ref" => (((with_reducible show wpAny _ _ (call (Value.ref 255) _) _ _ _); k_here; (with_reducible refine call_R ?_); k_dflt (refine' c_mark ?q0C ?q0Wa ?q0Bu ?q0M ?q0W ?q0hne ?q0hc ?q0hp ?q0ha ?q0h4 ?q0he ?q0had ?q0hk ?q0hd ?q0hu ?_; (case q0Wa => assumption); (case q0Bu => assumption); (case q0M => assumption); (case q0W => assumption); (case q0C => walk_at "ctx"); (case q0hne => walk_at "apart"); (case q0hc => first | assumption | walk_at "fact"); (case q0hp => first | assumption | walk_at "fact"); (case q0ha => first | assumption | walk_at "fact"); (case q0h4 => first | assumption | walk_at "fact"); (case q0he => first | assumption | walk_at "fact"); (case q0had => first | assumption | walk_at "fact"); (case q0hk => assumption); (case q0hd => walk_at "depth"); (case q0hu => walk_at "units"); k_whole); intro _ _ _ _ _ _ _; (try (first | refine RetQ.ok ?_ | refine RetQ.err ?_)); (try walk_at "fold")))
  k_with "call ref" => (((with_reducible show wpAny _ _ (call (Value.ref 248) _) _ _ _); k_here; (with_reducible refine call_R ?_); k_dflt (refine' c_large_page ?q0C ?q0Wa ?q0D ?q0ln ?q0Bu ?q0M ?q0W ?q0hne ?q0hc ?q0ha ?q0h4 ?q0he ?q0had ?q0hk ?q0hd ?q0hu ?_ ?_; (case q0Wa => assumption); (case q0D => assumption); (case q0Bu => assumption); (case q0M => assumption); (case q0W => assumption); (case q0C => walk_at "ctx"); (case q0ln => assumption); (case q0hne => walk_at "apart"); (case q0hc => first | assumption | walk_at "fact"); (case q0ha => first | assumption | walk_at "fact"); (case q0h4 => first | assumption | walk_at "fact"); (case q0he => first | assumption | walk_at "fact"); (case q0had => first | assumption | walk_at "fact"); (case q0hk => assumption); (case q0hd => walk_at "depth"); (case q0hu => walk_at "units"); k_whole); rotate_left; (intro _ _ _ _ _ _ _ _ _ _; (try (first | refine RetQ.ok ?_ | refine RetQ.err ?_)); (try walk_at "fold")); rotate_left; (intro _ _ _ _ _ _ _ _ _; (try (first | refine RetQ.ok ?_ | refine RetQ.err ?_)); (try walk_at "fold"))))
  k_with "fact" => (first | exact (p2 (by assumption) (by assumption)).1 | exact (p2 (by assumption) (by assumption)).2)
  trivial
theorem c_translate {wal bus lay mem wd str : Addr} {b pg en lg ed : Int} {tl tt : Toks} {o : Obj} {c : List (Int × Int)} {rest : List (Addr × Obj)} {ad mode sm mx : Int} {t u v x2 x3 x4 : Tok} {k : Str} (C : Ctx w p loose mean mg mb A A₀ env outer base h₀ L s.heap m ((wd, o) :: rest)) (Wa : Has h₀ wal 266 (walF bus lay)) (D : Has h₀ lay 182 (layF b pg en lg ed tl)) (ln : LayN b pg en lg ed) (Bu : Has h₀ bus 714 (busF mem str)) (M : Has h₀ mem 607 (memF pg wd tt)) (W : WD prog w wd o c) (hne : ∀ p ∈ rest, p.1 ≠ wd) (hc : c.length < 900) (hcv : ∀ i, 0 ≤ kdfLook c i 0 ∧ kdfLook c i 0 < 65536) (ine : 0 ≤ ad ∧ ad < ed) (hk : KindIs k) (p1 : 0 ≤ p1S b ad ∧ p1S b ad + 4 ≤ 4 * pg) (p1m : (p1S b ad).fmod 4 = 0) (p2 : soundS (e1S b ad c) = true → leafS (e1S b ad c) = false → (0 ≤ p2S b en ad c ∧ p2S b en ad c + 4 ≤ 4 * pg) ∧ (p2S b en ad c).fmod 4 = 0) (hd : A.depth ≤ 560) (hu : A.units ≤ 5600)
  (hR : ∀ h' tk (v' : Int) (c' : Cs) (t' : Tok) (o' : Obj), let st' : Shared := { s with heap := h', toks := tk }; Fr h₀ L h' m → News h₀ L h' ((wd, o') :: rest) → trS b pg en lg ad c k mode sm mx = some (v', c') → WD prog w wd o' c' → R (.ok (.ret (.int v' t'))) st')
  (hE : ∀ h' tk g' (xe xd : Addr) (xD : Obj), trS b pg en lg ad c k mode sm mx = none → TrapD (pfS k) (ad) xD → Fr h₀ L g' m → Thr base g' (env :: outer) xe 103 (some xd) ((xd, xD) :: ((wd, o) :: rest)) h' → R (.error (.ref xe)) { s with heap := h', toks := tk }) :
    codeAny (model prog w) A (.call (.ref 234) ⟨[.ref wal, .int 0 t, .int ad u, .str k v, .int mode x2, .int sm x3, .int mx x4], []⟩) R s := by
  refine' enter [("self", .ref wal), ("root", .int 0 t), ("address", .int ad u), ("kind", .str k v), ("mode", .int mode x2), ("sum_bit", .int sm x3), ("mxr", .int mx x4)] C ?k6 ?k7 ?k8 ?k9 ?kB ?c2 ?c3 ?c4 ?c5 ?_
  walk_at "entered"
  case k9 => walk_at "dbinds"
  obtain ⟨B, F, X, N, T, hA, hf, hke, hh⟩ := C
  intro g' L' h' tk' FG F' N' B' X' T'
  replace Wa := Wa.keeps FG.keep
  replace D := D.keeps FG.keep
  replace Bu := Bu.keeps FG.keep
  replace M := M.keeps FG.keep
  try dsimp only
  refine foldEnter (f := execs) F' ?_
  clear F'
  intro M9 en9 A9 m9 qk ek st9 F'
  try clear N
  obtain ⟨hb, hp, hen, hlg, hed⟩ := layN_b ln
  have v1 := hcv ((p1S b ad).fdiv 4)
  have v2 := hcv ((p2S b en ad c).fdiv 4)
  k_steps
  all_goals first
    | (refine' hE _ _ _ _ _ _ ?s ?T FG ?R
       case s => first | exact tr1 (by with_reducible assumption) | exact tr2 (by with_reducible assumption) (by with_reducible assumption) (by with_reducible assumption) | exact tr4 (by with_reducible assumption) (by with_reducible assumption) (by with_reducible assumption) | exact tr6 (by with_reducible assumption) (by with_reducible assumption) (by with_reducible assumption) (by with_reducible assumption) (by with_reducible assumption) | exact tr5 (by with_reducible assumption) (by with_reducible assumption) (by with_reducible assumption) (by with_reducible assumption)
       case R => first | (with_reducible assumption) | exact Thr.sub (by with_reducible assumption) sub2 | exact Thr.sub (by with_reducible assumption) sub3
       case T => first | (with_reducible assumption) | exact TrapD.mk')
    | (refine' hR _ _ _ _ _ _ ?F ?N ?s ?W
       case s => first | exact tr3 (by with_reducible assumption) (by with_reducible assumption) (by with_reducible assumption) | exact tr7 (by with_reducible assumption) (by with_reducible assumption) (by with_reducible assumption) (by with_reducible assumption) (by with_reducible assumption)
       case W => (with_reducible assumption)
       case F => k_asm
       case N => first | exact News.sub (by k_asm) sub1 | exact News.sub (by k_asm) sub2)
theorem rows_at_69 : True := by
  k_with "call ref" => (((with_reducible show wpAny _ _ (call (Value.ref 234) _) _ _ _); k_here; (with_reducible refine call_R ?_); k_dflt (refine' c_translate ?q0C ?q0Wa ?q0D ?q0ln ?q0Bu ?q0M ?q0W ?q0hne ?q0hc ?q0hcv ?q0ine ?q0hk ?q0p1 ?q0p1m ?q0p2 ?q0hd ?q0hu ?_ ?_; (case q0Wa => assumption); (case q0D => assumption); (case q0Bu => assumption); (case q0M => assumption); (case q0W => assumption); (case q0C => walk_at "ctx"); (case q0ln => assumption); (case q0hne => walk_at "apart"); (case q0hc => first | assumption | walk_at "fact"); (case q0hcv => assumption); (case q0ine => first | assumption | walk_at "fact"); (case q0hk => assumption); (case q0p1 => first | assumption | walk_at "fact"); (case q0p1m => first | assumption | walk_at "fact"); (case q0p2 => first | assumption | walk_at "fact"); (case q0hd => walk_at "depth"); (case q0hu => walk_at "units"); k_whole); rotate_left; (intro _ _ _ _ _ _ _ _ _ _; (try (first | refine RetQ.ok ?_ | refine RetQ.err ?_)); (try walk_at "fold")); rotate_left; (intro _ _ _ _ _ _ _ _ _ _ _; (try (first | refine RetQ.ok ?_ | refine RetQ.err ?_)); (try walk_at "fold"))))
  trivial
end
end Mine
end W7
section W8
open PySem PySem.W PyProof.Rows PySem.Calls PySem.Spec PyProof.V
set_option maxRecDepth 100000
set_option maxHeartbeats 8000000
set_option autoImplicit false
namespace Mine


theorem rows_at_70 : True := by
  k_with "noteFrame ref" => ((k_here; k_dflt (refine' lookD ?q0R ?q0F ?q0K ?_; (case q0R => assumption); (case q0F => assumption); (case q0K => assumption); k_whole); intro _ _; (try dsimp only)))
  k_with "handleBy ref" => ((k_here; k_dflt (refine' hitDB ?q0R ?q0F ?q0K ?q0XB ?q0TB ?q0D ?q0T0 ?q0T ?_; (case q0R => assumption); (case q0F => assumption); (case q0K => assumption); (case q0XB => assumption); (case q0TB => assumption); (case q0D => assumption); (case q0T0 => exact KtsTurn.refl); (case q0T => kts_test); k_whole); intro _ _ _ _ _ _ _ _ _ _ _ _; (try dsimp only)))
  k_with "getAttr ref" => ((k_here; (with_reducible show wpAny _ _ (getAttr (Value.ref _) (PySem.Str.ofString "cause") _) _ _ _); k_dflt (refine' trap_cause ?q0F ?q0X ?q0N ?q0T ?_; (case q0F => k_asm); (case q0X => k_asm); (case q0N => k_asm); (case q0T => assumption); k_whole); intro _))
  trivial
section
variable {prog : Program} {w : World} {p : Program} {loose : List Str} {mean : ExcName → Option Value} {mg mb : Str → Option Value} {A A₀ : Around} {env : Env} {outer : List Env} {base h₀ : Heap} {L : Addr} {m : Str → Option Value} {s : Shared} {news : List (Addr × Obj)} {R : Result → Shared → Prop}
theorem c_probe {cn : Str} {cs : Scope} {ccd : Value} {La : Addr} {wal bus lay mem wd str : Addr} {b pg en lg ed : Int} {tl tt : Toks} {o : Obj} {c : List (Int × Int)} {rest : List (Addr × Obj)} {ad mode sm mx : Int} {t u v x2 x3 x4 : Tok} {k : Str} (C : Ctx w p loose mean mg mb A A₀ (envOf cn cs L La ccd) outer base h₀ L s.heap m ((wd, o) :: rest)) (S : CtxS w p loose mean mg mb outer base h₀) (Wa : Has h₀ wal 266 (walF bus lay)) (D : Has h₀ lay 182 (layF b pg en lg ed tl)) (ln : LayN b pg en lg ed) (Bu : Has h₀ bus 714 (busF mem str)) (M : Has h₀ mem 607 (memF pg wd tt)) (W : WD prog w wd o c) (hne : ∀ p ∈ rest, p.1 ≠ wd) (hc : c.length < 900) (hcv : ∀ i, 0 ≤ kdfLook c i 0 ∧ kdfLook c i 0 < 65536) (ine : 0 ≤ ad ∧ ad < ed) (hk : KindIs k) (p1 : 0 ≤ p1S b ad ∧ p1S b ad + 4 ≤ 4 * pg) (p1m : (p1S b ad).fmod 4 = 0) (p2 : soundS (e1S b ad c) = true → leafS (e1S b ad c) = false → (0 ≤ p2S b en ad c ∧ p2S b en ad c + 4 ≤ 4 * pg) ∧ (p2S b en ad c).fmod 4 = 0) (hd : A.depth ≤ 560) (hu : A.units ≤ 5600)
  (hR : ∀ h' tk (v' : Int) (c' : Cs) (t' : Tok), Fr h₀ L h' m → News h₀ L h' ((wd, o) :: rest) → trS b pg en lg ad c k mode sm mx = some (v', c') → R (.ok (.ret (.int v' t'))) { s with heap := h', toks := tk })
  (hN : ∀ h' tk h₀' (x : Addr) (t' : Tok), KtsTurn (outer.filterMap (·.frame)) h₀ h₀' → Fr h₀' L h' m → News h₀' L h' ((x, tupObj [.int (pfS k) t']) :: (wd, o) :: rest) → Below A₀ base outer h₀' → (K w.params).In h₀' → Top p loose mean mg mb h₀' → KtsDicts (outer.filterMap (·.frame)) h₀' → trS b pg en lg ad c k mode sm mx = none → wd < x → AllLt x rest → R (.ok (.ret (.ref x))) { s with heap := h', toks := tk }) :
    codeAny (model prog w) A (.call (.ref 263) ⟨[.ref wal, .int 0 t, .int ad u, .str k v, .int mode x2, .int sm x3, .int mx x4], []⟩) R s := by
  refine' enterS [("self", .ref wal), ("root", .int 0 t), ("address", .int ad u), ("kind", .str k v), ("mode", .int mode x2), ("sum_bit", .int sm x3), ("mxr", .int mx x4)] C S ?k6 ?k7 ?k8 ?k9 ?kB ?c2 ?c3 ?c4 ?c5 ?_
  walk_at "entered"
  case k9 => walk_at "dbinds"
  obtain ⟨B, F, X, N, T, hA, hf, hke, hh⟩ := C
  obtain ⟨XB, TB, DD⟩ := S
  intro g' L' h' tk' FG F' N' B' X' T' D'
  replace Wa := Wa.keeps FG.keep
  replace D := D.keeps FG.keep
  replace Bu := Bu.keeps FG.keep
  replace M := M.keeps FG.keep
  try dsimp only
  refine foldEnter (f := execs) F' ?_
  clear F'
  intro M9 en9 A9 m9 qk ek st9 F'
  try clear N
  obtain ⟨hb, hp, hen, hlg, hed⟩ := layN_b ln
  have v1 := hcv ((p1S b ad).fdiv 4)
  have v2 := hcv ((p2S b en ad c).fdiv 4)
  have pm := fun e => phys_mod (e := e) ln
  k_steps
  all_goals first
    | exact absurd (pm _) (by with_reducible assumption)
    | (refine' hN _ _ _ _ _ ?T ?F ?N ?B ?X ?P ?D ?s ?l ?l2
       case s => first | exact tr1 (by with_reducible assumption) | exact tr2 (by with_reducible assumption) (by with_reducible assumption) (okL_f1 (by with_reducible assumption)) | exact tr2 (by with_reducible assumption) (by with_reducible assumption) (okL_f2 (by with_reducible assumption)) | exact tr4 (by with_reducible assumption) (by with_reducible assumption) (by with_reducible assumption) | exact tr6 (by with_reducible assumption) (by with_reducible assumption) (by with_reducible assumption) (by with_reducible assumption) (by with_reducible assumption) | exact tr5 (by with_reducible assumption) (by with_reducible assumption) (by with_reducible assumption) (by with_reducible assumption)
       case T => first | (with_reducible assumption) | exact KtsTurn.refl
       case F => k_asm
       case N => first | exact News.sub (by k_asm) sub2 | exact News.sub (by k_asm) sub3 | exact News.sub (by k_asm) sub7 | exact News.sub (by k_asm) sub8
       case B => (with_reducible assumption)
       case X => (with_reducible assumption)
       case P => (with_reducible assumption)
       case D => (with_reducible assumption)
       case l => first | exact (show _ ∧ _ from by assumption).1 | exact (show _ ∧ _ ∧ _ from by assumption).2.1 | exact (show _ ∧ _ ∧ _ ∧ _ from by assumption).2.2.1 | exact (show _ ∧ _ ∧ _ ∧ _ ∧ _ from by assumption).2.2.2.1
       case l2 => first | exact (show _ ∧ _ ∧ _ from by assumption).2.2 | exact (show _ ∧ _ ∧ _ ∧ _ ∧ _ from by assumption).2.2.2.2)
    | (refine' hR _ _ _ _ _ ?F ?N ?s
       case s => first | exact tr3 (by with_reducible assumption) (by with_reducible assumption) (okL_t (by with_reducible assumption) (by with_reducible assumption)) | exact tr7 (by with_reducible assumption) (by with_reducible assumption) (by with_reducible assumption) (by with_reducible assumption) (by with_reducible assumption)
       case F => k_asm
       case N => first | exact News.sub (by k_asm) sub1 | exact News.sub (by k_asm) sub2)
end
end Mine
end W8
section W9c
open PySem PySem.W PyProof.Rows PySem.Calls PySem.Spec PyProof.V
set_option maxRecDepth 100000
set_option maxHeartbeats 8000000
set_option autoImplicit false
namespace Mine

theorem rows_at_71 : True := by
  k_with_none
  k_with "ctx" => ((refine' Ctx.mk ?q0B ?q0F ?q0X ?q0N ?q0T ?q0a ?q0f ?q0k ?q0h; (case q0B => k_asm); (case q0F => k_asm); (case q0X => k_asm); (case q0N => first | k_asm | exact news_swap1 (by k_asm) | exact news_swap2 (by k_asm) | exact news_swap3 (by k_asm)); (case q0T => k_asm); (case q0a => first | assumption | exact Around.frames_deeper (Below.stack (by assumption))); (case q0f => first | assumption | exact rfl); (case q0k => first | assumption | exact rfl); (case q0h => first | assumption | exact rfl)))
  k_with "getAttr ref" => ((k_here; k_dflt (refine' own_get ?q0D ?q0F ?q0X ?q0a ?q0b ?q0c ?q0d ?q0l ?q0v ?_; (case q0D => assumption); (case q0F => k_asm); (case q0X => k_asm); (case q0a => k_is); (case q0b => k_is); (case q0c => k_is); (case q0d => k_is); (case q0l => intro _ _; k_get); (case q0v => k_handed); k_whole)))
  k_with "getMethod ref" => ((k_here; k_dflt (refine' own_meth ?q0D ?q0F ?q0X ?q0a ?q0b ?q0c ?q0l ?_; (case q0D => assumption); (case q0F => k_asm); (case q0X => k_asm); (case q0a => k_is); (case q0b => k_is); (case q0c => k_is); (case q0l => intro _ _; k_get); k_whole)))
  k_with "getMethod ref" => ((k_here; (with_reducible show wpAny _ _ (getMethod (Value.ref _) (PySem.Str.ofString "get") _) _ _ _); k_dflt (refine' w_getm ?q0W ?q0N ?q0p ?_; (case q0W => assumption); (case q0N => k_asm); (case q0p => k_mem); k_whole)))
  k_with "getMethod ref" => ((k_here; (with_reducible show wpAny _ _ (getMethod (Value.ref _) (PySem.Str.ofString "pop") _) _ _ _); k_dflt (refine' w_popm ?q0W ?q0N ?q0p ?_; (case q0W => assumption); (case q0N => k_asm); (case q0p => k_mem); k_whole)))
  k_with "call builtin:dict.get" => ((k_here; k_dflt (refine' w_get ?q0W ?q0N ?q0p ?_; (case q0W => assumption); (case q0N => k_asm); (case q0p => k_mem); k_whole); intro _))
  k_with "call builtin:dict.pop" => ((k_here; k_dflt (refine' w_pop ?q0W ?q0F ?q0N ?q0p ?q0U ?_; (case q0W => assumption); (case q0F => k_asm); (case q0N => k_asm); (case q0p => k_mem); (case q0U => (first | (refine UpdF.head ?_; assumption) | k_updF)); k_whole); intro _ _ _ _ N'; (try dsimp only at N'); (try (revert N'; intro _)); intro _))
  k_with "setItem ref int" => ((k_here; k_dflt (refine' w_set ?q0W ?q0F ?q0N ?q0U ?q0c ?_; (case q0W => assumption); (case q0F => k_asm); (case q0N => k_asm); (case q0U => (first | (refine UpdF.head ?_; assumption) | k_updF)); (case q0c => first | assumption | omega); k_whole); intro _ _ _ N'; (try dsimp only at N'); (try (revert N'; intro _)); intro _))
  k_with "depth" => (first | exact dp1 (by assumption) rfl | exact dp2 (by assumption) rfl | ((simp +zetaDelta only [depth_mark, depth_under_make, depth_under_kw, depth_in1, depth_deeper, depth_caller]); omega))
  k_with "units" => (first | exact up1 (by assumption) rfl | exact up2 (by assumption) rfl | ((simp +zetaDelta only [units_in1, units_deeper, Around.mark_units, units_caller]); omega))
  k_with "apart" => (first | assumption | exact List.forall_mem_cons.mpr ⟨by k_ne, by assumption⟩ | exact List.forall_mem_cons.mpr ⟨by k_ne, List.forall_mem_cons.mpr ⟨by k_ne, by assumption⟩⟩)
  k_with "fact" => (omega)
  k_with "entered" => ((k_dflt ((case k6 => k_is); (case k7 => k_is); (case k8 => walk_at "room"); (case c5 => decide); (case kB => exact locs rfl); (case c2 => exact rfl); (case c3 => exact rfl); (case c4 => exact rfl))))
  k_with "binds" => ((k_dflt (exact BindsTo.of_eq (by kernel_rfl))))
  k_with "dbinds" => ((k_dflt (exact binds_K (Frag.In.keeps (Ctx.X (by assumption)) (Fr.keep (Ctx.F (by assumption)))) rfl (by k_is) rfl rfl (by kernel_rfl))))
  k_with "room" => (((simp only [rl_is]); omega))
  k_with "assign Tuple" => ((k_here; (with_reducible show wpAny _ _ (assign (Expr.Tuple _ _ _) _ (Value.ref _)) _ _ _); k_dflt (refine' unpackN_ ?q0k1 ?q0k2 ?q0k3 ?q0k4 ?q0k5 ?q0k6 ?_; (case q0k1 => k_asm); (case q0k2 => k_asm); (case q0k3 => exact News.isTup (by k_asm) (by k_mem)); (case q0k4 => first | assumption | exact rfl); (case q0k5 => exact rfl); (case q0k6 => exact rfl); k_whole); intro _ _ _; (try k_sweep)))
  k_with "unpackItems ref" => ((k_here; k_dflt (refine' unpackItemsN_ ?q0k1 ?q0k2 ?q0k3 ?q0k4 ?q0k5 ?_; (case q0k1 => k_asm); (case q0k2 => k_asm); (case q0k3 => kun_tup); (case q0k4 => first | assumption | exact rfl); (case q0k5 => exact rfl); k_whole); intro _ _ _; (try k_sweep)))
  k_with "fold" => (((fail_if_success (fail_if_success k_fold)); refine foldQ ?_; intro _))
  k_with "foldS" => (((fail_if_success (fail_if_success k_fold)); refine foldQS ?_; intro _ _))
  k_with "foldE" => (((fail_if_success (fail_if_success (refine swapT ⟨?_, ?_⟩; k_fold))); refine foldEE ?_; intro _))
  trivial

theorem rows_at_72 : True := by
  k_with "eval Name" => ((k_here; k_dflt (refine' nmL ?q0F ?q0v ?_ ?q0L ?q0x; (case q0x => rfl); (case q0F => k_asm); (case q0L => rfl); (case q0v => rfl); k_whole)))
  k_with "storeName" => ((k_here; k_dflt (refine' stL ?q0F ?q0N ?_ ?q0L ?q0x; (case q0x => rfl); (case q0F => k_asm); (case q0L => rfl); (case q0N => k_asm); k_whole; intro _ _ _ _ _ _; (try k_sweep))))
  trivial
section
variable {prog : Program} {w : World} {p : Program} {loose : List Str} {mean : ExcName → Option Value} {mg mb : Str → Option Value} {A A₀ : Around} {env : Env} {outer : List Env} {base h₀ : Heap} {L : Addr} {m : Str → Option Value} {s : Shared} {news : List (Addr × Obj)} {R : Result → Shared → Prop}
theorem rows_at_73 : True := by
  k_with "call ref" => (((with_reducible show wpAny _ _ (call (Value.ref 473) _) _ _ _); k_here; (with_reducible refine call_R ?_); k_dflt (refine' c_need_aligned ?q0C ?q0M ?q0hp ?q0ha ?q0h4 ?q0hd ?q0hu ?_; (case q0M => assumption); (case q0C => walk_at "ctx"); (case q0hp => first | assumption | walk_at "fact"); (case q0ha => first | assumption | walk_at "fact"); (case q0h4 => first | assumption | walk_at "fact"); (case q0hd => walk_at "depth"); (case q0hu => walk_at "units"); k_whole); intro _ _ _ _ _; (try (first | refine RetQ.ok ?_ | refine RetQ.err ?_)); (try walk_at "fold")))
  k_with "call ref" => (((with_reducible show wpAny _ _ (call (Value.ref 494) _) _ _ _); k_here; (with_reducible refine call_R ?_); k_dflt (refine' c_keep ?q0C ?q0M ?q0W ?q0hne ?q0hc ?q0hd ?q0hu ?_; (case q0M => assumption); (case q0W => assumption); (case q0C => walk_at "ctx"); (case q0hne => walk_at "apart"); (case q0hc => first | assumption | walk_at "fact"); (case q0hd => walk_at "depth"); (case q0hu => walk_at "units"); k_whole); intro _ _ _ _ _ _ _; (try (first | refine RetQ.ok ?_ | refine RetQ.err ?_)); (try walk_at "fold")))
  k_with "call ref" => (((with_reducible show wpAny _ _ (call (Value.ref 480) _) _ _ _); k_here; (with_reducible refine call_R ?_); k_dflt (refine' c_word ?q0C ?q0M ?q0W ?q0hp ?q0ha ?q0h4 ?q0hd ?q0hu ?_; (case q0M => assumption); (case q0W => assumption); (case q0C => walk_at "ctx"); (case q0hp => first | assumption | walk_at "fact"); (case q0ha => first | assumption | walk_at "fact"); (case q0h4 => first | assumption | walk_at "fact"); (case q0hd => walk_at "depth"); (case q0hu => walk_at "units"); k_whole); intro _ _ _ _ _ _; (try (first | refine RetQ.ok ?_ | refine RetQ.err ?_)); (try walk_at "fold")))
  k_with "call ref" => (((with_reducible show wpAny _ _ (call (Value.ref 487) _) _ _ _); k_here; (with_reducible refine call_R ?_); k_dflt (refine' c_put_word ?q0C ?q0M ?q0W ?q0hne ?q0hc ?q0hp ?q0ha ?q0h4 ?q0hv ?q0hd ?q0hu ?_; (case q0M => assumption); (case q0W => assumption); (case q0C => walk_at "ctx"); (case q0hne => walk_at "apart"); (case q0hc => first | assumption | walk_at "fact"); (case q0hp => first | assumption | walk_at "fact"); (case q0ha => first | assumption | walk_at "fact"); (case q0h4 => first | assumption | walk_at "fact"); (case q0hv => first | assumption | walk_at "fact"); (case q0hd => walk_at "depth"); (case q0hu => walk_at "units"); k_whole); intro _ _ _ _ _ _ _; (try (first | refine RetQ.ok ?_ | refine RetQ.err ?_)); (try walk_at "fold")))
  k_with "call ref" => (((with_reducible show wpAny _ _ (call (Value.ref 129) _) _ _ _); k_here; (with_reducible refine call_R ?_); k_dflt (refine' c_parts_in ?q0C ?q0D ?q0ln ?q0ha ?q0hd ?q0hu ?_; (case q0D => assumption); (case q0C => walk_at "ctx"); (case q0ln => assumption); (case q0ha => first | assumption | walk_at "fact"); (case q0hd => walk_at "depth"); (case q0hu => walk_at "units"); k_whole); intro _ _ _ _ _ _ _ _ _ _ l1'; (try k_lt l1'); (try (revert l1'; intro _)); (try (first | refine RetQ.ok ?_ | refine RetQ.err ?_)); (try walk_at "fold")))
  k_with "call ref" => (((with_reducible show wpAny _ _ (call (Value.ref 129) _) _ _ _); k_here; (with_reducible refine call_R ?_); k_dflt (refine' c_parts_out ?q0C ?q0D ?q0ln ?q0ha ?q0hd ?q0hu ?_; (case q0D => assumption); (case q0C => walk_at "ctx"); (case q0ln => assumption); (case q0ha => first | assumption | walk_at "fact"); (case q0hd => walk_at "depth"); (case q0hu => walk_at "units"); k_whole); intro _ _ _ _ _; (try (first | refine RetQ.ok ?_ | refine RetQ.err ?_)); (try walk_at "fold")))
  k_with "call ref" => (((with_reducible show wpAny _ _ (call (Value.ref 137) _) _ _ _); k_here; (with_reducible refine call_R ?_); k_dflt (refine' c_address ?q0C ?q0D ?q0ln ?q0hf1 ?q0hg1 ?q0hq1 ?q0hd ?q0hu ?_; (case q0D => assumption); (case q0C => walk_at "ctx"); (case q0ln => assumption); (case q0hf1 => first | assumption | walk_at "fact"); (case q0hg1 => first | assumption | walk_at "fact"); (case q0hq1 => first | assumption | walk_at "fact"); (case q0hd => walk_at "depth"); (case q0hu => walk_at "units"); k_whole); intro _ _ _ _ _ _; (try (first | refine RetQ.ok ?_ | refine RetQ.err ?_)); (try walk_at "fold")))
  k_with "call ref" => (((with_reducible show wpAny _ _ (call (Value.ref 144) _) _ _ _); k_here; (with_reducible refine call_R ?_); k_dflt (refine' c_down ?q0C ?q0D ?q0ln ?q0ha ?q0hd ?q0hu ?_; (case q0D => assumption); (case q0C => walk_at "ctx"); (case q0ln => assumption); (case q0ha => first | assumption | walk_at "fact"); (case q0hd => walk_at "depth"); (case q0hu => walk_at "units"); k_whole); intro _ _ _ _ _ _; (try (first | refine RetQ.ok ?_ | refine RetQ.err ?_)); (try walk_at "fold")))
  k_with "call ref" => (((with_reducible show wpAny _ _ (call (Value.ref 158) _) _ _ _); k_here; (with_reducible refine call_R ?_); k_dflt (refine' c_is_begin ?q0C ?q0D ?q0ln ?q0ha ?q0hd ?q0hu ?_; (case q0D => assumption); (case q0C => walk_at "ctx"); (case q0ln => assumption); (case q0ha => first | assumption | walk_at "fact"); (case q0hd => walk_at "depth"); (case q0hu => walk_at "units"); k_whole); intro _ _ _ _ _; (try (first | refine RetQ.ok ?_ | refine RetQ.err ?_)); (try walk_at "fold")))
  k_with "call ref" => (((with_reducible show wpAny _ _ (call (Value.ref 172) _) _ _ _); k_here; (with_reducible refine call_R ?_); k_dflt (refine' c_lentry ?q0C ?q0D ?q0ln ?q0ha ?q0hf1 ?q0hd ?q0hu ?_; (case q0D => assumption); (case q0C => walk_at "ctx"); (case q0ln => assumption); (case q0ha => first | assumption | walk_at "fact"); (case q0hf1 => first | assumption | walk_at "fact"); (case q0hd => walk_at "depth"); (case q0hu => walk_at "units"); k_whole); intro _ _ _ _ _ _; (try (first | refine RetQ.ok ?_ | refine RetQ.err ?_)); (try walk_at "fold")))
  k_with "call ref" => (((with_reducible show wpAny _ _ (call (Value.ref 179) _) _ _ _); k_here; (with_reducible refine call_R ?_); k_dflt (refine' c_lphysical ?q0C ?q0D ?q0ln ?q0he ?q0hd ?q0hu ?_; (case q0D => assumption); (case q0C => walk_at "ctx"); (case q0ln => assumption); (case q0he => first | assumption | walk_at "fact"); (case q0hd => walk_at "depth"); (case q0hu => walk_at "units"); k_whole); intro _ _ _ _ _ _; (try (first | refine RetQ.ok ?_ | refine RetQ.err ?_)); (try walk_at "fold")))
  k_with "call ref" => (((with_reducible show wpAny _ _ (call (Value.ref 198) _) _ _ _); k_here; (with_reducible refine call_R ?_); k_dflt (refine' c_is_leaf ?q0C ?q0he ?q0hd ?q0hu ?_; (case q0C => walk_at "ctx"); (case q0he => first | assumption | walk_at "fact"); (case q0hd => walk_at "depth"); (case q0hu => walk_at "units"); k_whole); intro _ _ _ _ _; (try (first | refine RetQ.ok ?_ | refine RetQ.err ?_)); (try walk_at "fold")))
  k_with "call ref" => (((with_reducible show wpAny _ _ (call (Value.ref 205) _) _ _ _); k_here; (with_reducible refine call_R ?_); k_dflt (refine' c_is_sound ?q0C ?q0he ?q0hd ?q0hu ?_; (case q0C => walk_at "ctx"); (case q0he => first | assumption | walk_at "fact"); (case q0hd => walk_at "depth"); (case q0hu => walk_at "units"); k_whole); intro _ _ _ _ _; (try (first | refine RetQ.ok ?_ | refine RetQ.err ?_)); (try walk_at "fold")))
  k_with "call ref" => (((with_reducible show wpAny _ _ (call (Value.ref 212) _) _ _ _); k_here; (with_reducible refine call_R ?_); k_dflt (refine' c_may ?q0C ?q0he ?q0hd ?q0hu ?_; (case q0C => walk_at "ctx"); (case q0he => first | assumption | walk_at "fact"); (case q0hd => walk_at "depth"); (case q0hu => walk_at "units"); k_whole); intro _ _ _ _ _; (try (first | refine RetQ.ok ?_ | refine RetQ.err ?_)); (try walk_at "fold")))
  k_with "call ref" => (((with_reducible show wpAny _ _ (call (Value.ref 298) _) _ _ _); k_here; (with_reducible refine call_R ?_); k_dflt (refine' c_need_parts ?q0C ?q0Ta ?q0D ?q0ln ?q0ine ?q0hd ?q0hu ?_; (case q0Ta => assumption); (case q0D => assumption); (case q0C => walk_at "ctx"); (case q0ln => assumption); (case q0ine => first | assumption | walk_at "fact"); (case q0hd => walk_at "depth"); (case q0hu => walk_at "units"); k_whole); intro _ _ _ _ _ _ _ _ _ _ _; (try (first | refine RetQ.ok ?_ | refine RetQ.err ?_)); (try walk_at "fold")))
  k_with "call ref" => (((with_reducible show wpAny _ _ (call (Value.ref 327) _) _ _ _); k_here; (with_reducible refine call_R ?_); k_dflt (refine' c_need_flags ?q0C ?q0hfl ?q0hd ?q0hu ?_ ?_; (case q0C => walk_at "ctx"); (case q0hfl => first | assumption | walk_at "fact"); (case q0hd => walk_at "depth"); (case q0hu => walk_at "units"); k_whole); (intro _ _ _ _ _ _; (try (first | refine RetQ.ok ?_ | refine RetQ.err ?_)); (try walk_at "fold")); rotate_left; (intro _ _ _ _ _ _ _ _ _; (try (first | refine RetQ.ok ?_ | refine RetQ.err ?_)); (try walk_at "fold")); rotate_left))
  k_with "call ref" => (((with_reducible show wpAny _ _ (call (Value.ref 306) _) _ _ _); k_here; (with_reducible refine call_R ?_); k_dflt (refine' c_walk ?q0C ?q0Ta ?q0D ?q0ln ?q0M ?q0W ?q0hcv ?q0ine ?q0p1 ?q0p1m ?q0hd ?q0hu ?_ ?_ ?_; (case q0Ta => assumption); (case q0D => assumption); (case q0M => assumption); (case q0W => assumption); (case q0C => walk_at "ctx"); (case q0ln => assumption); (case q0hcv => assumption); (case q0ine => first | assumption | walk_at "fact"); (case q0p1 => first | assumption | walk_at "fact"); (case q0p1m => first | assumption | walk_at "fact"); (case q0hd => walk_at "depth"); (case q0hu => walk_at "units"); k_whole); (intro _ _ _ _ _ _; (try (first | refine RetQ.ok ?_ | refine RetQ.err ?_)); (try walk_at "fold")); rotate_left; (intro _ _ _ _ _ _ _ _; (try (first | refine RetQ.ok ?_ | refine RetQ.err ?_)); (try walk_at "fold")); rotate_left; (intro _ _ _ _ _ _ _ _ _ _; (try (first | refine RetQ.ok ?_ | refine RetQ.err ?_)); (try walk_at "fold")); rotate_left))
  k_with "call ref" => (((with_reducible show wpAny _ _ (call (Value.ref 313) _) _ _ _); k_here; (with_reducible refine call_R ?_); k_dflt (refine' c_entry ?q0C ?q0Ta ?q0D ?q0ln ?q0M ?q0W ?q0hcv ?q0ine ?q0p1 ?q0p1m ?q0p2 ?q0hd ?q0hu ?_; (case q0Ta => assumption); (case q0D => assumption); (case q0M => assumption); (case q0W => assumption); (case q0C => walk_at "ctx"); (case q0ln => assumption); (case q0hcv => assumption); (case q0ine => first | assumption | walk_at "fact"); (case q0p1 => first | assumption | walk_at "fact"); (case q0p1m => first | assumption | walk_at "fact"); (case q0p2 => first | assumption | walk_at "fact"); (case q0hd => walk_at "depth"); (case q0hu => walk_at "units"); k_whole); intro _ _ _ _ _ _ _ ve'; subst ve'; (try (first | refine RetQ.ok ?_ | refine RetQ.err ?_)); (try walk_at "fold")))
  k_with "exec Raise some none" => ((k_here; (k_dflt (refine' raise_arg ?q0h ?_; (case q0h => first | assumption | exact rfl))); (try dsimp only)))
  k_with "call ref" => (((with_reducible show wpAny _ _ (call (Value.ref 52) _) _ _ _); k_here; (with_reducible refine wpAny_call ?_); k_dflt (refine' c_mkarg ?q0C ?q0d ?q0u ?_; (case q0C => walk_at "ctx"); (case q0d => walk_at "depth"); (case q0u => walk_at "units"); k_whole); intro _ _ _ _ _ _ _ _ _ _ _ _ _ _; (try dsimp only)))
  k_with "Exists" => (((with_reducible show ∃ e t dx, _ = _ ∧ _); refine' ⟨_, _, _, rfl, ?q0X, ?q0e, ?_⟩; (case q0X => exact Frag.In.keeps (by k_asm) (Fr.keep (by k_asm))); (case q0e => exact (News.get (by k_asm) (List.Mem.tail _ (List.Mem.head _)))); (try dsimp only)))
  k_with "leaving ref" => ((k_here; k_dflt (first | (refine' leave_onD ?q0K ?q0F ?q0R ?_; (case q0K => k_asm); (case q0R => assumption); (case q0F => assumption); intro _ _) | (refine' leaveT0 ?q0K ?q0F ?q0N ?q0a ?q0b ?q0c ?q0d ?_; (case q0K => k_asm); (case q0F => k_asm); (case q0N => k_asm); (case q0a => assumption); (case q0b => assumption); (case q0c => assumption); (case q0d => assumption); intro _ _)); (try dsimp only)))
  k_with "fact" => (first | exact (p2 (v1_t (by assumption)) (by assumption)).1 | exact (p2 (v1_t (by assumption)) (by assumption)).2 | exact (p2 (by assumption) (by assumption)).1 | exact (p2 (by assumption) (by assumption)).2)
  trivial
theorem c_need_place {tab mem lay pgs wd : Addr} {b pg en lg ed : Int} {tl tt : Toks} {o : Obj} {c : List (Int × Int)} {rest : List (Addr × Obj)} {ad : Int} {t u : Tok} (C : Ctx w p loose mean mg mb A A₀ env outer base h₀ L s.heap m ((wd, o) :: rest)) (Ta : Has h₀ tab 418 (tabF mem lay pgs)) (D : Has h₀ lay 182 (layF b pg en lg ed tl)) (ln : LayN b pg en lg ed) (M : Has h₀ mem 607 (memF pg wd tt)) (W : WD prog w wd o c) (hcv : ∀ i, 0 ≤ kdfLook c i 0 ∧ kdfLook c i 0 < 65536) (ine : 0 ≤ ad ∧ ad < ed) (p1 : 0 ≤ p1S b ad ∧ p1S b ad + 4 ≤ 4 * pg) (p1m : (p1S b ad).fmod 4 = 0) (p2 : v1S (e1S b ad c) = true → leafS (e1S b ad c) = false → (0 ≤ p2S b en ad c ∧ p2S b en ad c + 4 ≤ 4 * pg) ∧ (p2S b en ad c).fmod 4 = 0) (hd : A.depth ≤ 580) (hu : A.units ≤ 5800)
  (hR : ∀ h' tk t', let st' : Shared := { s with heap := h', toks := tk }; Fr h₀ L h' m → News h₀ L h' ((wd, o) :: rest) → npS b en ad c = true → R (.ok (.ret (.int (p2S b en ad c) t'))) st')
  (hE : ∀ h' tk g' (xe xd : Addr) (xD : Obj), npS b en ad c = false → Fr h₀ L g' m → Thr base g' (env :: outer) xe 52 (some xd) ((xd, xD) :: ((wd, o) :: rest)) h' → R (.error (.ref xe)) { s with heap := h', toks := tk }) :
    codeAny (model prog w) A (.call (.ref 348) ⟨[.ref tab, .int 0 t, .int ad u], []⟩) R s := by
  refine' enter [("self", .ref tab), ("root", .int 0 t), ("address", .int ad u)] C ?k6 ?k7 ?k8 ?k9 ?kB ?c2 ?c3 ?c4 ?c5 ?_
  walk_at "entered"
  case k9 => walk_at "binds"
  obtain ⟨B, F, X, N, T, hA, hf, hke, hh⟩ := C
  intro g' L' h' tk' FG F' N' B' X' T'
  replace Ta := Ta.keeps FG.keep
  replace D := D.keeps FG.keep
  replace M := M.keeps FG.keep
  try dsimp only
  refine foldEnter (f := execs) F' ?_
  clear F'
  intro M9 en9 A9 m9 qk ek st9 F'
  try clear N
  obtain ⟨hb, hp, hen, hlg, hed⟩ := layN_b ln
  have v1 := hcv ((p1S b ad).fdiv 4)
  have v2 := hcv ((p2S b en ad c).fdiv 4)
  k_steps
  all_goals first
    | (refine' hE _ _ _ _ _ _ ?s FG ?R
       case s => first | exact np_1 (by assumption) | exact np_2 (by assumption) | exact np_3 (v1_f (by assumption))
       case R => first | assumption | exact Thr.sub (by assumption) sub2 | exact Thr.sub (by assumption) sub3 | exact Thr.sub (by assumption) sub5 | exact Thr.sub (by assumption) sub6)
    | (refine' hR _ _ _ ?F ?N (np_t (by assumption) (by assumption) (v1_t (by assumption)))
       case F => k_asm
       case N => first | k_asm | exact News.sub (by k_asm) sub1 | exact News.sub (by k_asm) sub2)
theorem rows_at_74 : True := by
  k_with "call ref" => (((with_reducible show wpAny _ _ (call (Value.ref 348) _) _ _ _); k_here; (with_reducible refine call_R ?_); k_dflt (refine' c_need_place ?q0C ?q0Ta ?q0D ?q0ln ?q0M ?q0W ?q0hcv ?q0ine ?q0p1 ?q0p1m ?q0p2 ?q0hd ?q0hu ?_ ?_; (case q0Ta => assumption); (case q0D => assumption); (case q0M => assumption); (case q0W => assumption); (case q0C => walk_at "ctx"); (case q0ln => assumption); (case q0hcv => assumption); (case q0ine => first | assumption | walk_at "fact"); (case q0p1 => first | assumption | walk_at "fact"); (case q0p1m => first | assumption | walk_at "fact"); (case q0p2 => first | assumption | walk_at "fact"); (case q0hd => walk_at "depth"); (case q0hu => walk_at "units"); k_whole); (intro _ _ _ _ _ _ _; (try (first | refine RetQ.ok ?_ | refine RetQ.err ?_)); (try walk_at "fold")); rotate_left; (intro _ _ _ _ _ _ _ _ _; (try (first | refine RetQ.ok ?_ | refine RetQ.err ?_)); (try walk_at "fold")); rotate_left))
  trivial
theorem c_tphysical {tab mem lay pgs wd : Addr} {b pg en lg ed : Int} {tl tt : Toks} {o : Obj} {c : List (Int × Int)} {rest : List (Addr × Obj)} {ad : Int} {t u : Tok} (C : Ctx w p loose mean mg mb A A₀ env outer base h₀ L s.heap m ((wd, o) :: rest)) (Ta : Has h₀ tab 418 (tabF mem lay pgs)) (D : Has h₀ lay 182 (layF b pg en lg ed tl)) (ln : LayN b pg en lg ed) (M : Has h₀ mem 607 (memF pg wd tt)) (W : WD prog w wd o c) (hcv : ∀ i, 0 ≤ kdfLook c i 0 ∧ kdfLook c i 0 < 65536) (ine : 0 ≤ ad ∧ ad < ed) (p1 : 0 ≤ p1S b ad ∧ p1S b ad + 4 ≤ 4 * pg) (p1m : (p1S b ad).fmod 4 = 0) (p2 : v1S (e1S b ad c) = true → leafS (e1S b ad c) = false → (0 ≤ p2S b en ad c ∧ p2S b en ad c + 4 ≤ 4 * pg) ∧ (p2S b en ad c).fmod 4 = 0) (hd : A.depth ≤ 580) (hu : A.units ≤ 5800)
  (hN : ∀ h' tk, let st' : Shared := { s with heap := h', toks := tk }; Fr h₀ L h' m → News h₀ L h' ((wd, o) :: rest) → phS b en pg lg ad c = none → R (.ok (.ret (.none))) st')
  (hR : ∀ h' tk (v' : Int) (t' : Tok), let st' : Shared := { s with heap := h', toks := tk }; Fr h₀ L h' m → News h₀ L h' ((wd, o) :: rest) → phS b en pg lg ad c = some v' → R (.ok (.ret (.int v' t'))) st') :
    codeAny (model prog w) A (.call (.ref 320) ⟨[.ref tab, .int 0 t, .int ad u], []⟩) R s := by
  refine' enter [("self", .ref tab), ("root", .int 0 t), ("address", .int ad u)] C ?k6 ?k7 ?k8 ?k9 ?kB ?c2 ?c3 ?c4 ?c5 ?_
  walk_at "entered"
  case k9 => walk_at "binds"
  obtain ⟨B, F, X, N, T, hA, hf, hke, hh⟩ := C
  intro g' L' h' tk' FG F' N' B' X' T'
  replace Ta := Ta.keeps FG.keep
  replace D := D.keeps FG.keep
  replace M := M.keeps FG.keep
  try dsimp only
  refine foldEnter (f := execs) F' ?_
  clear F'
  intro M9 en9 A9 m9 qk ek st9 F'
  try clear N
  obtain ⟨hb, hp, hen, hlg, hed⟩ := layN_b ln
  have v1 := hcv ((p1S b ad).fdiv 4)
  have v2 := hcv ((p2S b en ad c).fdiv 4)
  have ven := en_lt (b := b) (en := en) (ad := ad) hcv
  k_steps
  all_goals first
    | (refine' hN _ _ ?F ?N (ph_n (by assumption))
       case F => k_asm
       case N => first | k_asm | exact News.sub (by k_asm) sub1 | exact News.sub (by k_asm) sub2)
    | (refine' hR _ _ _ _ ?F ?N ?s
       case s => first | exact ph_l (by assumption) (by assumption) | exact ph_s (by assumption) (by assumption)
       case F => k_asm
       case N => first | k_asm | exact News.sub (by k_asm) sub1 | exact News.sub (by k_asm) sub2)
theorem rows_at_75 : True := by
  k_with "call ref" => (((with_reducible show wpAny _ _ (call (Value.ref 320) _) _ _ _); k_here; (with_reducible refine call_R ?_); k_dflt (refine' c_tphysical ?q0C ?q0Ta ?q0D ?q0ln ?q0M ?q0W ?q0hcv ?q0ine ?q0p1 ?q0p1m ?q0p2 ?q0hd ?q0hu ?_ ?_; (case q0Ta => assumption); (case q0D => assumption); (case q0M => assumption); (case q0W => assumption); (case q0C => walk_at "ctx"); (case q0ln => assumption); (case q0hcv => assumption); (case q0ine => first | assumption | walk_at "fact"); (case q0p1 => first | assumption | walk_at "fact"); (case q0p1m => first | assumption | walk_at "fact"); (case q0p2 => first | assumption | walk_at "fact"); (case q0hd => walk_at "depth"); (case q0hu => walk_at "units"); k_whole); (intro _ _ _ _ _ _; (try (first | refine RetQ.ok ?_ | refine RetQ.err ?_)); (try walk_at "fold")); rotate_left; (intro _ _ _ _ _ _ _ _; (try (first | refine RetQ.ok ?_ | refine RetQ.err ?_)); (try walk_at "fold")); rotate_left))
  trivial
end
end Mine
end W9c
section W15
open PySem PySem.W PyProof.Rows PySem.Calls PySem.Spec PyProof.V
set_option maxRecDepth 100000
set_option maxHeartbeats 8000000
set_option autoImplicit false
namespace Mine

theorem rows_at_76 : True := by
  k_with_none
  k_with "ctx" => ((refine' Ctx.mk ?q0B ?q0F ?q0X ?q0N ?q0T ?q0a ?q0f ?q0k ?q0h; (case q0B => k_asm); (case q0F => k_asm); (case q0X => k_asm); (case q0N => first | k_asm | exact news_swap1 (by k_asm) | exact news_swap2 (by k_asm) | exact news_swap3 (by k_asm)); (case q0T => k_asm); (case q0a => first | assumption | exact Around.frames_deeper (Below.stack (by assumption))); (case q0f => first | assumption | exact rfl); (case q0k => first | assumption | exact rfl); (case q0h => first | assumption | exact rfl)))
  k_with "getAttr ref" => ((k_here; k_dflt (refine' own_get ?q0D ?q0F ?q0X ?q0a ?q0b ?q0c ?q0d ?q0l ?q0v ?_; (case q0D => assumption); (case q0F => k_asm); (case q0X => k_asm); (case q0a => k_is); (case q0b => k_is); (case q0c => k_is); (case q0d => k_is); (case q0l => intro _ _; k_get); (case q0v => k_handed); k_whole)))
  k_with "getMethod ref" => ((k_here; k_dflt (refine' own_meth ?q0D ?q0F ?q0X ?q0a ?q0b ?q0c ?q0l ?_; (case q0D => assumption); (case q0F => k_asm); (case q0X => k_asm); (case q0a => k_is); (case q0b => k_is); (case q0c => k_is); (case q0l => intro _ _; k_get); k_whole)))
  k_with "getMethod ref" => ((k_here; (with_reducible show wpAny _ _ (getMethod (Value.ref _) (PySem.Str.ofString "get") _) _ _ _); k_dflt (refine' w_getm ?q0W ?q0N ?q0p ?_; (case q0W => assumption); (case q0N => k_asm); (case q0p => k_mem); k_whole)))
  k_with "getMethod ref" => ((k_here; (with_reducible show wpAny _ _ (getMethod (Value.ref _) (PySem.Str.ofString "pop") _) _ _ _); k_dflt (refine' w_popm ?q0W ?q0N ?q0p ?_; (case q0W => assumption); (case q0N => k_asm); (case q0p => k_mem); k_whole)))
  k_with "call builtin:dict.get" => ((k_here; k_dflt (refine' w_get ?q0W ?q0N ?q0p ?_; (case q0W => assumption); (case q0N => k_asm); (case q0p => k_mem); k_whole); intro _))
  k_with "call builtin:dict.pop" => ((k_here; k_dflt (refine' w_pop ?q0W ?q0F ?q0N ?q0p ?q0U ?_; (case q0W => assumption); (case q0F => k_asm); (case q0N => k_asm); (case q0p => k_mem); (case q0U => (first | (refine UpdF.head ?_; assumption) | k_updF)); k_whole); intro _ _ _ _ N'; (try dsimp only at N'); (try (revert N'; intro _)); intro _))
  k_with "setItem ref int" => ((k_here; k_dflt (refine' w_set ?q0W ?q0F ?q0N ?q0U ?q0c ?_; (case q0W => assumption); (case q0F => k_asm); (case q0N => k_asm); (case q0U => (first | (refine UpdF.head ?_; assumption) | k_updF)); (case q0c => first | assumption | omega); k_whole); intro _ _ _ N'; (try dsimp only at N'); (try (revert N'; intro _)); intro _))
  k_with "depth" => (first | exact dp1 (by assumption) rfl | exact dp2 (by assumption) rfl | ((simp +zetaDelta only [depth_mark, depth_under_make, depth_under_kw, depth_in1, depth_deeper, depth_caller]); omega))
  k_with "units" => (first | exact up1 (by assumption) rfl | exact up2 (by assumption) rfl | ((simp +zetaDelta only [units_in1, units_deeper, Around.mark_units, units_caller]); omega))
  k_with "apart" => (first | assumption | exact List.forall_mem_cons.mpr ⟨by k_ne, by assumption⟩ | exact List.forall_mem_cons.mpr ⟨by k_ne, List.forall_mem_cons.mpr ⟨by k_ne, by assumption⟩⟩)
  k_with "fact" => (omega)
  k_with "entered" => ((k_dflt ((case k6 => k_is); (case k7 => k_is); (case k8 => walk_at "room"); (case c5 => decide); (case kB => exact locs rfl); (case c2 => exact rfl); (case c3 => exact rfl); (case c4 => exact rfl))))
  k_with "binds" => ((k_dflt (exact BindsTo.of_eq (by kernel_rfl))))
  k_with "dbinds" => ((k_dflt (exact binds_K (Frag.In.keeps (Ctx.X (by assumption)) (Fr.keep (Ctx.F (by assumption)))) rfl (by k_is) rfl rfl (by kernel_rfl))))
  k_with "room" => (((simp only [rl_is]); omega))
  k_with "assign Tuple" => ((k_here; (with_reducible show wpAny _ _ (assign (Expr.Tuple _ _ _) _ (Value.ref _)) _ _ _); k_dflt (refine' unpackN_ ?q0k1 ?q0k2 ?q0k3 ?q0k4 ?q0k5 ?q0k6 ?_; (case q0k1 => k_asm); (case q0k2 => k_asm); (case q0k3 => exact News.isTup (by k_asm) (by k_mem)); (case q0k4 => first | assumption | exact rfl); (case q0k5 => exact rfl); (case q0k6 => exact rfl); k_whole); intro _ _ _; (try k_sweep)))
  k_with "unpackItems ref" => ((k_here; k_dflt (refine' unpackItemsN_ ?q0k1 ?q0k2 ?q0k3 ?q0k4 ?q0k5 ?_; (case q0k1 => k_asm); (case q0k2 => k_asm); (case q0k3 => kun_tup); (case q0k4 => first | assumption | exact rfl); (case q0k5 => exact rfl); k_whole); intro _ _ _; (try k_sweep)))
  k_with "fold" => (((fail_if_success (fail_if_success k_fold)); refine foldQ ?_; intro _))
  k_with "foldS" => (((fail_if_success (fail_if_success k_fold)); refine foldQS ?_; intro _ _))
  k_with "foldE" => (((fail_if_success (fail_if_success (refine swapT ⟨?_, ?_⟩; k_fold))); refine foldEE ?_; intro _))
  trivial

theorem rows_at_77 : True := by
  k_with "eval Name" => ((k_here; k_dflt (refine' nmL ?q0F ?q0v ?_ ?q0L ?q0x; (case q0x => rfl); (case q0F => k_asm); (case q0L => rfl); (case q0v => rfl); k_whole)))
  k_with "storeName" => ((k_here; k_dflt (refine' stL ?q0F ?q0N ?_ ?q0L ?q0x; (case q0x => rfl); (case q0F => k_asm); (case q0L => rfl); (case q0N => k_asm); k_whole; intro _ _ _ _ _ _; (try k_sweep))))
  trivial
section
variable {prog : Program} {w : World} {p : Program} {loose : List Str} {mean : ExcName → Option Value} {mg mb : Str → Option Value} {A A₀ : Around} {env : Env} {outer : List Env} {base h₀ : Heap} {L : Addr} {m : Str → Option Value} {s : Shared} {news : List (Addr × Obj)} {R : Result → Shared → Prop}
theorem rows_at_78 : True := by
  k_with "subscriptTail" => ((k_here; (with_reducible show wpAny _ _ (subscriptTail _ _ (Value.ref _) (Value.str _ _)) _ _ _); k_dflt (refine' brd_item ?q0D ?q0F ?q0v ?_; (case q0D => assumption); (case q0F => k_asm); (case q0v => with_unfolding_all rfl); k_whole)))
  trivial
theorem c_seenN {brd lay mem wal tab : Addr} {b pg en lg ed : Int} {tl : Toks} (C : Ctx w p loose mean mg mb A A₀ env outer base h₀ L s.heap m news) (BD : DictG prog w h₀ brd [(Str.ofString "layout", .ref lay), (Str.ofString "memory", .ref mem), (Str.ofString "walker", .ref wal), (Str.ofString "table", .ref tab)]) (D : Has h₀ lay 182 (layF b pg en lg ed tl)) (ln : LayN b pg en lg ed) (hd : A.depth ≤ 600) (hu : A.units ≤ 6000)
  (hR : ∀ h' tk, let st' : Shared := { s with heap := h', toks := tk }; Fr h₀ L h' m → News h₀ L h' news → R (.ok (.ret (.none))) st') :
    codeAny (model prog w) A (.call (.ref 852) ⟨[.ref brd, .none], []⟩) R s := by
  refine' enter [("board", .ref brd), ("told", .none)] C ?k6 ?k7 ?k8 ?k9 ?kB ?c2 ?c3 ?c4 ?c5 ?_
  walk_at "entered"
  case k9 => walk_at "binds"
  obtain ⟨B, F, X, N, T, hA, hf, hke, hh⟩ := C
  intro g' L' h' tk' FG F' N' B' X' T'
  replace BD := BD.keeps FG.keep
  replace D := D.keeps FG.keep
  try dsimp only
  refine foldEnter (f := execs) F' ?_
  clear F'
  intro M9 en9 A9 m9 qk ek st9 F'
  try clear N
  obtain ⟨hb, hp, hen, hlg, hed⟩ := layN_b ln
  k_steps
  all_goals first | contradiction | exact hR _ _ (by k_asm) (by k_asm)
theorem rows_at_79 : True := by
  k_with "call ref" => (((with_reducible show wpAny _ _ (call (Value.ref 852) _) _ _ _); k_here; (with_reducible refine call_R ?_); k_dflt (refine' c_seenN ?q0C ?q0BD ?q0D ?q0ln ?q0hd ?q0hu ?_; (case q0D => assumption); (case q0C => walk_at "ctx"); (case q0BD => assumption); (case q0ln => assumption); (case q0hd => walk_at "depth"); (case q0hu => walk_at "units"); k_whole); intro _ _ _ _ _; (try (first | refine RetQ.ok ?_ | refine RetQ.err ?_)); (try walk_at "fold")))
  trivial
theorem c_seenI {brd lay mem wal tab : Addr} {b pg en lg ed v : Int} {t : Tok} {tl : Toks} (C : Ctx w p loose mean mg mb A A₀ env outer base h₀ L s.heap m news) (BD : DictG prog w h₀ brd [(Str.ofString "layout", .ref lay), (Str.ofString "memory", .ref mem), (Str.ofString "walker", .ref wal), (Str.ofString "table", .ref tab)]) (D : Has h₀ lay 182 (layF b pg en lg ed tl)) (ln : LayN b pg en lg ed) (hv : 0 ≤ v ∧ v < 4294967296) (hd : A.depth ≤ 600) (hu : A.units ≤ 6000)
  (hR : ∀ h' tk (x : Addr) (t1 t2 : Tok), let st' : Shared := { s with heap := h', toks := tk }; Fr h₀ L h' m → let nw' : List (Addr × Obj) := ((x, tupObj [.int (v.fdiv pg) t1, .int ((v.fmod pg * 16).fdiv pg) t2]) :: news); News h₀ L h' nw' → (∀ p ∈ news, p.1 < x) → R (.ok (.ret (.ref x))) st') :
    codeAny (model prog w) A (.call (.ref 852) ⟨[.ref brd, .int v t], []⟩) R s := by
  refine' enter [("board", .ref brd), ("told", .int v t)] C ?k6 ?k7 ?k8 ?k9 ?kB ?c2 ?c3 ?c4 ?c5 ?_
  walk_at "entered"
  case k9 => walk_at "binds"
  obtain ⟨B, F, X, N, T, hA, hf, hke, hh⟩ := C
  intro g' L' h' tk' FG F' N' B' X' T'
  replace BD := BD.keeps FG.keep
  replace D := D.keeps FG.keep
  try dsimp only
  refine foldEnter (f := execs) F' ?_
  clear F'
  intro M9 en9 A9 m9 qk ek st9 F'
  try clear N
  obtain ⟨hb, hp, hen, hlg, hed⟩ := layN_b ln
  k_steps
  all_goals first | contradiction | exact hR _ _ _ _ _ (by k_asm) (by k_asm) (by assumption)
theorem rows_at_80 : True := by
  k_with "call ref" => (((with_reducible show wpAny _ _ (call (Value.ref 852) _) _ _ _); k_here; (with_reducible refine call_R ?_); k_dflt (refine' c_seenI ?q0C ?q0BD ?q0D ?q0ln ?q0hv ?q0hd ?q0hu ?_; (case q0D => assumption); (case q0C => walk_at "ctx"); (case q0BD => assumption); (case q0ln => assumption); (case q0hv => first | assumption | walk_at "fact"); (case q0hd => walk_at "depth"); (case q0hu => walk_at "units"); k_whole); intro _ _ _ _ _ _ _ _ _ l1'; (try k_lt l1'); (try (revert l1'; intro _)); (try (first | refine RetQ.ok ?_ | refine RetQ.err ?_)); (try walk_at "fold")))
  trivial
end
end Mine
end W15
section W9d
open PySem PySem.W PyProof.Rows PySem.Calls PySem.Spec PyProof.V
set_option maxRecDepth 100000
set_option maxHeartbeats 8000000
set_option autoImplicit false
namespace Mine

theorem rows_at_81 : True := by
  k_with_none
  k_with "ctx" => ((refine' Ctx.mk ?q0B ?q0F ?q0X ?q0N ?q0T ?q0a ?q0f ?q0k ?q0h; (case q0B => k_asm); (case q0F => k_asm); (case q0X => k_asm); (case q0N => first | k_asm | exact news_swap1 (by k_asm) | exact news_swap2 (by k_asm) | exact news_swap3 (by k_asm)); (case q0T => k_asm); (case q0a => first | assumption | exact Around.frames_deeper (Below.stack (by assumption))); (case q0f => first | assumption | exact rfl); (case q0k => first | assumption | exact rfl); (case q0h => first | assumption | exact rfl)))
  k_with "getAttr ref" => ((k_here; k_dflt (refine' own_get ?q0D ?q0F ?q0X ?q0a ?q0b ?q0c ?q0d ?q0l ?q0v ?_; (case q0D => assumption); (case q0F => k_asm); (case q0X => k_asm); (case q0a => k_is); (case q0b => k_is); (case q0c => k_is); (case q0d => k_is); (case q0l => intro _ _; k_get); (case q0v => k_handed); k_whole)))
  k_with "getMethod ref" => ((k_here; k_dflt (refine' own_meth ?q0D ?q0F ?q0X ?q0a ?q0b ?q0c ?q0l ?_; (case q0D => assumption); (case q0F => k_asm); (case q0X => k_asm); (case q0a => k_is); (case q0b => k_is); (case q0c => k_is); (case q0l => intro _ _; k_get); k_whole)))
  k_with "getMethod ref" => ((k_here; (with_reducible show wpAny _ _ (getMethod (Value.ref _) (PySem.Str.ofString "get") _) _ _ _); k_dflt (refine' w_getm ?q0W ?q0N ?q0p ?_; (case q0W => assumption); (case q0N => k_asm); (case q0p => k_mem); k_whole)))
  k_with "getMethod ref" => ((k_here; (with_reducible show wpAny _ _ (getMethod (Value.ref _) (PySem.Str.ofString "pop") _) _ _ _); k_dflt (refine' w_popm ?q0W ?q0N ?q0p ?_; (case q0W => assumption); (case q0N => k_asm); (case q0p => k_mem); k_whole)))
  k_with "call builtin:dict.get" => ((k_here; k_dflt (refine' w_get ?q0W ?q0N ?q0p ?_; (case q0W => assumption); (case q0N => k_asm); (case q0p => k_mem); k_whole); intro _))
  k_with "call builtin:dict.pop" => ((k_here; k_dflt (refine' w_pop ?q0W ?q0F ?q0N ?q0p ?q0U ?_; (case q0W => assumption); (case q0F => k_asm); (case q0N => k_asm); (case q0p => k_mem); (case q0U => (first | (refine UpdF.head ?_; assumption) | k_updF)); k_whole); intro _ _ _ _ N'; (try dsimp only at N'); (try (revert N'; intro _)); intro _))
  k_with "setItem ref int" => ((k_here; k_dflt (refine' w_set ?q0W ?q0F ?q0N ?q0U ?q0c ?_; (case q0W => assumption); (case q0F => k_asm); (case q0N => k_asm); (case q0U => (first | (refine UpdF.head ?_; assumption) | k_updF)); (case q0c => first | assumption | omega); k_whole); intro _ _ _ N'; (try dsimp only at N'); (try (revert N'; intro _)); intro _))
  k_with "depth" => (first | exact dp1 (by assumption) rfl | exact dp2 (by assumption) rfl | ((simp +zetaDelta only [depth_mark, depth_under_make, depth_under_kw, depth_in1, depth_deeper, depth_caller]); omega))
  k_with "units" => (first | exact up1 (by assumption) rfl | exact up2 (by assumption) rfl | ((simp +zetaDelta only [units_in1, units_deeper, Around.mark_units, units_caller]); omega))
  k_with "apart" => (first | assumption | exact List.forall_mem_cons.mpr ⟨by k_ne, by assumption⟩ | exact List.forall_mem_cons.mpr ⟨by k_ne, List.forall_mem_cons.mpr ⟨by k_ne, by assumption⟩⟩)
  k_with "fact" => (omega)
  k_with "entered" => ((k_dflt ((case k6 => k_is); (case k7 => k_is); (case k8 => walk_at "room"); (case c5 => decide); (case kB => exact locs rfl); (case c2 => exact rfl); (case c3 => exact rfl); (case c4 => exact rfl))))
  k_with "binds" => ((k_dflt (exact BindsTo.of_eq (by kernel_rfl))))
  k_with "dbinds" => ((k_dflt (exact binds_K (Frag.In.keeps (Ctx.X (by assumption)) (Fr.keep (Ctx.F (by assumption)))) rfl (by k_is) rfl rfl (by kernel_rfl))))
  k_with "room" => (((simp only [rl_is]); omega))
  k_with "assign Tuple" => ((k_here; (with_reducible show wpAny _ _ (assign (Expr.Tuple _ _ _) _ (Value.ref _)) _ _ _); k_dflt (refine' unpackN_ ?q0k1 ?q0k2 ?q0k3 ?q0k4 ?q0k5 ?q0k6 ?_; (case q0k1 => k_asm); (case q0k2 => k_asm); (case q0k3 => exact News.isTup (by k_asm) (by k_mem)); (case q0k4 => first | assumption | exact rfl); (case q0k5 => exact rfl); (case q0k6 => exact rfl); k_whole); intro _ _ _; (try k_sweep)))
  k_with "unpackItems ref" => ((k_here; k_dflt (refine' unpackItemsN_ ?q0k1 ?q0k2 ?q0k3 ?q0k4 ?q0k5 ?_; (case q0k1 => k_asm); (case q0k2 => k_asm); (case q0k3 => kun_tup); (case q0k4 => first | assumption | exact rfl); (case q0k5 => exact rfl); k_whole); intro _ _ _; (try k_sweep)))
  k_with "fold" => (((fail_if_success (fail_if_success k_fold)); refine foldQ ?_; intro _))
  k_with "foldS" => (((fail_if_success (fail_if_success k_fold)); refine foldQS ?_; intro _ _))
  k_with "foldE" => (((fail_if_success (fail_if_success (refine swapT ⟨?_, ?_⟩; k_fold))); refine foldEE ?_; intro _))
  trivial

theorem rows_at_82 : True := by
  k_with "eval Name" => ((k_here; k_dflt (refine' nmL ?q0F ?q0v ?_ ?q0L ?q0x; (case q0x => rfl); (case q0F => k_asm); (case q0L => rfl); (case q0v => rfl); k_whole)))
  k_with "storeName" => ((k_here; k_dflt (refine' stL ?q0F ?q0N ?_ ?q0L ?q0x; (case q0x => rfl); (case q0F => k_asm); (case q0L => rfl); (case q0N => k_asm); k_whole; intro _ _ _ _ _ _; (try k_sweep))))
  trivial
section
variable {prog : Program} {w : World} {p : Program} {loose : List Str} {mean : ExcName → Option Value} {mg mb : Str → Option Value} {A A₀ : Around} {env : Env} {outer : List Env} {base h₀ : Heap} {L : Addr} {m : Str → Option Value} {s : Shared} {news : List (Addr × Obj)} {R : Result → Shared → Prop}
theorem rows_at_83 : True := by
  k_with "call ref" => (((with_reducible show wpAny _ _ (call (Value.ref 473) _) _ _ _); k_here; (with_reducible refine call_R ?_); k_dflt (refine' c_need_aligned ?q0C ?q0M ?q0hp ?q0ha ?q0h4 ?q0hd ?q0hu ?_; (case q0M => assumption); (case q0C => walk_at "ctx"); (case q0hp => first | assumption | walk_at "fact"); (case q0ha => first | assumption | walk_at "fact"); (case q0h4 => first | assumption | walk_at "fact"); (case q0hd => walk_at "depth"); (case q0hu => walk_at "units"); k_whole); intro _ _ _ _ _; (try (first | refine RetQ.ok ?_ | refine RetQ.err ?_)); (try walk_at "fold")))
  k_with "call ref" => (((with_reducible show wpAny _ _ (call (Value.ref 494) _) _ _ _); k_here; (with_reducible refine call_R ?_); k_dflt (refine' c_keep ?q0C ?q0M ?q0W ?q0hne ?q0hc ?q0hd ?q0hu ?_; (case q0M => assumption); (case q0W => assumption); (case q0C => walk_at "ctx"); (case q0hne => walk_at "apart"); (case q0hc => first | assumption | walk_at "fact"); (case q0hd => walk_at "depth"); (case q0hu => walk_at "units"); k_whole); intro _ _ _ _ _ _ _; (try (first | refine RetQ.ok ?_ | refine RetQ.err ?_)); (try walk_at "fold")))
  k_with "call ref" => (((with_reducible show wpAny _ _ (call (Value.ref 480) _) _ _ _); k_here; (with_reducible refine call_R ?_); k_dflt (refine' c_word ?q0C ?q0M ?q0W ?q0hp ?q0ha ?q0h4 ?q0hd ?q0hu ?_; (case q0M => assumption); (case q0W => assumption); (case q0C => walk_at "ctx"); (case q0hp => first | assumption | walk_at "fact"); (case q0ha => first | assumption | walk_at "fact"); (case q0h4 => first | assumption | walk_at "fact"); (case q0hd => walk_at "depth"); (case q0hu => walk_at "units"); k_whole); intro _ _ _ _ _ _; (try (first | refine RetQ.ok ?_ | refine RetQ.err ?_)); (try walk_at "fold")))
  k_with "call ref" => (((with_reducible show wpAny _ _ (call (Value.ref 487) _) _ _ _); k_here; (with_reducible refine call_R ?_); k_dflt (refine' c_put_word ?q0C ?q0M ?q0W ?q0hne ?q0hc ?q0hp ?q0ha ?q0h4 ?q0hv ?q0hd ?q0hu ?_; (case q0M => assumption); (case q0W => assumption); (case q0C => walk_at "ctx"); (case q0hne => walk_at "apart"); (case q0hc => first | assumption | walk_at "fact"); (case q0hp => first | assumption | walk_at "fact"); (case q0ha => first | assumption | walk_at "fact"); (case q0h4 => first | assumption | walk_at "fact"); (case q0hv => first | assumption | walk_at "fact"); (case q0hd => walk_at "depth"); (case q0hu => walk_at "units"); k_whole); intro _ _ _ _ _ _ _; (try (first | refine RetQ.ok ?_ | refine RetQ.err ?_)); (try walk_at "fold")))
  k_with "call ref" => (((with_reducible show wpAny _ _ (call (Value.ref 129) _) _ _ _); k_here; (with_reducible refine call_R ?_); k_dflt (refine' c_parts_in ?q0C ?q0D ?q0ln ?q0ha ?q0hd ?q0hu ?_; (case q0D => assumption); (case q0C => walk_at "ctx"); (case q0ln => assumption); (case q0ha => first | assumption | walk_at "fact"); (case q0hd => walk_at "depth"); (case q0hu => walk_at "units"); k_whole); intro _ _ _ _ _ _ _ _ _ _ l1'; (try k_lt l1'); (try (revert l1'; intro _)); (try (first | refine RetQ.ok ?_ | refine RetQ.err ?_)); (try walk_at "fold")))
  k_with "call ref" => (((with_reducible show wpAny _ _ (call (Value.ref 129) _) _ _ _); k_here; (with_reducible refine call_R ?_); k_dflt (refine' c_parts_out ?q0C ?q0D ?q0ln ?q0ha ?q0hd ?q0hu ?_; (case q0D => assumption); (case q0C => walk_at "ctx"); (case q0ln => assumption); (case q0ha => first | assumption | walk_at "fact"); (case q0hd => walk_at "depth"); (case q0hu => walk_at "units"); k_whole); intro _ _ _ _ _; (try (first | refine RetQ.ok ?_ | refine RetQ.err ?_)); (try walk_at "fold")))
  k_with "call ref" => (((with_reducible show wpAny _ _ (call (Value.ref 137) _) _ _ _); k_here; (with_reducible refine call_R ?_); k_dflt (refine' c_address ?q0C ?q0D ?q0ln ?q0hf1 ?q0hg1 ?q0hq1 ?q0hd ?q0hu ?_; (case q0D => assumption); (case q0C => walk_at "ctx"); (case q0ln => assumption); (case q0hf1 => first | assumption | walk_at "fact"); (case q0hg1 => first | assumption | walk_at "fact"); (case q0hq1 => first | assumption | walk_at "fact"); (case q0hd => walk_at "depth"); (case q0hu => walk_at "units"); k_whole); intro _ _ _ _ _ _; (try (first | refine RetQ.ok ?_ | refine RetQ.err ?_)); (try walk_at "fold")))
  k_with "call ref" => (((with_reducible show wpAny _ _ (call (Value.ref 144) _) _ _ _); k_here; (with_reducible refine call_R ?_); k_dflt (refine' c_down ?q0C ?q0D ?q0ln ?q0ha ?q0hd ?q0hu ?_; (case q0D => assumption); (case q0C => walk_at "ctx"); (case q0ln => assumption); (case q0ha => first | assumption | walk_at "fact"); (case q0hd => walk_at "depth"); (case q0hu => walk_at "units"); k_whole); intro _ _ _ _ _ _; (try (first | refine RetQ.ok ?_ | refine RetQ.err ?_)); (try walk_at "fold")))
  k_with "call ref" => (((with_reducible show wpAny _ _ (call (Value.ref 158) _) _ _ _); k_here; (with_reducible refine call_R ?_); k_dflt (refine' c_is_begin ?q0C ?q0D ?q0ln ?q0ha ?q0hd ?q0hu ?_; (case q0D => assumption); (case q0C => walk_at "ctx"); (case q0ln => assumption); (case q0ha => first | assumption | walk_at "fact"); (case q0hd => walk_at "depth"); (case q0hu => walk_at "units"); k_whole); intro _ _ _ _ _; (try (first | refine RetQ.ok ?_ | refine RetQ.err ?_)); (try walk_at "fold")))
  k_with "call ref" => (((with_reducible show wpAny _ _ (call (Value.ref 172) _) _ _ _); k_here; (with_reducible refine call_R ?_); k_dflt (refine' c_lentry ?q0C ?q0D ?q0ln ?q0ha ?q0hf1 ?q0hd ?q0hu ?_; (case q0D => assumption); (case q0C => walk_at "ctx"); (case q0ln => assumption); (case q0ha => first | assumption | walk_at "fact"); (case q0hf1 => first | assumption | walk_at "fact"); (case q0hd => walk_at "depth"); (case q0hu => walk_at "units"); k_whole); intro _ _ _ _ _ _; (try (first | refine RetQ.ok ?_ | refine RetQ.err ?_)); (try walk_at "fold")))
  k_with "call ref" => (((with_reducible show wpAny _ _ (call (Value.ref 179) _) _ _ _); k_here; (with_reducible refine call_R ?_); k_dflt (refine' c_lphysical ?q0C ?q0D ?q0ln ?q0he ?q0hd ?q0hu ?_; (case q0D => assumption); (case q0C => walk_at "ctx"); (case q0ln => assumption); (case q0he => first | assumption | walk_at "fact"); (case q0hd => walk_at "depth"); (case q0hu => walk_at "units"); k_whole); intro _ _ _ _ _ _; (try (first | refine RetQ.ok ?_ | refine RetQ.err ?_)); (try walk_at "fold")))
  k_with "call ref" => (((with_reducible show wpAny _ _ (call (Value.ref 198) _) _ _ _); k_here; (with_reducible refine call_R ?_); k_dflt (refine' c_is_leaf ?q0C ?q0he ?q0hd ?q0hu ?_; (case q0C => walk_at "ctx"); (case q0he => first | assumption | walk_at "fact"); (case q0hd => walk_at "depth"); (case q0hu => walk_at "units"); k_whole); intro _ _ _ _ _; (try (first | refine RetQ.ok ?_ | refine RetQ.err ?_)); (try walk_at "fold")))
  k_with "call ref" => (((with_reducible show wpAny _ _ (call (Value.ref 205) _) _ _ _); k_here; (with_reducible refine call_R ?_); k_dflt (refine' c_is_sound ?q0C ?q0he ?q0hd ?q0hu ?_; (case q0C => walk_at "ctx"); (case q0he => first | assumption | walk_at "fact"); (case q0hd => walk_at "depth"); (case q0hu => walk_at "units"); k_whole); intro _ _ _ _ _; (try (first | refine RetQ.ok ?_ | refine RetQ.err ?_)); (try walk_at "fold")))
  k_with "call ref" => (((with_reducible show wpAny _ _ (call (Value.ref 212) _) _ _ _); k_here; (with_reducible refine call_R ?_); k_dflt (refine' c_may ?q0C ?q0he ?q0hd ?q0hu ?_; (case q0C => walk_at "ctx"); (case q0he => first | assumption | walk_at "fact"); (case q0hd => walk_at "depth"); (case q0hu => walk_at "units"); k_whole); intro _ _ _ _ _; (try (first | refine RetQ.ok ?_ | refine RetQ.err ?_)); (try walk_at "fold")))
  k_with "call ref" => (((with_reducible show wpAny _ _ (call (Value.ref 298) _) _ _ _); k_here; (with_reducible refine call_R ?_); k_dflt (refine' c_need_parts ?q0C ?q0Ta ?q0D ?q0ln ?q0ine ?q0hd ?q0hu ?_; (case q0Ta => assumption); (case q0D => assumption); (case q0C => walk_at "ctx"); (case q0ln => assumption); (case q0ine => first | assumption | walk_at "fact"); (case q0hd => walk_at "depth"); (case q0hu => walk_at "units"); k_whole); intro _ _ _ _ _ _ _ _ _ _ _; (try (first | refine RetQ.ok ?_ | refine RetQ.err ?_)); (try walk_at "fold")))
  k_with "call ref" => (((with_reducible show wpAny _ _ (call (Value.ref 327) _) _ _ _); k_here; (with_reducible refine call_R ?_); k_dflt (refine' c_need_flags ?q0C ?q0hfl ?q0hd ?q0hu ?_ ?_; (case q0C => walk_at "ctx"); (case q0hfl => first | assumption | walk_at "fact"); (case q0hd => walk_at "depth"); (case q0hu => walk_at "units"); k_whole); (intro _ _ _ _ _ _; (try (first | refine RetQ.ok ?_ | refine RetQ.err ?_)); (try walk_at "fold")); rotate_left; (intro _ _ _ _ _ _ _ _ _; (try (first | refine RetQ.ok ?_ | refine RetQ.err ?_)); (try walk_at "fold")); rotate_left))
  k_with "call ref" => (((with_reducible show wpAny _ _ (call (Value.ref 306) _) _ _ _); k_here; (with_reducible refine call_R ?_); k_dflt (refine' c_walk ?q0C ?q0Ta ?q0D ?q0ln ?q0M ?q0W ?q0hcv ?q0ine ?q0p1 ?q0p1m ?q0hd ?q0hu ?_ ?_ ?_; (case q0Ta => assumption); (case q0D => assumption); (case q0M => assumption); (case q0W => assumption); (case q0C => walk_at "ctx"); (case q0ln => assumption); (case q0hcv => assumption); (case q0ine => first | assumption | walk_at "fact"); (case q0p1 => first | assumption | walk_at "fact"); (case q0p1m => first | assumption | walk_at "fact"); (case q0hd => walk_at "depth"); (case q0hu => walk_at "units"); k_whole); (intro _ _ _ _ _ _; (try (first | refine RetQ.ok ?_ | refine RetQ.err ?_)); (try walk_at "fold")); rotate_left; (intro _ _ _ _ _ _ _ _; (try (first | refine RetQ.ok ?_ | refine RetQ.err ?_)); (try walk_at "fold")); rotate_left; (intro _ _ _ _ _ _ _ _ _ _; (try (first | refine RetQ.ok ?_ | refine RetQ.err ?_)); (try walk_at "fold")); rotate_left))
  k_with "call ref" => (((with_reducible show wpAny _ _ (call (Value.ref 313) _) _ _ _); k_here; (with_reducible refine call_R ?_); k_dflt (refine' c_entry ?q0C ?q0Ta ?q0D ?q0ln ?q0M ?q0W ?q0hcv ?q0ine ?q0p1 ?q0p1m ?q0p2 ?q0hd ?q0hu ?_; (case q0Ta => assumption); (case q0D => assumption); (case q0M => assumption); (case q0W => assumption); (case q0C => walk_at "ctx"); (case q0ln => assumption); (case q0hcv => assumption); (case q0ine => first | assumption | walk_at "fact"); (case q0p1 => first | assumption | walk_at "fact"); (case q0p1m => first | assumption | walk_at "fact"); (case q0p2 => first | assumption | walk_at "fact"); (case q0hd => walk_at "depth"); (case q0hu => walk_at "units"); k_whole); intro _ _ _ _ _ _ _ ve'; subst ve'; (try (first | refine RetQ.ok ?_ | refine RetQ.err ?_)); (try walk_at "fold")))
  k_with "call ref" => (((with_reducible show wpAny _ _ (call (Value.ref 348) _) _ _ _); k_here; (with_reducible refine call_R ?_); k_dflt (refine' c_need_place ?q0C ?q0Ta ?q0D ?q0ln ?q0M ?q0W ?q0hcv ?q0ine ?q0p1 ?q0p1m ?q0p2 ?q0hd ?q0hu ?_ ?_; (case q0Ta => assumption); (case q0D => assumption); (case q0M => assumption); (case q0W => assumption); (case q0C => walk_at "ctx"); (case q0ln => assumption); (case q0hcv => assumption); (case q0ine => first | assumption | walk_at "fact"); (case q0p1 => first | assumption | walk_at "fact"); (case q0p1m => first | assumption | walk_at "fact"); (case q0p2 => first | assumption | walk_at "fact"); (case q0hd => walk_at "depth"); (case q0hu => walk_at "units"); k_whole); (intro _ _ _ _ _ _ _; (try (first | refine RetQ.ok ?_ | refine RetQ.err ?_)); (try walk_at "fold")); rotate_left; (intro _ _ _ _ _ _ _ _ _; (try (first | refine RetQ.ok ?_ | refine RetQ.err ?_)); (try walk_at "fold")); rotate_left))
  k_with "call ref" => (((with_reducible show wpAny _ _ (call (Value.ref 320) _) _ _ _); k_here; (with_reducible refine call_R ?_); k_dflt (refine' c_tphysical ?q0C ?q0Ta ?q0D ?q0ln ?q0M ?q0W ?q0hcv ?q0ine ?q0p1 ?q0p1m ?q0p2 ?q0hd ?q0hu ?_ ?_; (case q0Ta => assumption); (case q0D => assumption); (case q0M => assumption); (case q0W => assumption); (case q0C => walk_at "ctx"); (case q0ln => assumption); (case q0hcv => assumption); (case q0ine => first | assumption | walk_at "fact"); (case q0p1 => first | assumption | walk_at "fact"); (case q0p1m => first | assumption | walk_at "fact"); (case q0p2 => first | assumption | walk_at "fact"); (case q0hd => walk_at "depth"); (case q0hu => walk_at "units"); k_whole); (intro _ _ _ _ _ _; (try (first | refine RetQ.ok ?_ | refine RetQ.err ?_)); (try walk_at "fold")); rotate_left; (intro _ _ _ _ _ _ _ _; (try (first | refine RetQ.ok ?_ | refine RetQ.err ?_)); (try walk_at "fold")); rotate_left))
  k_with "exec Raise some none" => ((k_here; (k_dflt (refine' raise_arg ?q0h ?_; (case q0h => first | assumption | exact rfl))); (try dsimp only)))
  k_with "call ref" => (((with_reducible show wpAny _ _ (call (Value.ref 52) _) _ _ _); k_here; (with_reducible refine wpAny_call ?_); k_dflt (refine' c_mkarg ?q0C ?q0d ?q0u ?_; (case q0C => walk_at "ctx"); (case q0d => walk_at "depth"); (case q0u => walk_at "units"); k_whole); intro _ _ _ _ _ _ _ _ _ _ _ _ _ _; (try dsimp only)))
  k_with "Exists" => (((with_reducible show ∃ e t dx, _ = _ ∧ _); refine' ⟨_, _, _, rfl, ?q0X, ?q0e, ?_⟩; (case q0X => exact Frag.In.keeps (by k_asm) (Fr.keep (by k_asm))); (case q0e => exact (News.get (by k_asm) (List.Mem.tail _ (List.Mem.head _)))); (try dsimp only)))
  k_with "leaving ref" => ((k_here; k_dflt (first | (refine' leave_onD ?q0K ?q0F ?q0R ?_; (case q0K => k_asm); (case q0R => assumption); (case q0F => assumption); intro _ _) | (refine' leaveT0 ?q0K ?q0F ?q0N ?q0a ?q0b ?q0c ?q0d ?_; (case q0K => k_asm); (case q0F => k_asm); (case q0N => k_asm); (case q0a => assumption); (case q0b => assumption); (case q0c => assumption); (case q0d => assumption); intro _ _)); (try dsimp only)))
  k_with "fact" => (first | exact (p2 (np_of (by assumption)).1 (np_of (by assumption)).2.1).1 | exact (p2 (np_of (by assumption)).1 (np_of (by assumption)).2.1).2 | exact ine2)
  trivial
theorem c_is_begin_t {lay : Addr} {b pg en lg ed : Int} {tl : Toks} {a : Int} {t : Tok} (C : Ctx w p loose mean mg mb A A₀ env outer base h₀ L s.heap m news) (D : Has h₀ lay 182 (layF b pg en lg ed tl)) (ln : LayN b pg en lg ed) (ha : 0 ≤ a ∧ a < 4294967296) (hpo : pO pg a = 0) (hd : A.depth ≤ 800) (hu : A.units ≤ 8000)
  (hR : ∀ h' tk, let st' : Shared := { s with heap := h', toks := tk }; Fr h₀ L h' m → News h₀ L h' news → R (.ok (.ret (.bool true))) st') :
    codeAny (model prog w) A (.call (.ref 158) ⟨[.ref lay, .int a t], []⟩) R s := by
  refine' c_is_begin C D ln ha hd hu fun h' tk F' N' => ?_
  rw [hpo]
  exact hR _ _ F' N'
theorem rows_at_84 : True := by
  k_with "call ref" => (((with_reducible show wpAny _ _ (call (Value.ref 158) _) _ _ _); k_here; (with_reducible refine call_R ?_); k_dflt (refine' c_is_begin_t ?q0C ?q0D ?q0ln ?q0ha ?q0hpo ?q0hd ?q0hu ?_; (case q0D => assumption); (case q0C => walk_at "ctx"); (case q0ln => assumption); (case q0ha => first | assumption | walk_at "fact"); (case q0hpo => assumption); (case q0hd => walk_at "depth"); (case q0hu => walk_at "units"); k_whole); intro _ _ _ _ _; (try (first | refine RetQ.ok ?_ | refine RetQ.err ?_)); (try walk_at "fold")))
  trivial
theorem c_unmap {tab mem lay pgs wd : Addr} {b pg en lg ed : Int} {tl tt : Toks} {o : Obj} {c : List (Int × Int)} {rest : List (Addr × Obj)} {ad : Int} {t u : Tok} (C : Ctx w p loose mean mg mb A A₀ env outer base h₀ L s.heap m ((wd, o) :: rest)) (Ta : Has h₀ tab 418 (tabF mem lay pgs)) (D : Has h₀ lay 182 (layF b pg en lg ed tl)) (ln : LayN b pg en lg ed) (M : Has h₀ mem 607 (memF pg wd tt)) (W : WD prog w wd o c) (hne : ∀ p ∈ rest, p.1 ≠ wd) (hc : c.length < 900) (hcv : ∀ i, 0 ≤ kdfLook c i 0 ∧ kdfLook c i 0 < 65536) (ine : 0 ≤ ad ∧ ad < ed) (ine2 : 0 ≤ (downS pg ad) ∧ (downS pg ad) < ed) (p1 : 0 ≤ p1S b (downS pg ad) ∧ p1S b (downS pg ad) + 4 ≤ 4 * pg) (p1m : (p1S b (downS pg ad)).fmod 4 = 0) (p2 : v1S (e1S b (downS pg ad) c) = true → leafS (e1S b (downS pg ad) c) = false → (0 ≤ p2S b en (downS pg ad) c ∧ p2S b en (downS pg ad) c + 4 ≤ 4 * pg) ∧ (p2S b en (downS pg ad) c).fmod 4 = 0) (hd : A.depth ≤ 560) (hu : A.units ≤ 5600)
  (hR : ∀ h' tk t' o', let st' : Shared := { s with heap := h', toks := tk }; Fr h₀ L h' m → News h₀ L h' ((wd, o') :: rest) → npS b en (downS pg ad) c = true → WD prog w wd o' (putS c ((p2S b en (downS pg ad) c).fdiv 4) 0) → R (.ok (.ret (.int (physS b (e2S b en (downS pg ad) c)) t'))) st')
  (hE : ∀ h' tk g' (xe xd : Addr) (xD : Obj), npS b en (downS pg ad) c = false → Fr h₀ L g' m → Thr base g' (env :: outer) xe 52 (some xd) ((xd, xD) :: ((wd, o) :: rest)) h' → R (.error (.ref xe)) { s with heap := h', toks := tk }) :
    codeAny (model prog w) A (.call (.ref 355) ⟨[.ref tab, .int 0 t, .int ad u], []⟩) R s := by
  refine' enter [("self", .ref tab), ("root", .int 0 t), ("address", .int ad u)] C ?k6 ?k7 ?k8 ?k9 ?kB ?c2 ?c3 ?c4 ?c5 ?_
  walk_at "entered"
  case k9 => walk_at "binds"
  obtain ⟨B, F, X, N, T, hA, hf, hke, hh⟩ := C
  intro g' L' h' tk' FG F' N' B' X' T'
  replace Ta := Ta.keeps FG.keep
  replace D := D.keeps FG.keep
  replace M := M.keeps FG.keep
  try dsimp only
  refine foldEnter (f := execs) F' ?_
  clear F'
  intro M9 en9 A9 m9 qk ek st9 F'
  try clear N
  obtain ⟨hb, hp, hen, hlg, hed⟩ := layN_b ln
  have v1 := hcv ((p1S b (downS pg ad)).fdiv 4)
  have v2 := hcv ((p2S b en (downS pg ad) c).fdiv 4)
  k_steps
  all_goals first
    | (refine' hE _ _ _ _ _ _ (by assumption) FG ?R
       case R => first | assumption | exact Thr.sub (by assumption) sub2 | exact Thr.sub (by assumption) sub3 | exact Thr.sub (by assumption) sub5 | exact Thr.sub (by assumption) sub6)
    | (refine' hR _ _ _ _ ?F ?N (by assumption) ?W
       case W => assumption
       case F => k_asm
       case N => first | k_asm | exact News.sub (by k_asm) sub1 | exact News.sub (by k_asm) sub2)
theorem rows_at_85 : True := by
  k_with "call ref" => (((with_reducible show wpAny _ _ (call (Value.ref 355) _) _ _ _); k_here; (with_reducible refine call_R ?_); k_dflt (refine' c_unmap ?q0C ?q0Ta ?q0D ?q0ln ?q0M ?q0W ?q0hne ?q0hc ?q0hcv ?q0ine ?q0ine2 ?q0p1 ?q0p1m ?q0p2 ?q0hd ?q0hu ?_ ?_; (case q0Ta => assumption); (case q0D => assumption); (case q0M => assumption); (case q0W => assumption); (case q0C => walk_at "ctx"); (case q0ln => assumption); (case q0hne => walk_at "apart"); (case q0hc => first | assumption | walk_at "fact"); (case q0hcv => assumption); (case q0ine => first | assumption | walk_at "fact"); (case q0ine2 => first | assumption | walk_at "fact"); (case q0p1 => first | assumption | walk_at "fact"); (case q0p1m => first | assumption | walk_at "fact"); (case q0p2 => first | assumption | walk_at "fact"); (case q0hd => walk_at "depth"); (case q0hu => walk_at "units"); k_whole); (intro _ _ _ _ _ _ _ _ _; (try (first | refine RetQ.ok ?_ | refine RetQ.err ?_)); (try walk_at "fold")); rotate_left; (intro _ _ _ _ _ _ _ _ _; (try (first | refine RetQ.ok ?_ | refine RetQ.err ?_)); (try walk_at "fold")); rotate_left))
  trivial
theorem c_change {tab mem lay pgs wd : Addr} {b pg en lg ed : Int} {tl tt : Toks} {o : Obj} {c : List (Int × Int)} {rest : List (Addr × Obj)} {ad : Int} {t u : Tok} {add take : Int} {x1 x2 : Tok} (C : Ctx w p loose mean mg mb A A₀ env outer base h₀ L s.heap m ((wd, o) :: rest)) (Ta : Has h₀ tab 418 (tabF mem lay pgs)) (D : Has h₀ lay 182 (layF b pg en lg ed tl)) (ln : LayN b pg en lg ed) (M : Has h₀ mem 607 (memF pg wd tt)) (W : WD prog w wd o c) (hne : ∀ p ∈ rest, p.1 ≠ wd) (hc : c.length < 900) (hcv : ∀ i, 0 ≤ kdfLook c i 0 ∧ kdfLook c i 0 < 65536) (ine : 0 ≤ ad ∧ ad < ed) (ine2 : 0 ≤ (downS pg ad) ∧ (downS pg ad) < ed) (p1 : 0 ≤ p1S b (downS pg ad) ∧ p1S b (downS pg ad) + 4 ≤ 4 * pg) (p1m : (p1S b (downS pg ad)).fmod 4 = 0) (p2 : v1S (e1S b (downS pg ad) c) = true → leafS (e1S b (downS pg ad) c) = false → (0 ≤ p2S b en (downS pg ad) c ∧ p2S b en (downS pg ad) c + 4 ≤ 4 * pg) ∧ (p2S b en (downS pg ad) c).fmod 4 = 0) (hadd : 0 ≤ add ∧ add < 1024) (htake : 0 ≤ take ∧ take < 1024) (hd : A.depth ≤ 560) (hu : A.units ≤ 5600)
  (hR : ∀ h' tk t' o', let st' : Shared := { s with heap := h', toks := tk }; Fr h₀ L h' m → News h₀ L h' ((wd, o') :: rest) → npS b en (downS pg ad) c = true → nfS (cfS (e2S b en (downS pg ad) c) add take) = true → WD prog w wd o' (putS c ((p2S b en (downS pg ad) c).fdiv 4) (Builtin.bitOr (chS (e2S b en (downS pg ad) c) add take) 1)) → R (.ok (.ret (.int (Builtin.bitOr (chS (e2S b en (downS pg ad) c) add take) 1) t'))) st')
  (hE : ∀ h' tk g' (xe xd : Addr) (xD : Obj), (npS b en (downS pg ad) c && nfS (cfS (e2S b en (downS pg ad) c) add take)) = false → Fr h₀ L g' m → Thr base g' (env :: outer) xe 52 (some xd) ((xd, xD) :: ((wd, o) :: rest)) h' → R (.error (.ref xe)) { s with heap := h', toks := tk }) :
    codeAny (model prog w) A (.call (.ref 363) ⟨[.ref tab, .int 0 t, .int ad u, .int add x1, .int take x2], []⟩) R s := by
  refine' enter [("self", .ref tab), ("root", .int 0 t), ("address", .int ad u), ("add", .int add x1), ("take", .int take x2)] C ?k6 ?k7 ?k8 ?k9 ?kB ?c2 ?c3 ?c4 ?c5 ?_
  walk_at "entered"
  case k9 => walk_at "dbinds"
  obtain ⟨B, F, X, N, T, hA, hf, hke, hh⟩ := C
  intro g' L' h' tk' FG F' N' B' X' T'
  replace Ta := Ta.keeps FG.keep
  replace D := D.keeps FG.keep
  replace M := M.keeps FG.keep
  try dsimp only
  refine foldEnter (f := execs) F' ?_
  clear F'
  intro M9 en9 A9 m9 qk ek st9 F'
  try clear N
  obtain ⟨hb, hp, hen, hlg, hed⟩ := layN_b ln
  have v1 := hcv ((p1S b (downS pg ad)).fdiv 4)
  have v2 := hcv ((p2S b en (downS pg ad) c).fdiv 4)
  have cl := cf_lt (e := e2S b en (downS pg ad) c) (add := add) (take := take)
  have hl := ch_lt (add := add) (take := take) v2
  have hl2 := or_lt hl (y := 1) (by decide)
  k_steps
  all_goals first
    | (refine' hE _ _ _ _ _ _ ?s FG ?R
       case s => first | (rw [show npS b en (downS pg ad) c = false from by assumption]; rfl) | (rw [show nfS (cfS (e2S b en (downS pg ad) c) add take) = false from by assumption]; exact Bool.and_false _)
       case R => first | assumption | exact Thr.sub (by assumption) sub2 | exact Thr.sub (by assumption) sub3 | exact Thr.sub (by assumption) sub5 | exact Thr.sub (by assumption) sub6)
    | (refine' hR _ _ _ _ ?F ?N (by assumption) (by assumption) ?W
       case W => assumption
       case F => k_asm
       case N => first | k_asm | exact News.sub (by k_asm) sub1 | exact News.sub (by k_asm) sub2)
theorem rows_at_86 : True := by
  k_with "call ref" => (((with_reducible show wpAny _ _ (call (Value.ref 363) _) _ _ _); k_here; (with_reducible refine call_R ?_); k_dflt (refine' c_change ?q0C ?q0Ta ?q0D ?q0ln ?q0M ?q0W ?q0hne ?q0hc ?q0hcv ?q0ine ?q0ine2 ?q0p1 ?q0p1m ?q0p2 ?q0hadd ?q0htake ?q0hd ?q0hu ?_ ?_; (case q0Ta => assumption); (case q0D => assumption); (case q0M => assumption); (case q0W => assumption); (case q0C => walk_at "ctx"); (case q0ln => assumption); (case q0hne => walk_at "apart"); (case q0hc => first | assumption | walk_at "fact"); (case q0hcv => assumption); (case q0ine => first | assumption | walk_at "fact"); (case q0ine2 => first | assumption | walk_at "fact"); (case q0p1 => first | assumption | walk_at "fact"); (case q0p1m => first | assumption | walk_at "fact"); (case q0p2 => first | assumption | walk_at "fact"); (case q0hadd => first | assumption | walk_at "fact"); (case q0htake => first | assumption | walk_at "fact"); (case q0hd => walk_at "depth"); (case q0hu => walk_at "units"); k_whole); (intro _ _ _ _ _ _ _ _ _ _; (try (first | refine RetQ.ok ?_ | refine RetQ.err ?_)); (try walk_at "fold")); rotate_left; (intro _ _ _ _ _ _ _ _ _; (try (first | refine RetQ.ok ?_ | refine RetQ.err ?_)); (try walk_at "fold")); rotate_left))
  trivial
theorem c_move {tab mem lay pgs wd : Addr} {b pg en lg ed : Int} {tl tt : Toks} {o : Obj} {c : List (Int × Int)} {rest : List (Addr × Obj)} {ad : Int} {t u : Tok} {ph fl : Int} {x1 x2 : Tok} (C : Ctx w p loose mean mg mb A A₀ env outer base h₀ L s.heap m ((wd, o) :: rest)) (Ta : Has h₀ tab 418 (tabF mem lay pgs)) (D : Has h₀ lay 182 (layF b pg en lg ed tl)) (ln : LayN b pg en lg ed) (M : Has h₀ mem 607 (memF pg wd tt)) (W : WD prog w wd o c) (hne : ∀ p ∈ rest, p.1 ≠ wd) (hc : c.length < 900) (hcv : ∀ i, 0 ≤ kdfLook c i 0 ∧ kdfLook c i 0 < 65536) (ine : 0 ≤ ad ∧ ad < ed) (ine2 : 0 ≤ (downS pg ad) ∧ (downS pg ad) < ed) (p1 : 0 ≤ p1S b (downS pg ad) ∧ p1S b (downS pg ad) + 4 ≤ 4 * pg) (p1m : (p1S b (downS pg ad)).fmod 4 = 0) (p2 : v1S (e1S b (downS pg ad) c) = true → leafS (e1S b (downS pg ad) c) = false → (0 ≤ p2S b en (downS pg ad) c ∧ p2S b en (downS pg ad) c + 4 ≤ 4 * pg) ∧ (p2S b en (downS pg ad) c).fmod 4 = 0) (hph : 0 ≤ ph ∧ ph < 40 * pg) (hpo : pO pg ph = 0) (hfl : 0 ≤ fl ∧ fl < 1024) (hd : A.depth ≤ 560) (hu : A.units ≤ 5600)
  (hR : ∀ h' tk t' o', let st' : Shared := { s with heap := h', toks := tk }; Fr h₀ L h' m → News h₀ L h' ((wd, o') :: rest) → npS b en (downS pg ad) c = true → nfS fl = true → WD prog w wd o' (putS c ((p2S b en (downS pg ad) c).fdiv 4) (entS b ph (Builtin.bitOr fl 1))) → R (.ok (.ret (.int (physS b (e2S b en (downS pg ad) c)) t'))) st')
  (hE : ∀ h' tk g' (xe xd : Addr) (xD : Obj), (npS b en (downS pg ad) c && nfS fl) = false → Fr h₀ L g' m → Thr base g' (env :: outer) xe 52 (some xd) ((xd, xD) :: ((wd, o) :: rest)) h' → R (.error (.ref xe)) { s with heap := h', toks := tk }) :
    codeAny (model prog w) A (.call (.ref 370) ⟨[.ref tab, .int 0 t, .int ad u, .int ph x1, .int fl x2], []⟩) R s := by
  refine' enter [("self", .ref tab), ("root", .int 0 t), ("address", .int ad u), ("physical", .int ph x1), ("flags", .int fl x2)] C ?k6 ?k7 ?k8 ?k9 ?kB ?c2 ?c3 ?c4 ?c5 ?_
  walk_at "entered"
  case k9 => walk_at "binds"
  obtain ⟨B, F, X, N, T, hA, hf, hke, hh⟩ := C
  intro g' L' h' tk' FG F' N' B' X' T'
  replace Ta := Ta.keeps FG.keep
  replace D := D.keeps FG.keep
  replace M := M.keeps FG.keep
  try dsimp only
  refine foldEnter (f := execs) F' ?_
  clear F'
  intro M9 en9 A9 m9 qk ek st9 F'
  try clear N
  obtain ⟨hb, hp, hen, hlg, hed⟩ := layN_b ln
  have v1 := hcv ((p1S b (downS pg ad)).fdiv 4)
  have v2 := hcv ((p2S b en (downS pg ad) c).fdiv 4)
  have hf1 : 0 ≤ Builtin.bitOr fl 1 ∧ Builtin.bitOr fl 1 < 1024 := by rw [bitOr_and]; exact or_lt_pow 10 fl 1 hfl.1 hfl.2 (by decide) (by decide)
  have hel := ent_lt ln hph (fl := Builtin.bitOr fl 1) ⟨hf1.1, by omega⟩
  k_steps
  all_goals first
    | (refine' hE _ _ _ _ _ _ ?s FG ?R
       case s => first | (rw [show npS b en (downS pg ad) c = false from by assumption]; rfl) | (rw [show nfS fl = false from by assumption]; exact Bool.and_false _)
       case R => first | assumption | exact Thr.sub (by assumption) sub2 | exact Thr.sub (by assumption) sub3 | exact Thr.sub (by assumption) sub5 | exact Thr.sub (by assumption) sub6)
    | (refine' hR _ _ _ _ ?F ?N (by assumption) (by assumption) ?W
       case W => assumption
       case F => k_asm
       case N => first | k_asm | exact News.sub (by k_asm) sub1 | exact News.sub (by k_asm) sub2)
theorem rows_at_87 : True := by
  k_with "call ref" => (((with_reducible show wpAny _ _ (call (Value.ref 370) _) _ _ _); k_here; (with_reducible refine call_R ?_); k_dflt (refine' c_move ?q0C ?q0Ta ?q0D ?q0ln ?q0M ?q0W ?q0hne ?q0hc ?q0hcv ?q0ine ?q0ine2 ?q0p1 ?q0p1m ?q0p2 ?q0hph ?q0hpo ?q0hfl ?q0hd ?q0hu ?_ ?_; (case q0Ta => assumption); (case q0D => assumption); (case q0M => assumption); (case q0W => assumption); (case q0C => walk_at "ctx"); (case q0ln => assumption); (case q0hne => walk_at "apart"); (case q0hc => first | assumption | walk_at "fact"); (case q0hcv => assumption); (case q0ine => first | assumption | walk_at "fact"); (case q0ine2 => first | assumption | walk_at "fact"); (case q0p1 => first | assumption | walk_at "fact"); (case q0p1m => first | assumption | walk_at "fact"); (case q0p2 => first | assumption | walk_at "fact"); (case q0hph => first | assumption | walk_at "fact"); (case q0hpo => assumption); (case q0hfl => first | assumption | walk_at "fact"); (case q0hd => walk_at "depth"); (case q0hu => walk_at "units"); k_whole); (intro _ _ _ _ _ _ _ _ _ _; (try (first | refine RetQ.ok ?_ | refine RetQ.err ?_)); (try walk_at "fold")); rotate_left; (intro _ _ _ _ _ _ _ _ _; (try (first | refine RetQ.ok ?_ | refine RetQ.err ?_)); (try walk_at "fold")); rotate_left))
  trivial
end
end Mine
end W9d
section W10
open PySem PySem.W PyProof.Rows PySem.Calls PySem.Spec PyProof.V
set_option maxRecDepth 100000
set_option maxHeartbeats 8000000
set_option autoImplicit false
namespace Mine

theorem rows_at_88 : True := by
  k_with_none
  k_with "ctx" => ((refine' Ctx.mk ?q0B ?q0F ?q0X ?q0N ?q0T ?q0a ?q0f ?q0k ?q0h; (case q0B => k_asm); (case q0F => k_asm); (case q0X => k_asm); (case q0N => first | k_asm | exact news_swap1 (by k_asm) | exact news_swap2 (by k_asm) | exact news_swap3 (by k_asm)); (case q0T => k_asm); (case q0a => first | assumption | exact Around.frames_deeper (Below.stack (by assumption))); (case q0f => first | assumption | exact rfl); (case q0k => first | assumption | exact rfl); (case q0h => first | assumption | exact rfl)))
  k_with "getAttr ref" => ((k_here; k_dflt (refine' own_get ?q0D ?q0F ?q0X ?q0a ?q0b ?q0c ?q0d ?q0l ?q0v ?_; (case q0D => assumption); (case q0F => k_asm); (case q0X => k_asm); (case q0a => k_is); (case q0b => k_is); (case q0c => k_is); (case q0d => k_is); (case q0l => intro _ _; k_get); (case q0v => k_handed); k_whole)))
  k_with "getMethod ref" => ((k_here; k_dflt (refine' own_meth ?q0D ?q0F ?q0X ?q0a ?q0b ?q0c ?q0l ?_; (case q0D => assumption); (case q0F => k_asm); (case q0X => k_asm); (case q0a => k_is); (case q0b => k_is); (case q0c => k_is); (case q0l => intro _ _; k_get); k_whole)))
  k_with "getMethod ref" => ((k_here; (with_reducible show wpAny _ _ (getMethod (Value.ref _) (PySem.Str.ofString "get") _) _ _ _); k_dflt (refine' w_getm ?q0W ?q0N ?q0p ?_; (case q0W => assumption); (case q0N => k_asm); (case q0p => k_mem); k_whole)))
  k_with "getMethod ref" => ((k_here; (with_reducible show wpAny _ _ (getMethod (Value.ref _) (PySem.Str.ofString "pop") _) _ _ _); k_dflt (refine' w_popm ?q0W ?q0N ?q0p ?_; (case q0W => assumption); (case q0N => k_asm); (case q0p => k_mem); k_whole)))
  k_with "call builtin:dict.get" => ((k_here; k_dflt (refine' w_get ?q0W ?q0N ?q0p ?_; (case q0W => assumption); (case q0N => k_asm); (case q0p => k_mem); k_whole); intro _))
  k_with "call builtin:dict.pop" => ((k_here; k_dflt (refine' w_pop ?q0W ?q0F ?q0N ?q0p ?q0U ?_; (case q0W => assumption); (case q0F => k_asm); (case q0N => k_asm); (case q0p => k_mem); (case q0U => (first | (refine UpdF.head ?_; assumption) | k_updF)); k_whole); intro _ _ _ _ N'; (try dsimp only at N'); (try (revert N'; intro _)); intro _))
  k_with "setItem ref int" => ((k_here; k_dflt (refine' w_set ?q0W ?q0F ?q0N ?q0U ?q0c ?_; (case q0W => assumption); (case q0F => k_asm); (case q0N => k_asm); (case q0U => (first | (refine UpdF.head ?_; assumption) | k_updF)); (case q0c => first | assumption | omega); k_whole); intro _ _ _ N'; (try dsimp only at N'); (try (revert N'; intro _)); intro _))
  k_with "depth" => (first | exact dp1 (by assumption) rfl | exact dp2 (by assumption) rfl | ((simp +zetaDelta only [depth_mark, depth_under_make, depth_under_kw, depth_in1, depth_deeper, depth_caller]); omega))
  k_with "units" => (first | exact up1 (by assumption) rfl | exact up2 (by assumption) rfl | ((simp +zetaDelta only [units_in1, units_deeper, Around.mark_units, units_caller]); omega))
  k_with "apart" => (first | assumption | exact List.forall_mem_cons.mpr ⟨by k_ne, by assumption⟩ | exact List.forall_mem_cons.mpr ⟨by k_ne, List.forall_mem_cons.mpr ⟨by k_ne, by assumption⟩⟩)
  k_with "fact" => (omega)
  k_with "entered" => ((k_dflt ((case k6 => k_is); (case k7 => k_is); (case k8 => walk_at "room"); (case c5 => decide); (case kB => exact locs rfl); (case c2 => exact rfl); (case c3 => exact rfl); (case c4 => exact rfl))))
  k_with "binds" => ((k_dflt (exact BindsTo.of_eq (by kernel_rfl))))
  k_with "dbinds" => ((k_dflt (exact binds_K (Frag.In.keeps (Ctx.X (by assumption)) (Fr.keep (Ctx.F (by assumption)))) rfl (by k_is) rfl rfl (by kernel_rfl))))
  k_with "room" => (((simp only [rl_is]); omega))
  k_with "assign Tuple" => ((k_here; (with_reducible show wpAny _ _ (assign (Expr.Tuple _ _ _) _ (Value.ref _)) _ _ _); k_dflt (refine' unpackN_ ?q0k1 ?q0k2 ?q0k3 ?q0k4 ?q0k5 ?q0k6 ?_; (case q0k1 => k_asm); (case q0k2 => k_asm); (case q0k3 => exact News.isTup (by k_asm) (by k_mem)); (case q0k4 => first | assumption | exact rfl); (case q0k5 => exact rfl); (case q0k6 => exact rfl); k_whole); intro _ _ _; (try k_sweep)))
  k_with "unpackItems ref" => ((k_here; k_dflt (refine' unpackItemsN_ ?q0k1 ?q0k2 ?q0k3 ?q0k4 ?q0k5 ?_; (case q0k1 => k_asm); (case q0k2 => k_asm); (case q0k3 => kun_tup); (case q0k4 => first | assumption | exact rfl); (case q0k5 => exact rfl); k_whole); intro _ _ _; (try k_sweep)))
  k_with "fold" => (((fail_if_success (fail_if_success k_fold)); refine foldQ ?_; intro _))
  k_with "foldS" => (((fail_if_success (fail_if_success k_fold)); refine foldQS ?_; intro _ _))
  k_with "foldE" => (((fail_if_success (fail_if_success (refine swapT ⟨?_, ?_⟩; k_fold))); refine foldEE ?_; intro _))
  trivial

theorem rows_at_89 : True := by
  k_with "eval Name" => ((k_here; k_dflt (refine' nmL ?q0F ?q0v ?_ ?q0L ?q0x; (case q0x => rfl); (case q0F => k_asm); (case q0L => rfl); (case q0v => rfl); k_whole)))
  k_with "storeName" => ((k_here; k_dflt (refine' stL ?q0F ?q0N ?_ ?q0L ?q0x; (case q0x => rfl); (case q0F => k_asm); (case q0L => rfl); (case q0N => k_asm); k_whole; intro _ _ _ _ _ _; (try k_sweep))))
  trivial
section
variable {prog : Program} {w : World} {p : Program} {loose : List Str} {mean : ExcName → Option Value} {mg mb : Str → Option Value} {A A₀ : Around} {env : Env} {outer : List Env} {base h₀ : Heap} {L : Addr} {m : Str → Option Value} {s : Shared} {news : List (Addr × Obj)} {R : Result → Shared → Prop}
theorem rows_at_90 : True := by
  k_with "call ref" => (((with_reducible show wpAny _ _ (call (Value.ref 473) _) _ _ _); k_here; (with_reducible refine call_R ?_); k_dflt (refine' c_need_aligned ?q0C ?q0M ?q0hp ?q0ha ?q0h4 ?q0hd ?q0hu ?_; (case q0M => assumption); (case q0C => walk_at "ctx"); (case q0hp => first | assumption | walk_at "fact"); (case q0ha => first | assumption | walk_at "fact"); (case q0h4 => first | assumption | walk_at "fact"); (case q0hd => walk_at "depth"); (case q0hu => walk_at "units"); k_whole); intro _ _ _ _ _; (try (first | refine RetQ.ok ?_ | refine RetQ.err ?_)); (try walk_at "fold")))
  k_with "call ref" => (((with_reducible show wpAny _ _ (call (Value.ref 494) _) _ _ _); k_here; (with_reducible refine call_R ?_); k_dflt (refine' c_keep ?q0C ?q0M ?q0W ?q0hne ?q0hc ?q0hd ?q0hu ?_; (case q0M => assumption); (case q0W => assumption); (case q0C => walk_at "ctx"); (case q0hne => walk_at "apart"); (case q0hc => first | assumption | walk_at "fact"); (case q0hd => walk_at "depth"); (case q0hu => walk_at "units"); k_whole); intro _ _ _ _ _ _ _; (try (first | refine RetQ.ok ?_ | refine RetQ.err ?_)); (try walk_at "fold")))
  k_with "call ref" => (((with_reducible show wpAny _ _ (call (Value.ref 480) _) _ _ _); k_here; (with_reducible refine call_R ?_); k_dflt (refine' c_word ?q0C ?q0M ?q0W ?q0hp ?q0ha ?q0h4 ?q0hd ?q0hu ?_; (case q0M => assumption); (case q0W => assumption); (case q0C => walk_at "ctx"); (case q0hp => first | assumption | walk_at "fact"); (case q0ha => first | assumption | walk_at "fact"); (case q0h4 => first | assumption | walk_at "fact"); (case q0hd => walk_at "depth"); (case q0hu => walk_at "units"); k_whole); intro _ _ _ _ _ _; (try (first | refine RetQ.ok ?_ | refine RetQ.err ?_)); (try walk_at "fold")))
  k_with "call ref" => (((with_reducible show wpAny _ _ (call (Value.ref 487) _) _ _ _); k_here; (with_reducible refine call_R ?_); k_dflt (refine' c_put_word ?q0C ?q0M ?q0W ?q0hne ?q0hc ?q0hp ?q0ha ?q0h4 ?q0hv ?q0hd ?q0hu ?_; (case q0M => assumption); (case q0W => assumption); (case q0C => walk_at "ctx"); (case q0hne => walk_at "apart"); (case q0hc => first | assumption | walk_at "fact"); (case q0hp => first | assumption | walk_at "fact"); (case q0ha => first | assumption | walk_at "fact"); (case q0h4 => first | assumption | walk_at "fact"); (case q0hv => first | assumption | walk_at "fact"); (case q0hd => walk_at "depth"); (case q0hu => walk_at "units"); k_whole); intro _ _ _ _ _ _ _; (try (first | refine RetQ.ok ?_ | refine RetQ.err ?_)); (try walk_at "fold")))
  k_with "call ref" => (((with_reducible show wpAny _ _ (call (Value.ref 129) _) _ _ _); k_here; (with_reducible refine call_R ?_); k_dflt (refine' c_parts_in ?q0C ?q0D ?q0ln ?q0ha ?q0hd ?q0hu ?_; (case q0D => assumption); (case q0C => walk_at "ctx"); (case q0ln => assumption); (case q0ha => first | assumption | walk_at "fact"); (case q0hd => walk_at "depth"); (case q0hu => walk_at "units"); k_whole); intro _ _ _ _ _ _ _ _ _ _ l1'; (try k_lt l1'); (try (revert l1'; intro _)); (try (first | refine RetQ.ok ?_ | refine RetQ.err ?_)); (try walk_at "fold")))
  k_with "call ref" => (((with_reducible show wpAny _ _ (call (Value.ref 129) _) _ _ _); k_here; (with_reducible refine call_R ?_); k_dflt (refine' c_parts_out ?q0C ?q0D ?q0ln ?q0ha ?q0hd ?q0hu ?_; (case q0D => assumption); (case q0C => walk_at "ctx"); (case q0ln => assumption); (case q0ha => first | assumption | walk_at "fact"); (case q0hd => walk_at "depth"); (case q0hu => walk_at "units"); k_whole); intro _ _ _ _ _; (try (first | refine RetQ.ok ?_ | refine RetQ.err ?_)); (try walk_at "fold")))
  k_with "call ref" => (((with_reducible show wpAny _ _ (call (Value.ref 137) _) _ _ _); k_here; (with_reducible refine call_R ?_); k_dflt (refine' c_address ?q0C ?q0D ?q0ln ?q0hf1 ?q0hg1 ?q0hq1 ?q0hd ?q0hu ?_; (case q0D => assumption); (case q0C => walk_at "ctx"); (case q0ln => assumption); (case q0hf1 => first | assumption | walk_at "fact"); (case q0hg1 => first | assumption | walk_at "fact"); (case q0hq1 => first | assumption | walk_at "fact"); (case q0hd => walk_at "depth"); (case q0hu => walk_at "units"); k_whole); intro _ _ _ _ _ _; (try (first | refine RetQ.ok ?_ | refine RetQ.err ?_)); (try walk_at "fold")))
  k_with "call ref" => (((with_reducible show wpAny _ _ (call (Value.ref 144) _) _ _ _); k_here; (with_reducible refine call_R ?_); k_dflt (refine' c_down ?q0C ?q0D ?q0ln ?q0ha ?q0hd ?q0hu ?_; (case q0D => assumption); (case q0C => walk_at "ctx"); (case q0ln => assumption); (case q0ha => first | assumption | walk_at "fact"); (case q0hd => walk_at "depth"); (case q0hu => walk_at "units"); k_whole); intro _ _ _ _ _ _; (try (first | refine RetQ.ok ?_ | refine RetQ.err ?_)); (try walk_at "fold")))
  k_with "call ref" => (((with_reducible show wpAny _ _ (call (Value.ref 158) _) _ _ _); k_here; (with_reducible refine call_R ?_); k_dflt (refine' c_is_begin ?q0C ?q0D ?q0ln ?q0ha ?q0hd ?q0hu ?_; (case q0D => assumption); (case q0C => walk_at "ctx"); (case q0ln => assumption); (case q0ha => first | assumption | walk_at "fact"); (case q0hd => walk_at "depth"); (case q0hu => walk_at "units"); k_whole); intro _ _ _ _ _; (try (first | refine RetQ.ok ?_ | refine RetQ.err ?_)); (try walk_at "fold")))
  k_with "call ref" => (((with_reducible show wpAny _ _ (call (Value.ref 172) _) _ _ _); k_here; (with_reducible refine call_R ?_); k_dflt (refine' c_lentry ?q0C ?q0D ?q0ln ?q0ha ?q0hf1 ?q0hd ?q0hu ?_; (case q0D => assumption); (case q0C => walk_at "ctx"); (case q0ln => assumption); (case q0ha => first | assumption | walk_at "fact"); (case q0hf1 => first | assumption | walk_at "fact"); (case q0hd => walk_at "depth"); (case q0hu => walk_at "units"); k_whole); intro _ _ _ _ _ _; (try (first | refine RetQ.ok ?_ | refine RetQ.err ?_)); (try walk_at "fold")))
  k_with "call ref" => (((with_reducible show wpAny _ _ (call (Value.ref 179) _) _ _ _); k_here; (with_reducible refine call_R ?_); k_dflt (refine' c_lphysical ?q0C ?q0D ?q0ln ?q0he ?q0hd ?q0hu ?_; (case q0D => assumption); (case q0C => walk_at "ctx"); (case q0ln => assumption); (case q0he => first | assumption | walk_at "fact"); (case q0hd => walk_at "depth"); (case q0hu => walk_at "units"); k_whole); intro _ _ _ _ _ _; (try (first | refine RetQ.ok ?_ | refine RetQ.err ?_)); (try walk_at "fold")))
  k_with "call ref" => (((with_reducible show wpAny _ _ (call (Value.ref 198) _) _ _ _); k_here; (with_reducible refine call_R ?_); k_dflt (refine' c_is_leaf ?q0C ?q0he ?q0hd ?q0hu ?_; (case q0C => walk_at "ctx"); (case q0he => first | assumption | walk_at "fact"); (case q0hd => walk_at "depth"); (case q0hu => walk_at "units"); k_whole); intro _ _ _ _ _; (try (first | refine RetQ.ok ?_ | refine RetQ.err ?_)); (try walk_at "fold")))
  k_with "call ref" => (((with_reducible show wpAny _ _ (call (Value.ref 205) _) _ _ _); k_here; (with_reducible refine call_R ?_); k_dflt (refine' c_is_sound ?q0C ?q0he ?q0hd ?q0hu ?_; (case q0C => walk_at "ctx"); (case q0he => first | assumption | walk_at "fact"); (case q0hd => walk_at "depth"); (case q0hu => walk_at "units"); k_whole); intro _ _ _ _ _; (try (first | refine RetQ.ok ?_ | refine RetQ.err ?_)); (try walk_at "fold")))
  k_with "call ref" => (((with_reducible show wpAny _ _ (call (Value.ref 212) _) _ _ _); k_here; (with_reducible refine call_R ?_); k_dflt (refine' c_may ?q0C ?q0he ?q0hd ?q0hu ?_; (case q0C => walk_at "ctx"); (case q0he => first | assumption | walk_at "fact"); (case q0hd => walk_at "depth"); (case q0hu => walk_at "units"); k_whole); intro _ _ _ _ _; (try (first | refine RetQ.ok ?_ | refine RetQ.err ?_)); (try walk_at "fold")))
  k_with "call ref" => (((with_reducible show wpAny _ _ (call (Value.ref 298) _) _ _ _); k_here; (with_reducible refine call_R ?_); k_dflt (refine' c_need_parts ?q0C ?q0Ta ?q0D ?q0ln ?q0ine ?q0hd ?q0hu ?_; (case q0Ta => assumption); (case q0D => assumption); (case q0C => walk_at "ctx"); (case q0ln => assumption); (case q0ine => first | assumption | walk_at "fact"); (case q0hd => walk_at "depth"); (case q0hu => walk_at "units"); k_whole); intro _ _ _ _ _ _ _ _ _ _ _; (try (first | refine RetQ.ok ?_ | refine RetQ.err ?_)); (try walk_at "fold")))
  k_with "call ref" => (((with_reducible show wpAny _ _ (call (Value.ref 327) _) _ _ _); k_here; (with_reducible refine call_R ?_); k_dflt (refine' c_need_flags ?q0C ?q0hfl ?q0hd ?q0hu ?_ ?_; (case q0C => walk_at "ctx"); (case q0hfl => first | assumption | walk_at "fact"); (case q0hd => walk_at "depth"); (case q0hu => walk_at "units"); k_whole); (intro _ _ _ _ _ _; (try (first | refine RetQ.ok ?_ | refine RetQ.err ?_)); (try walk_at "fold")); rotate_left; (intro _ _ _ _ _ _ _ _ _; (try (first | refine RetQ.ok ?_ | refine RetQ.err ?_)); (try walk_at "fold")); rotate_left))
  k_with "call ref" => (((with_reducible show wpAny _ _ (call (Value.ref 306) _) _ _ _); k_here; (with_reducible refine call_R ?_); k_dflt (refine' c_walk ?q0C ?q0Ta ?q0D ?q0ln ?q0M ?q0W ?q0hcv ?q0ine ?q0p1 ?q0p1m ?q0hd ?q0hu ?_ ?_ ?_; (case q0Ta => assumption); (case q0D => assumption); (case q0M => assumption); (case q0W => assumption); (case q0C => walk_at "ctx"); (case q0ln => assumption); (case q0hcv => assumption); (case q0ine => first | assumption | walk_at "fact"); (case q0p1 => first | assumption | walk_at "fact"); (case q0p1m => first | assumption | walk_at "fact"); (case q0hd => walk_at "depth"); (case q0hu => walk_at "units"); k_whole); (intro _ _ _ _ _ _; (try (first | refine RetQ.ok ?_ | refine RetQ.err ?_)); (try walk_at "fold")); rotate_left; (intro _ _ _ _ _ _ _ _; (try (first | refine RetQ.ok ?_ | refine RetQ.err ?_)); (try walk_at "fold")); rotate_left; (intro _ _ _ _ _ _ _ _ _ _; (try (first | refine RetQ.ok ?_ | refine RetQ.err ?_)); (try walk_at "fold")); rotate_left))
  k_with "call ref" => (((with_reducible show wpAny _ _ (call (Value.ref 313) _) _ _ _); k_here; (with_reducible refine call_R ?_); k_dflt (refine' c_entry ?q0C ?q0Ta ?q0D ?q0ln ?q0M ?q0W ?q0hcv ?q0ine ?q0p1 ?q0p1m ?q0p2 ?q0hd ?q0hu ?_; (case q0Ta => assumption); (case q0D => assumption); (case q0M => assumption); (case q0W => assumption); (case q0C => walk_at "ctx"); (case q0ln => assumption); (case q0hcv => assumption); (case q0ine => first | assumption | walk_at "fact"); (case q0p1 => first | assumption | walk_at "fact"); (case q0p1m => first | assumption | walk_at "fact"); (case q0p2 => first | assumption | walk_at "fact"); (case q0hd => walk_at "depth"); (case q0hu => walk_at "units"); k_whole); intro _ _ _ _ _ _ _ ve'; subst ve'; (try (first | refine RetQ.ok ?_ | refine RetQ.err ?_)); (try walk_at "fold")))
  k_with "call ref" => (((with_reducible show wpAny _ _ (call (Value.ref 348) _) _ _ _); k_here; (with_reducible refine call_R ?_); k_dflt (refine' c_need_place ?q0C ?q0Ta ?q0D ?q0ln ?q0M ?q0W ?q0hcv ?q0ine ?q0p1 ?q0p1m ?q0p2 ?q0hd ?q0hu ?_ ?_; (case q0Ta => assumption); (case q0D => assumption); (case q0M => assumption); (case q0W => assumption); (case q0C => walk_at "ctx"); (case q0ln => assumption); (case q0hcv => assumption); (case q0ine => first | assumption | walk_at "fact"); (case q0p1 => first | assumption | walk_at "fact"); (case q0p1m => first | assumption | walk_at "fact"); (case q0p2 => first | assumption | walk_at "fact"); (case q0hd => walk_at "depth"); (case q0hu => walk_at "units"); k_whole); (intro _ _ _ _ _ _ _; (try (first | refine RetQ.ok ?_ | refine RetQ.err ?_)); (try walk_at "fold")); rotate_left; (intro _ _ _ _ _ _ _ _ _; (try (first | refine RetQ.ok ?_ | refine RetQ.err ?_)); (try walk_at "fold")); rotate_left))
  k_with "call ref" => (((with_reducible show wpAny _ _ (call (Value.ref 320) _) _ _ _); k_here; (with_reducible refine call_R ?_); k_dflt (refine' c_tphysical ?q0C ?q0Ta ?q0D ?q0ln ?q0M ?q0W ?q0hcv ?q0ine ?q0p1 ?q0p1m ?q0p2 ?q0hd ?q0hu ?_ ?_; (case q0Ta => assumption); (case q0D => assumption); (case q0M => assumption); (case q0W => assumption); (case q0C => walk_at "ctx"); (case q0ln => assumption); (case q0hcv => assumption); (case q0ine => first | assumption | walk_at "fact"); (case q0p1 => first | assumption | walk_at "fact"); (case q0p1m => first | assumption | walk_at "fact"); (case q0p2 => first | assumption | walk_at "fact"); (case q0hd => walk_at "depth"); (case q0hu => walk_at "units"); k_whole); (intro _ _ _ _ _ _; (try (first | refine RetQ.ok ?_ | refine RetQ.err ?_)); (try walk_at "fold")); rotate_left; (intro _ _ _ _ _ _ _ _; (try (first | refine RetQ.ok ?_ | refine RetQ.err ?_)); (try walk_at "fold")); rotate_left))
  k_with "exec For Name Call cons nil" => ((k_here; (with_unfolding_all refine' For_G ‹Fr _ _ _ _› ?_); k_whole))
  k_with "exec For Tuple Call cons nil" => ((k_here; (with_unfolding_all refine' For_G ‹Fr _ _ _ _› ?_); k_whole))
  k_with "exec For Name Name cons nil" => ((k_here; (with_unfolding_all refine' For_G ‹Fr _ _ _ _› ?_); k_whole))
  k_with "exec For Name BinOp cons nil" => ((k_here; (with_unfolding_all refine' For_G ‹Fr _ _ _ _› ?_); k_whole))
  k_with "call builtin:list.append" => ((k_here; (with_reducible show wpAny _ _ (call (Value.builtin _) [Value.ref _, _]) _ _ _); k_dflt (refine' append_K ?q0k1 ?q0k2 ?q0k3 ?_ ?q0z; (case q0k1 => k_asm); (case q0k2 => k_asm); (case q0k3 => first | exact Upd.head (by assumption) | exact Upd.tail (by k_ne) (Upd.head (by assumption)) | exact Upd.tail (by k_ne) (Upd.tail (by k_ne) (Upd.head (by assumption)))); (case q0z => assumption); k_whole); intro _ _ _; (try k_sweep)))
  trivial
theorem c_address2 {lay : Addr} {b pg en lg ed : Int} {tl : Toks} {f g : Int} {t u : Tok} (C : Ctx w p loose mean mg mb A A₀ env outer base h₀ L s.heap m news) (D : Has h₀ lay 182 (layF b pg en lg ed tl)) (ln : LayN b pg en lg ed) (hf1 : 0 ≤ f ∧ f < 64) (hg1 : 0 ≤ g ∧ g < 64) (hd : A.depth ≤ 800) (hu : A.units ≤ 8000)
  (hR : ∀ h' tk t', let st' : Shared := { s with heap := h', toks := tk }; Fr h₀ L h' m → News h₀ L h' news → R (.ok (.ret (.int (addrS b f g 0) t'))) st') :
    codeAny (model prog w) A (.call (.ref 137) ⟨[.ref lay, .int f t, .int g u], []⟩) R s := by
  refine' enter [("self", .ref lay), ("first", .int f t), ("second", .int g u), ("offset", .int 0 420)] C ?k6 ?k7 ?k8 ?k9 ?kB ?c2 ?c3 ?c4 ?c5 ?_
  walk_at "entered"
  case k9 => walk_at "dbinds"
  obtain ⟨B, F, X, N, T, hA, hf, hke, hh⟩ := C
  intro g' L' h' tk' FG F' N' B' X' T'
  replace D := D.keeps FG.keep
  try dsimp only
  refine foldEnter (f := execs) F' ?_
  clear F'
  intro M9 en9 A9 m9 qk ek st9 F'
  try clear N
  obtain ⟨hb, hpg, hen, hlg, hed⟩ := layN_b ln
  have hor := or_addr hb hf1 hg1
  k_steps
  all_goals first | contradiction | (refine hR _ _ ?_ ?_ <;> k_asm) | (refine hR _ _ _ ?_ ?_ <;> k_asm)
theorem rows_at_91 : True := by
  k_with "call ref" => (((with_reducible show wpAny _ _ (call (Value.ref 137) _) _ _ _); k_here; (with_reducible refine call_R ?_); k_dflt (refine' c_address2 ?q0C ?q0D ?q0ln ?q0hf1 ?q0hg1 ?q0hd ?q0hu ?_; (case q0D => assumption); (case q0C => walk_at "ctx"); (case q0ln => assumption); (case q0hf1 => first | assumption | walk_at "fact"); (case q0hg1 => first | assumption | walk_at "fact"); (case q0hd => walk_at "depth"); (case q0hu => walk_at "units"); k_whole); intro _ _ _ _ _ _; (try (first | refine RetQ.ok ?_ | refine RetQ.err ?_)); (try walk_at "fold")))
  trivial
theorem c_rows_of {tab mem lay pgs wd : Addr} {b pg en lg ed : Int} {tl tt : Toks} {o : Obj} {c : List (Int × Int)} {rest : List (Addr × Obj)} {t u : Tok} {a f : Int} {n : Nat} (C : Ctx w p loose mean mg mb A A₀ env outer base h₀ L s.heap m ((wd, o) :: rest)) (Ta : Has h₀ tab 418 (tabF mem lay pgs)) (D : Has h₀ lay 182 (layF b pg en lg ed tl)) (ln : LayN b pg en lg ed) (M : Has h₀ mem 607 (memF pg wd tt)) (W : WD prog w wd o c) (hcv : ∀ i, 0 ≤ kdfLook c i 0 ∧ kdfLook c i 0 < 65536) (hn : en = n) (ha : 0 ≤ a ∧ a + pg ≤ 4 * pg) (h4 : a.fmod 4 = 0) (hf1 : 0 ≤ f ∧ f < 64) (hd : A.depth ≤ 570) (hu : A.units ≤ 5700)
  (hR : ∀ h' tk (fa : Addr) (items : Array Value) (k : Nat) (tl : List (Addr × Obj)), let st' : Shared := { s with heap := h', toks := tk }; Fr h₀ L h' m → let nw' : List (Addr × Obj) := ((wd, o) :: (fa, listOf items k) :: (tl ++ rest)); News h₀ L h' nw' → RowsAt tl items.toList (rowsOf b pg c a f n) → (wd < fa ∧ AllLt fa rest) → (∀ p ∈ tl, fa < p.1) → items.size ≤ 64 → R (.ok (.ret (.ref fa))) st') :
    codeAny (model prog w) A (.call (.ref 391) ⟨[.ref tab, .int a t, .int f u], []⟩) R s := by
  refine' enter [("self", .ref tab), ("table", .int a t), ("first", .int f u)] C ?k6 ?k7 ?k8 ?k9 ?kB ?c2 ?c3 ?c4 ?c5 ?_
  walk_at "entered"
  case k9 => walk_at "binds"
  obtain ⟨B, F, X, N, T, hA, hf, hke, hh⟩ := C
  intro g' L' h' tk' FG F' N' B' X' T'
  replace Ta := Ta.keeps FG.keep
  replace D := D.keeps FG.keep
  replace M := M.keeps FG.keep
  try dsimp only
  refine foldEnter (f := execs) F' ?_
  clear F'
  intro M9 en9 A9 m9 qk ek st9 F'
  try clear N
  obtain ⟨hb, hp, hen, hlg, hed⟩ := layN_b ln
  obtain ⟨hq1, hq2, hq3⟩ := layN_n ln
  k_steps
  rename IsRange _ _ _ _ _ _ _ _ => hR9
  obtain ⟨fa, l1, hfa⟩ : ∃ fa : Addr, (wd < fa ∧ AllLt fa rest) ∧ fa = _ := ⟨_, by assumption, rfl⟩
  subst hfa
  refine' iterG_range [("second" : Str), ("entry" : Str), ("address" : Str)] (fun i => JR wd o fa rest (rowsOf b pg c a f i)) ?hh ?F ?N hR9 hn (small_le (by omega)) (size_le (by omega)) ?hj ?turn ?done
  case hh => assumption
  case F => k_asm
  case N => exact news_swap1 (by k_asm)
  case hj => exact ⟨#[], [], 0, rfl, trivial, fun _ h => nomatch h⟩
  case done =>
    rintro h9 tk9 u9 news9 F9 N9 ⟨items, tl, k, rfl, hrows, htl⟩
    k_steps
    have hz : items.size ≤ 64 := by
      have e1 := hrows.len
      have e2 := rowsOf_len (b := b) (pg := pg) (c := c) (a := a) (f := f) n
      simp only [Array.length_toList] at e1; omega
    exact hR _ _ fa items k tl (by k_asm) (by k_asm) hrows l1 htl hz
  case turn =>
    rintro i t9 u9 news9 h9 tk9 own I hi ⟨items, tl, k, rfl, hrows, htl⟩ hoff hsub ⟨oI, hI⟩ F9 N9
    replace N9 := News.sub N9 ledger1
    have v1 := hcv ((a + 4 * (i : Int)).fdiv 4)
    have lwf := l1.1
    have h4i := fmod4 i h4
    have hne9 := off3 htl l1.2 hsub (hoff _ (.tail _ (.head _)))
    have hsz : items.size ≤ sizeLine := by
      have e1 := hrows.len
      have e2 := rowsOf_len (b := b) (pg := pg) (c := c) (a := a) (f := f) i
      rw [sizeLine_eq]; simp only [Array.length_toList] at e1; omega
    try dsimp only
    k_steps
    · show NextG _ _ _ _ _ _ _ _ _
      rw [rowsOf_t (by assumption)]
      exact rows_one (by k_asm) (by repeat (first | (with_reducible exact over_off) | ((with_reducible refine upd_off ?_ ?_); exact rfl) | exact fun _ _ => rfl)) (by k_asm) hrows htl hoff hI (by assumption)
    · show NextG _ _ _ _ _ _ _ _ _
      rw [rowsOf_f (by assumption)]
      exact rows_same (by k_asm) (by repeat (first | (with_reducible exact over_off) | ((with_reducible refine upd_off ?_ ?_); exact rfl) | exact fun _ _ => rfl)) (by k_asm) hrows htl hoff
theorem rows_at_92 : True := by
  k_with "call ref" => (((with_reducible show wpAny _ _ (call (Value.ref 391) _) _ _ _); k_here; (with_reducible refine call_R ?_); k_dflt (refine' c_rows_of ?q0C ?q0Ta ?q0D ?q0ln ?q0M ?q0W ?q0hcv ?q0hn ?q0ha ?q0h4 ?q0hf1 ?q0hd ?q0hu ?_; (case q0Ta => assumption); (case q0D => assumption); (case q0M => assumption); (case q0W => assumption); (case q0C => walk_at "ctx"); (case q0ln => assumption); (case q0hcv => assumption); (case q0hn => first | assumption | walk_at "fact"); (case q0ha => first | assumption | walk_at "fact"); (case q0h4 => first | assumption | walk_at "fact"); (case q0hf1 => first | assumption | walk_at "fact"); (case q0hd => walk_at "depth"); (case q0hu => walk_at "units"); k_whole); intro _ _ _ _ _ _ _ _ _ _ _ _ _ _; (try (first | refine RetQ.ok ?_ | refine RetQ.err ?_)); (try walk_at "fold")))
  trivial
end
end Mine
end W10
section W10b
open PySem PySem.W PyProof.Rows PySem.Calls PySem.Spec PyProof.V
set_option maxRecDepth 100000
set_option maxHeartbeats 8000000
set_option autoImplicit false
namespace Mine

theorem rows_at_93 : True := by
  k_with_none
  k_with "ctx" => ((refine' Ctx.mk ?q0B ?q0F ?q0X ?q0N ?q0T ?q0a ?q0f ?q0k ?q0h; (case q0B => k_asm); (case q0F => k_asm); (case q0X => k_asm); (case q0N => first | k_asm | exact news_swap1 (by k_asm) | exact news_swap2 (by k_asm) | exact news_swap3 (by k_asm)); (case q0T => k_asm); (case q0a => first | assumption | exact Around.frames_deeper (Below.stack (by assumption))); (case q0f => first | assumption | exact rfl); (case q0k => first | assumption | exact rfl); (case q0h => first | assumption | exact rfl)))
  k_with "getAttr ref" => ((k_here; k_dflt (refine' own_get ?q0D ?q0F ?q0X ?q0a ?q0b ?q0c ?q0d ?q0l ?q0v ?_; (case q0D => assumption); (case q0F => k_asm); (case q0X => k_asm); (case q0a => k_is); (case q0b => k_is); (case q0c => k_is); (case q0d => k_is); (case q0l => intro _ _; k_get); (case q0v => k_handed); k_whole)))
  k_with "getMethod ref" => ((k_here; k_dflt (refine' own_meth ?q0D ?q0F ?q0X ?q0a ?q0b ?q0c ?q0l ?_; (case q0D => assumption); (case q0F => k_asm); (case q0X => k_asm); (case q0a => k_is); (case q0b => k_is); (case q0c => k_is); (case q0l => intro _ _; k_get); k_whole)))
  k_with "getMethod ref" => ((k_here; (with_reducible show wpAny _ _ (getMethod (Value.ref _) (PySem.Str.ofString "get") _) _ _ _); k_dflt (refine' w_getm ?q0W ?q0N ?q0p ?_; (case q0W => assumption); (case q0N => k_asm); (case q0p => k_mem); k_whole)))
  k_with "getMethod ref" => ((k_here; (with_reducible show wpAny _ _ (getMethod (Value.ref _) (PySem.Str.ofString "pop") _) _ _ _); k_dflt (refine' w_popm ?q0W ?q0N ?q0p ?_; (case q0W => assumption); (case q0N => k_asm); (case q0p => k_mem); k_whole)))
  k_with "call builtin:dict.get" => ((k_here; k_dflt (refine' w_get ?q0W ?q0N ?q0p ?_; (case q0W => assumption); (case q0N => k_asm); (case q0p => k_mem); k_whole); intro _))
  k_with "call builtin:dict.pop" => ((k_here; k_dflt (refine' w_pop ?q0W ?q0F ?q0N ?q0p ?q0U ?_; (case q0W => assumption); (case q0F => k_asm); (case q0N => k_asm); (case q0p => k_mem); (case q0U => (first | (refine UpdF.head ?_; assumption) | k_updF)); k_whole); intro _ _ _ _ N'; (try dsimp only at N'); (try (revert N'; intro _)); intro _))
  k_with "setItem ref int" => ((k_here; k_dflt (refine' w_set ?q0W ?q0F ?q0N ?q0U ?q0c ?_; (case q0W => assumption); (case q0F => k_asm); (case q0N => k_asm); (case q0U => (first | (refine UpdF.head ?_; assumption) | k_updF)); (case q0c => first | assumption | omega); k_whole); intro _ _ _ N'; (try dsimp only at N'); (try (revert N'; intro _)); intro _))
  k_with "depth" => (first | exact dp1 (by assumption) rfl | exact dp2 (by assumption) rfl | ((simp +zetaDelta only [depth_mark, depth_under_make, depth_under_kw, depth_in1, depth_deeper, depth_caller]); omega))
  k_with "units" => (first | exact up1 (by assumption) rfl | exact up2 (by assumption) rfl | ((simp +zetaDelta only [units_in1, units_deeper, Around.mark_units, units_caller]); omega))
  k_with "apart" => (first | assumption | exact List.forall_mem_cons.mpr ⟨by k_ne, by assumption⟩ | exact List.forall_mem_cons.mpr ⟨by k_ne, List.forall_mem_cons.mpr ⟨by k_ne, by assumption⟩⟩)
  k_with "fact" => (omega)
  k_with "entered" => ((k_dflt ((case k6 => k_is); (case k7 => k_is); (case k8 => walk_at "room"); (case c5 => decide); (case kB => exact locs rfl); (case c2 => exact rfl); (case c3 => exact rfl); (case c4 => exact rfl))))
  k_with "binds" => ((k_dflt (exact BindsTo.of_eq (by kernel_rfl))))
  k_with "dbinds" => ((k_dflt (exact binds_K (Frag.In.keeps (Ctx.X (by assumption)) (Fr.keep (Ctx.F (by assumption)))) rfl (by k_is) rfl rfl (by kernel_rfl))))
  k_with "room" => (((simp only [rl_is]); omega))
  k_with "assign Tuple" => ((k_here; (with_reducible show wpAny _ _ (assign (Expr.Tuple _ _ _) _ (Value.ref _)) _ _ _); k_dflt (refine' unpackN_ ?q0k1 ?q0k2 ?q0k3 ?q0k4 ?q0k5 ?q0k6 ?_; (case q0k1 => k_asm); (case q0k2 => k_asm); (case q0k3 => exact News.isTup (by k_asm) (by k_mem)); (case q0k4 => first | assumption | exact rfl); (case q0k5 => exact rfl); (case q0k6 => exact rfl); k_whole); intro _ _ _; (try k_sweep)))
  k_with "unpackItems ref" => ((k_here; k_dflt (refine' unpackItemsN_ ?q0k1 ?q0k2 ?q0k3 ?q0k4 ?q0k5 ?_; (case q0k1 => k_asm); (case q0k2 => k_asm); (case q0k3 => kun_tup); (case q0k4 => first | assumption | exact rfl); (case q0k5 => exact rfl); k_whole); intro _ _ _; (try k_sweep)))
  k_with "fold" => (((fail_if_success (fail_if_success k_fold)); refine foldQ ?_; intro _))
  k_with "foldS" => (((fail_if_success (fail_if_success k_fold)); refine foldQS ?_; intro _ _))
  k_with "foldE" => (((fail_if_success (fail_if_success (refine swapT ⟨?_, ?_⟩; k_fold))); refine foldEE ?_; intro _))
  trivial

theorem rows_at_94 : True := by
  k_with "eval Name" => ((k_here; k_dflt (refine' nmL ?q0F ?q0v ?_ ?q0L ?q0x; (case q0x => rfl); (case q0F => k_asm); (case q0L => rfl); (case q0v => rfl); k_whole)))
  k_with "storeName" => ((k_here; k_dflt (refine' stL ?q0F ?q0N ?_ ?q0L ?q0x; (case q0x => rfl); (case q0F => k_asm); (case q0L => rfl); (case q0N => k_asm); k_whole; intro _ _ _ _ _ _; (try k_sweep))))
  trivial
section
variable {prog : Program} {w : World} {p : Program} {loose : List Str} {mean : ExcName → Option Value} {mg mb : Str → Option Value} {A A₀ : Around} {env : Env} {outer : List Env} {base h₀ : Heap} {L : Addr} {m : Str → Option Value} {s : Shared} {news : List (Addr × Obj)} {R : Result → Shared → Prop}
theorem rows_at_95 : True := by
  k_with "call ref" => (((with_reducible show wpAny _ _ (call (Value.ref 473) _) _ _ _); k_here; (with_reducible refine call_R ?_); k_dflt (refine' c_need_aligned ?q0C ?q0M ?q0hp ?q0ha ?q0h4 ?q0hd ?q0hu ?_; (case q0M => assumption); (case q0C => walk_at "ctx"); (case q0hp => first | assumption | walk_at "fact"); (case q0ha => first | assumption | walk_at "fact"); (case q0h4 => first | assumption | walk_at "fact"); (case q0hd => walk_at "depth"); (case q0hu => walk_at "units"); k_whole); intro _ _ _ _ _; (try (first | refine RetQ.ok ?_ | refine RetQ.err ?_)); (try walk_at "fold")))
  k_with "call ref" => (((with_reducible show wpAny _ _ (call (Value.ref 494) _) _ _ _); k_here; (with_reducible refine call_R ?_); k_dflt (refine' c_keep ?q0C ?q0M ?q0W ?q0hne ?q0hc ?q0hd ?q0hu ?_; (case q0M => assumption); (case q0W => assumption); (case q0C => walk_at "ctx"); (case q0hne => walk_at "apart"); (case q0hc => first | assumption | walk_at "fact"); (case q0hd => walk_at "depth"); (case q0hu => walk_at "units"); k_whole); intro _ _ _ _ _ _ _; (try (first | refine RetQ.ok ?_ | refine RetQ.err ?_)); (try walk_at "fold")))
  k_with "call ref" => (((with_reducible show wpAny _ _ (call (Value.ref 480) _) _ _ _); k_here; (with_reducible refine call_R ?_); k_dflt (refine' c_word ?q0C ?q0M ?q0W ?q0hp ?q0ha ?q0h4 ?q0hd ?q0hu ?_; (case q0M => assumption); (case q0W => assumption); (case q0C => walk_at "ctx"); (case q0hp => first | assumption | walk_at "fact"); (case q0ha => first | assumption | walk_at "fact"); (case q0h4 => first | assumption | walk_at "fact"); (case q0hd => walk_at "depth"); (case q0hu => walk_at "units"); k_whole); intro _ _ _ _ _ _; (try (first | refine RetQ.ok ?_ | refine RetQ.err ?_)); (try walk_at "fold")))
  k_with "call ref" => (((with_reducible show wpAny _ _ (call (Value.ref 487) _) _ _ _); k_here; (with_reducible refine call_R ?_); k_dflt (refine' c_put_word ?q0C ?q0M ?q0W ?q0hne ?q0hc ?q0hp ?q0ha ?q0h4 ?q0hv ?q0hd ?q0hu ?_; (case q0M => assumption); (case q0W => assumption); (case q0C => walk_at "ctx"); (case q0hne => walk_at "apart"); (case q0hc => first | assumption | walk_at "fact"); (case q0hp => first | assumption | walk_at "fact"); (case q0ha => first | assumption | walk_at "fact"); (case q0h4 => first | assumption | walk_at "fact"); (case q0hv => first | assumption | walk_at "fact"); (case q0hd => walk_at "depth"); (case q0hu => walk_at "units"); k_whole); intro _ _ _ _ _ _ _; (try (first | refine RetQ.ok ?_ | refine RetQ.err ?_)); (try walk_at "fold")))
  k_with "call ref" => (((with_reducible show wpAny _ _ (call (Value.ref 129) _) _ _ _); k_here; (with_reducible refine call_R ?_); k_dflt (refine' c_parts_in ?q0C ?q0D ?q0ln ?q0ha ?q0hd ?q0hu ?_; (case q0D => assumption); (case q0C => walk_at "ctx"); (case q0ln => assumption); (case q0ha => first | assumption | walk_at "fact"); (case q0hd => walk_at "depth"); (case q0hu => walk_at "units"); k_whole); intro _ _ _ _ _ _ _ _ _ _ l1'; (try k_lt l1'); (try (revert l1'; intro _)); (try (first | refine RetQ.ok ?_ | refine RetQ.err ?_)); (try walk_at "fold")))
  k_with "call ref" => (((with_reducible show wpAny _ _ (call (Value.ref 129) _) _ _ _); k_here; (with_reducible refine call_R ?_); k_dflt (refine' c_parts_out ?q0C ?q0D ?q0ln ?q0ha ?q0hd ?q0hu ?_; (case q0D => assumption); (case q0C => walk_at "ctx"); (case q0ln => assumption); (case q0ha => first | assumption | walk_at "fact"); (case q0hd => walk_at "depth"); (case q0hu => walk_at "units"); k_whole); intro _ _ _ _ _; (try (first | refine RetQ.ok ?_ | refine RetQ.err ?_)); (try walk_at "fold")))
  k_with "call ref" => (((with_reducible show wpAny _ _ (call (Value.ref 137) _) _ _ _); k_here; (with_reducible refine call_R ?_); k_dflt (refine' c_address ?q0C ?q0D ?q0ln ?q0hf1 ?q0hg1 ?q0hq1 ?q0hd ?q0hu ?_; (case q0D => assumption); (case q0C => walk_at "ctx"); (case q0ln => assumption); (case q0hf1 => first | assumption | walk_at "fact"); (case q0hg1 => first | assumption | walk_at "fact"); (case q0hq1 => first | assumption | walk_at "fact"); (case q0hd => walk_at "depth"); (case q0hu => walk_at "units"); k_whole); intro _ _ _ _ _ _; (try (first | refine RetQ.ok ?_ | refine RetQ.err ?_)); (try walk_at "fold")))
  k_with "call ref" => (((with_reducible show wpAny _ _ (call (Value.ref 144) _) _ _ _); k_here; (with_reducible refine call_R ?_); k_dflt (refine' c_down ?q0C ?q0D ?q0ln ?q0ha ?q0hd ?q0hu ?_; (case q0D => assumption); (case q0C => walk_at "ctx"); (case q0ln => assumption); (case q0ha => first | assumption | walk_at "fact"); (case q0hd => walk_at "depth"); (case q0hu => walk_at "units"); k_whole); intro _ _ _ _ _ _; (try (first | refine RetQ.ok ?_ | refine RetQ.err ?_)); (try walk_at "fold")))
  k_with "call ref" => (((with_reducible show wpAny _ _ (call (Value.ref 158) _) _ _ _); k_here; (with_reducible refine call_R ?_); k_dflt (refine' c_is_begin ?q0C ?q0D ?q0ln ?q0ha ?q0hd ?q0hu ?_; (case q0D => assumption); (case q0C => walk_at "ctx"); (case q0ln => assumption); (case q0ha => first | assumption | walk_at "fact"); (case q0hd => walk_at "depth"); (case q0hu => walk_at "units"); k_whole); intro _ _ _ _ _; (try (first | refine RetQ.ok ?_ | refine RetQ.err ?_)); (try walk_at "fold")))
  k_with "call ref" => (((with_reducible show wpAny _ _ (call (Value.ref 172) _) _ _ _); k_here; (with_reducible refine call_R ?_); k_dflt (refine' c_lentry ?q0C ?q0D ?q0ln ?q0ha ?q0hf1 ?q0hd ?q0hu ?_; (case q0D => assumption); (case q0C => walk_at "ctx"); (case q0ln => assumption); (case q0ha => first | assumption | walk_at "fact"); (case q0hf1 => first | assumption | walk_at "fact"); (case q0hd => walk_at "depth"); (case q0hu => walk_at "units"); k_whole); intro _ _ _ _ _ _; (try (first | refine RetQ.ok ?_ | refine RetQ.err ?_)); (try walk_at "fold")))
  k_with "call ref" => (((with_reducible show wpAny _ _ (call (Value.ref 179) _) _ _ _); k_here; (with_reducible refine call_R ?_); k_dflt (refine' c_lphysical ?q0C ?q0D ?q0ln ?q0he ?q0hd ?q0hu ?_; (case q0D => assumption); (case q0C => walk_at "ctx"); (case q0ln => assumption); (case q0he => first | assumption | walk_at "fact"); (case q0hd => walk_at "depth"); (case q0hu => walk_at "units"); k_whole); intro _ _ _ _ _ _; (try (first | refine RetQ.ok ?_ | refine RetQ.err ?_)); (try walk_at "fold")))
  k_with "call ref" => (((with_reducible show wpAny _ _ (call (Value.ref 198) _) _ _ _); k_here; (with_reducible refine call_R ?_); k_dflt (refine' c_is_leaf ?q0C ?q0he ?q0hd ?q0hu ?_; (case q0C => walk_at "ctx"); (case q0he => first | assumption | walk_at "fact"); (case q0hd => walk_at "depth"); (case q0hu => walk_at "units"); k_whole); intro _ _ _ _ _; (try (first | refine RetQ.ok ?_ | refine RetQ.err ?_)); (try walk_at "fold")))
  k_with "call ref" => (((with_reducible show wpAny _ _ (call (Value.ref 205) _) _ _ _); k_here; (with_reducible refine call_R ?_); k_dflt (refine' c_is_sound ?q0C ?q0he ?q0hd ?q0hu ?_; (case q0C => walk_at "ctx"); (case q0he => first | assumption | walk_at "fact"); (case q0hd => walk_at "depth"); (case q0hu => walk_at "units"); k_whole); intro _ _ _ _ _; (try (first | refine RetQ.ok ?_ | refine RetQ.err ?_)); (try walk_at "fold")))
  k_with "call ref" => (((with_reducible show wpAny _ _ (call (Value.ref 212) _) _ _ _); k_here; (with_reducible refine call_R ?_); k_dflt (refine' c_may ?q0C ?q0he ?q0hd ?q0hu ?_; (case q0C => walk_at "ctx"); (case q0he => first | assumption | walk_at "fact"); (case q0hd => walk_at "depth"); (case q0hu => walk_at "units"); k_whole); intro _ _ _ _ _; (try (first | refine RetQ.ok ?_ | refine RetQ.err ?_)); (try walk_at "fold")))
  k_with "call ref" => (((with_reducible show wpAny _ _ (call (Value.ref 137) _) _ _ _); k_here; (with_reducible refine call_R ?_); k_dflt (refine' c_address2 ?q0C ?q0D ?q0ln ?q0hf1 ?q0hg1 ?q0hd ?q0hu ?_; (case q0D => assumption); (case q0C => walk_at "ctx"); (case q0ln => assumption); (case q0hf1 => first | assumption | walk_at "fact"); (case q0hg1 => first | assumption | walk_at "fact"); (case q0hd => walk_at "depth"); (case q0hu => walk_at "units"); k_whole); intro _ _ _ _ _ _; (try (first | refine RetQ.ok ?_ | refine RetQ.err ?_)); (try walk_at "fold")))
  k_with "call ref" => (((with_reducible show wpAny _ _ (call (Value.ref 391) _) _ _ _); k_here; (with_reducible refine call_R ?_); k_dflt (refine' c_rows_of ?q0C ?q0Ta ?q0D ?q0ln ?q0M ?q0W ?q0hcv ?q0hn ?q0ha ?q0h4 ?q0hf1 ?q0hd ?q0hu ?_; (case q0Ta => assumption); (case q0D => assumption); (case q0M => assumption); (case q0W => assumption); (case q0C => walk_at "ctx"); (case q0ln => assumption); (case q0hcv => assumption); (case q0hn => first | assumption | walk_at "fact"); (case q0ha => first | assumption | walk_at "fact"); (case q0h4 => first | assumption | walk_at "fact"); (case q0hf1 => first | assumption | walk_at "fact"); (case q0hd => walk_at "depth"); (case q0hu => walk_at "units"); k_whole); intro _ _ _ _ _ _ _ _ _ _ _ _ _ _; (try (first | refine RetQ.ok ?_ | refine RetQ.err ?_)); (try walk_at "fold")))
  k_with "call ref" => (((with_reducible show wpAny _ _ (call (Value.ref 298) _) _ _ _); k_here; (with_reducible refine call_R ?_); k_dflt (refine' c_need_parts ?q0C ?q0Ta ?q0D ?q0ln ?q0ine ?q0hd ?q0hu ?_; (case q0Ta => assumption); (case q0D => assumption); (case q0C => walk_at "ctx"); (case q0ln => assumption); (case q0ine => first | assumption | walk_at "fact"); (case q0hd => walk_at "depth"); (case q0hu => walk_at "units"); k_whole); intro _ _ _ _ _ _ _ _ _ _ _; (try (first | refine RetQ.ok ?_ | refine RetQ.err ?_)); (try walk_at "fold")))
  k_with "call ref" => (((with_reducible show wpAny _ _ (call (Value.ref 327) _) _ _ _); k_here; (with_reducible refine call_R ?_); k_dflt (refine' c_need_flags ?q0C ?q0hfl ?q0hd ?q0hu ?_ ?_; (case q0C => walk_at "ctx"); (case q0hfl => first | assumption | walk_at "fact"); (case q0hd => walk_at "depth"); (case q0hu => walk_at "units"); k_whole); (intro _ _ _ _ _ _; (try (first | refine RetQ.ok ?_ | refine RetQ.err ?_)); (try walk_at "fold")); rotate_left; (intro _ _ _ _ _ _ _ _ _; (try (first | refine RetQ.ok ?_ | refine RetQ.err ?_)); (try walk_at "fold")); rotate_left))
  k_with "call ref" => (((with_reducible show wpAny _ _ (call (Value.ref 306) _) _ _ _); k_here; (with_reducible refine call_R ?_); k_dflt (refine' c_walk ?q0C ?q0Ta ?q0D ?q0ln ?q0M ?q0W ?q0hcv ?q0ine ?q0p1 ?q0p1m ?q0hd ?q0hu ?_ ?_ ?_; (case q0Ta => assumption); (case q0D => assumption); (case q0M => assumption); (case q0W => assumption); (case q0C => walk_at "ctx"); (case q0ln => assumption); (case q0hcv => assumption); (case q0ine => first | assumption | walk_at "fact"); (case q0p1 => first | assumption | walk_at "fact"); (case q0p1m => first | assumption | walk_at "fact"); (case q0hd => walk_at "depth"); (case q0hu => walk_at "units"); k_whole); (intro _ _ _ _ _ _; (try (first | refine RetQ.ok ?_ | refine RetQ.err ?_)); (try walk_at "fold")); rotate_left; (intro _ _ _ _ _ _ _ _; (try (first | refine RetQ.ok ?_ | refine RetQ.err ?_)); (try walk_at "fold")); rotate_left; (intro _ _ _ _ _ _ _ _ _ _; (try (first | refine RetQ.ok ?_ | refine RetQ.err ?_)); (try walk_at "fold")); rotate_left))
  k_with "call ref" => (((with_reducible show wpAny _ _ (call (Value.ref 313) _) _ _ _); k_here; (with_reducible refine call_R ?_); k_dflt (refine' c_entry ?q0C ?q0Ta ?q0D ?q0ln ?q0M ?q0W ?q0hcv ?q0ine ?q0p1 ?q0p1m ?q0p2 ?q0hd ?q0hu ?_; (case q0Ta => assumption); (case q0D => assumption); (case q0M => assumption); (case q0W => assumption); (case q0C => walk_at "ctx"); (case q0ln => assumption); (case q0hcv => assumption); (case q0ine => first | assumption | walk_at "fact"); (case q0p1 => first | assumption | walk_at "fact"); (case q0p1m => first | assumption | walk_at "fact"); (case q0p2 => first | assumption | walk_at "fact"); (case q0hd => walk_at "depth"); (case q0hu => walk_at "units"); k_whole); intro _ _ _ _ _ _ _ ve'; subst ve'; (try (first | refine RetQ.ok ?_ | refine RetQ.err ?_)); (try walk_at "fold")))
  k_with "call ref" => (((with_reducible show wpAny _ _ (call (Value.ref 348) _) _ _ _); k_here; (with_reducible refine call_R ?_); k_dflt (refine' c_need_place ?q0C ?q0Ta ?q0D ?q0ln ?q0M ?q0W ?q0hcv ?q0ine ?q0p1 ?q0p1m ?q0p2 ?q0hd ?q0hu ?_ ?_; (case q0Ta => assumption); (case q0D => assumption); (case q0M => assumption); (case q0W => assumption); (case q0C => walk_at "ctx"); (case q0ln => assumption); (case q0hcv => assumption); (case q0ine => first | assumption | walk_at "fact"); (case q0p1 => first | assumption | walk_at "fact"); (case q0p1m => first | assumption | walk_at "fact"); (case q0p2 => first | assumption | walk_at "fact"); (case q0hd => walk_at "depth"); (case q0hu => walk_at "units"); k_whole); (intro _ _ _ _ _ _ _; (try (first | refine RetQ.ok ?_ | refine RetQ.err ?_)); (try walk_at "fold")); rotate_left; (intro _ _ _ _ _ _ _ _ _; (try (first | refine RetQ.ok ?_ | refine RetQ.err ?_)); (try walk_at "fold")); rotate_left))
  k_with "call ref" => (((with_reducible show wpAny _ _ (call (Value.ref 320) _) _ _ _); k_here; (with_reducible refine call_R ?_); k_dflt (refine' c_tphysical ?q0C ?q0Ta ?q0D ?q0ln ?q0M ?q0W ?q0hcv ?q0ine ?q0p1 ?q0p1m ?q0p2 ?q0hd ?q0hu ?_ ?_; (case q0Ta => assumption); (case q0D => assumption); (case q0M => assumption); (case q0W => assumption); (case q0C => walk_at "ctx"); (case q0ln => assumption); (case q0hcv => assumption); (case q0ine => first | assumption | walk_at "fact"); (case q0p1 => first | assumption | walk_at "fact"); (case q0p1m => first | assumption | walk_at "fact"); (case q0p2 => first | assumption | walk_at "fact"); (case q0hd => walk_at "depth"); (case q0hu => walk_at "units"); k_whole); (intro _ _ _ _ _ _; (try (first | refine RetQ.ok ?_ | refine RetQ.err ?_)); (try walk_at "fold")); rotate_left; (intro _ _ _ _ _ _ _ _; (try (first | refine RetQ.ok ?_ | refine RetQ.err ?_)); (try walk_at "fold")); rotate_left))
  k_with "exec For Name Call cons nil" => ((k_here; (with_unfolding_all refine' For_G ‹Fr _ _ _ _› ?_); k_whole))
  k_with "exec For Tuple Call cons nil" => ((k_here; (with_unfolding_all refine' For_G ‹Fr _ _ _ _› ?_); k_whole))
  k_with "exec For Name Name cons nil" => ((k_here; (with_unfolding_all refine' For_G ‹Fr _ _ _ _› ?_); k_whole))
  k_with "exec For Name BinOp cons nil" => ((k_here; (with_unfolding_all refine' For_G ‹Fr _ _ _ _› ?_); k_whole))
  k_with "call builtin:list.append" => ((k_here; (with_reducible show wpAny _ _ (call (Value.builtin _) [Value.ref _, _]) _ _ _); k_dflt (refine' append_K ?q0k1 ?q0k2 ?q0k3 ?_ ?q0z; (case q0k1 => k_asm); (case q0k2 => k_asm); (case q0k3 => first | exact Upd.head (by assumption) | exact Upd.tail (by k_ne) (Upd.head (by assumption)) | exact Upd.tail (by k_ne) (Upd.tail (by k_ne) (Upd.head (by assumption)))); (case q0z => assumption); k_whole); intro _ _ _; (try k_sweep)))
  k_with "call builtin:list.extend" => ((k_here; (with_reducible show wpAny _ _ (call (Value.builtin _) [Value.ref _, Value.ref _]) _ _ _); k_dflt (refine' rows_extend ?q0F ?q0N ?q0l ?q0t ?q0e ?q0w ?q0x ?q0y ?_; (case q0F => k_asm); (case q0N => k_asm); (case q0l => assumption); (case q0t => assumption); (case q0e => assumption); (case q0w => assumption); (case q0x => omega); (case q0y => omega); k_whole); intro _ _ _ _))
  k_with "fact" => (first | exact (hinv _ hi (v1_t (by assumption)) (by assumption)).1 | exact (hinv _ hi (v1_t (by assumption)) (by assumption)).2)
  trivial
theorem c_rows {tab mem lay pgs wd : Addr} {b pg en lg ed : Int} {tl tt : Toks} {o : Obj} {c : List (Int × Int)} {rest : List (Addr × Obj)} {t : Tok} {n : Nat} (C : Ctx w p loose mean mg mb A A₀ env outer base h₀ L s.heap m ((wd, o) :: rest)) (Ta : Has h₀ tab 418 (tabF mem lay pgs)) (D : Has h₀ lay 182 (layF b pg en lg ed tl)) (ln : LayN b pg en lg ed) (M : Has h₀ mem 607 (memF pg wd tt)) (W : WD prog w wd o c) (hcv : ∀ i, 0 ≤ kdfLook c i 0 ∧ kdfLook c i 0 < 65536) (hn : en = n) (hinv : ∀ i : Nat, i < n → v1S (kdfLook c ((0 + 4 * (i : Int)).fdiv 4) 0) = true → leafS (kdfLook c ((0 + 4 * (i : Int)).fdiv 4) 0) = false → (0 ≤ physS b (kdfLook c ((0 + 4 * (i : Int)).fdiv 4) 0) ∧ physS b (kdfLook c ((0 + 4 * (i : Int)).fdiv 4) 0) + pg ≤ 4 * pg) ∧ (physS b (kdfLook c ((0 + 4 * (i : Int)).fdiv 4) 0)).fmod 4 = 0) (hd : A.depth ≤ 560) (hu : A.units ≤ 5600)
  (hR : ∀ h' tk (fa : Addr) (items : Array Value) (k : Nat) (tl : List (Addr × Obj)), let st' : Shared := { s with heap := h', toks := tk }; Fr h₀ L h' m → let nw' : List (Addr × Obj) := ((wd, o) :: (fa, listOf items k) :: (tl ++ rest)); News h₀ L h' nw' → RowsAt tl items.toList (rowsS b pg lg n c n) → (wd < fa ∧ AllLt fa rest) → (∀ p ∈ tl, fa < p.1) → items.size ≤ 10000 → R (.ok (.ret (.ref fa))) st') :
    codeAny (model prog w) A (.call (.ref 384) ⟨[.ref tab, .int 0 t], []⟩) R s := by
  refine' enter [("self", .ref tab), ("root", .int 0 t)] C ?k6 ?k7 ?k8 ?k9 ?kB ?c2 ?c3 ?c4 ?c5 ?_
  walk_at "entered"
  case k9 => walk_at "binds"
  obtain ⟨B, F, X, N, T, hA, hf, hke, hh⟩ := C
  intro g' L' h' tk' FG F' N' B' X' T'
  replace Ta := Ta.keeps FG.keep
  replace D := D.keeps FG.keep
  replace M := M.keeps FG.keep
  try dsimp only
  refine foldEnter (f := execs) F' ?_
  clear F'
  intro M9 en9 A9 m9 qk ek st9 F'
  try clear N
  obtain ⟨hb, hp, hen, hlg, hed⟩ := layN_b ln
  obtain ⟨hq1, hq2, hq3⟩ := layN_n ln
  k_steps
  rename IsRange _ _ _ _ _ _ _ _ => hR9
  obtain ⟨fa, l1, hfa⟩ : ∃ fa : Addr, (wd < fa ∧ AllLt fa rest) ∧ fa = _ := ⟨_, by assumption, rfl⟩
  subst hfa
  have hszL : ∀ (i : Nat) (items : Array Value) (tl : List (Addr × Obj)), i ≤ n → RowsAt tl items.toList (rowsS b pg lg n c i) → items.size ≤ 10000 := fun i items tl hi h => by
    have e1 := h.len
    have e2 := rowsS_len (b := b) (pg := pg) (lg := lg) (en := n) (c := c) i
    simp only [Array.length_toList] at e1
    have e3 : i * (n + 1) ≤ 64 * 65 := Nat.mul_le_mul (by omega) (by omega)
    omega
  refine' iterG_range [("first" : Str), ("entry" : Str), ("row" : Str)] (fun i => JR wd o fa rest (rowsS b pg lg n c i)) ?hh ?F ?N hR9 hn (small_le (by omega)) (size_le (by omega)) ?hj ?turn ?done
  case hh => assumption
  case F => k_asm
  case N => exact news_swap1 (by k_asm)
  case hj => exact ⟨#[], [], 0, rfl, trivial, fun _ h => nomatch h⟩
  case done =>
    rintro h9 tk9 u9 news9 F9 N9 ⟨items, tl, k, rfl, hrows, htl⟩
    k_steps
    exact hR _ _ fa items k tl (by k_asm) (by k_asm) hrows l1 htl (hszL n items tl (Nat.le_refl _) hrows)
  case turn =>
    rintro i t9 u9 news9 h9 tk9 own I hi ⟨items, tl, k, rfl, hrows, htl⟩ hoff hsub ⟨oI, hI⟩ F9 N9
    replace N9 := News.sub N9 ledger1
    have v1 := hcv ((0 + 4 * (i : Int)).fdiv 4)
    have lwf := l1.1
    have h4i := fmod4 (a := 0) i (by decide)
    have hne9 := off3 htl l1.2 hsub (hoff _ (.tail _ (.head _)))
    have hsz0 := hszL i items tl (Nat.le_of_lt hi) hrows
    have hsz : items.size ≤ sizeLine := by rw [sizeLine_eq]; omega
    try dsimp only
    k_steps
    · show NextG _ _ _ _ _ _ _ _ _
      rw [rowsS_f (by assumption)]
      exact rows_same (by k_asm) (by repeat (first | (with_reducible exact over_off) | ((with_reducible refine upd_off ?_ ?_); exact rfl) | exact fun _ _ => rfl)) (by k_asm) hrows htl hoff
    · show NextG _ _ _ _ _ _ _ _ _
      rw [rowsS_l (by assumption) (by assumption)]
      exact rows_one (by k_asm) (by repeat (first | (with_reducible exact over_off) | ((with_reducible refine upd_off ?_ ?_); exact rfl) | exact fun _ _ => rfl)) (by k_asm) hrows htl hoff hI (by assumption)
    · show NextG _ _ _ _ _ _ _ _ _
      rw [rowsS_s (by assumption) (by assumption)]
      exact rows_more (by k_asm) (by repeat (first | (with_reducible exact over_off) | ((with_reducible refine upd_off ?_ ?_); exact rfl) | exact fun _ _ => rfl)) (by k_asm) hrows htl (by assumption) (by assumption) (by assumption) hoff hI
theorem rows_at_96 : True := by
  k_with "call ref" => (((with_reducible show wpAny _ _ (call (Value.ref 384) _) _ _ _); k_here; (with_reducible refine call_R ?_); k_dflt (refine' c_rows ?q0C ?q0Ta ?q0D ?q0ln ?q0M ?q0W ?q0hcv ?q0hn ?q0hinv ?q0hd ?q0hu ?_; (case q0Ta => assumption); (case q0D => assumption); (case q0M => assumption); (case q0W => assumption); (case q0C => walk_at "ctx"); (case q0ln => assumption); (case q0hcv => assumption); (case q0hn => first | assumption | walk_at "fact"); (case q0hinv => assumption); (case q0hd => walk_at "depth"); (case q0hu => walk_at "units"); k_whole); intro _ _ _ _ _ _ _ _ _ _ _ _ _ _; (try (first | refine RetQ.ok ?_ | refine RetQ.err ?_)); (try walk_at "fold")))
  trivial
end
end Mine
end W10b
section W16_0
open PySem PySem.W PyProof.Rows PySem.Calls PySem.Spec PyProof.V
set_option maxRecDepth 100000
set_option maxHeartbeats 8000000
set_option autoImplicit false
namespace Mine

theorem rows_at_97 : True := by
  k_with_none
  k_with "ctx" => ((refine' Ctx.mk ?q0B ?q0F ?q0X ?q0N ?q0T ?q0a ?q0f ?q0k ?q0h; (case q0B => k_asm); (case q0F => k_asm); (case q0X => k_asm); (case q0N => first | k_asm | exact news_swap1 (by k_asm) | exact news_swap2 (by k_asm) | exact news_swap3 (by k_asm)); (case q0T => k_asm); (case q0a => first | assumption | exact Around.frames_deeper (Below.stack (by assumption))); (case q0f => first | assumption | exact rfl); (case q0k => first | assumption | exact rfl); (case q0h => first | assumption | exact rfl)))
  k_with "getAttr ref" => ((k_here; k_dflt (refine' own_get ?q0D ?q0F ?q0X ?q0a ?q0b ?q0c ?q0d ?q0l ?q0v ?_; (case q0D => assumption); (case q0F => k_asm); (case q0X => k_asm); (case q0a => k_is); (case q0b => k_is); (case q0c => k_is); (case q0d => k_is); (case q0l => intro _ _; k_get); (case q0v => k_handed); k_whole)))
  k_with "getMethod ref" => ((k_here; k_dflt (refine' own_meth ?q0D ?q0F ?q0X ?q0a ?q0b ?q0c ?q0l ?_; (case q0D => assumption); (case q0F => k_asm); (case q0X => k_asm); (case q0a => k_is); (case q0b => k_is); (case q0c => k_is); (case q0l => intro _ _; k_get); k_whole)))
  k_with "getMethod ref" => ((k_here; (with_reducible show wpAny _ _ (getMethod (Value.ref _) (PySem.Str.ofString "get") _) _ _ _); k_dflt (refine' w_getm ?q0W ?q0N ?q0p ?_; (case q0W => assumption); (case q0N => k_asm); (case q0p => k_mem); k_whole)))
  k_with "getMethod ref" => ((k_here; (with_reducible show wpAny _ _ (getMethod (Value.ref _) (PySem.Str.ofString "pop") _) _ _ _); k_dflt (refine' w_popm ?q0W ?q0N ?q0p ?_; (case q0W => assumption); (case q0N => k_asm); (case q0p => k_mem); k_whole)))
  k_with "call builtin:dict.get" => ((k_here; k_dflt (refine' w_get ?q0W ?q0N ?q0p ?_; (case q0W => assumption); (case q0N => k_asm); (case q0p => k_mem); k_whole); intro _))
  k_with "call builtin:dict.pop" => ((k_here; k_dflt (refine' w_pop ?q0W ?q0F ?q0N ?q0p ?q0U ?_; (case q0W => assumption); (case q0F => k_asm); (case q0N => k_asm); (case q0p => k_mem); (case q0U => (first | (refine UpdF.head ?_; assumption) | k_updF)); k_whole); intro _ _ _ _ N'; (try dsimp only at N'); (try (revert N'; intro _)); intro _))
  k_with "setItem ref int" => ((k_here; k_dflt (refine' w_set ?q0W ?q0F ?q0N ?q0U ?q0c ?_; (case q0W => assumption); (case q0F => k_asm); (case q0N => k_asm); (case q0U => (first | (refine UpdF.head ?_; assumption) | k_updF)); (case q0c => first | assumption | omega); k_whole); intro _ _ _ N'; (try dsimp only at N'); (try (revert N'; intro _)); intro _))
  k_with "depth" => (first | exact dp1 (by assumption) rfl | exact dp2 (by assumption) rfl | ((simp +zetaDelta only [depth_mark, depth_under_make, depth_under_kw, depth_in1, depth_deeper, depth_caller]); omega))
  k_with "units" => (first | exact up1 (by assumption) rfl | exact up2 (by assumption) rfl | ((simp +zetaDelta only [units_in1, units_deeper, Around.mark_units, units_caller]); omega))
  k_with "apart" => (first | assumption | exact List.forall_mem_cons.mpr ⟨by k_ne, by assumption⟩ | exact List.forall_mem_cons.mpr ⟨by k_ne, List.forall_mem_cons.mpr ⟨by k_ne, by assumption⟩⟩)
  k_with "fact" => (omega)
  k_with "entered" => ((k_dflt ((case k6 => k_is); (case k7 => k_is); (case k8 => walk_at "room"); (case c5 => decide); (case kB => exact locs rfl); (case c2 => exact rfl); (case c3 => exact rfl); (case c4 => exact rfl))))
  k_with "binds" => ((k_dflt (exact BindsTo.of_eq (by kernel_rfl))))
  k_with "dbinds" => ((k_dflt (exact binds_K (Frag.In.keeps (Ctx.X (by assumption)) (Fr.keep (Ctx.F (by assumption)))) rfl (by k_is) rfl rfl (by kernel_rfl))))
  k_with "room" => (((simp only [rl_is]); omega))
  k_with "assign Tuple" => ((k_here; (with_reducible show wpAny _ _ (assign (Expr.Tuple _ _ _) _ (Value.ref _)) _ _ _); k_dflt (refine' unpackN_ ?q0k1 ?q0k2 ?q0k3 ?q0k4 ?q0k5 ?q0k6 ?_; (case q0k1 => k_asm); (case q0k2 => k_asm); (case q0k3 => exact News.isTup (by k_asm) (by k_mem)); (case q0k4 => first | assumption | exact rfl); (case q0k5 => exact rfl); (case q0k6 => exact rfl); k_whole); intro _ _ _; (try k_sweep)))
  k_with "unpackItems ref" => ((k_here; k_dflt (refine' unpackItemsN_ ?q0k1 ?q0k2 ?q0k3 ?q0k4 ?q0k5 ?_; (case q0k1 => k_asm); (case q0k2 => k_asm); (case q0k3 => kun_tup); (case q0k4 => first | assumption | exact rfl); (case q0k5 => exact rfl); k_whole); intro _ _ _; (try k_sweep)))
  k_with "fold" => (((fail_if_success (fail_if_success k_fold)); refine foldQ ?_; intro _))
  k_with "foldS" => (((fail_if_success (fail_if_success k_fold)); refine foldQS ?_; intro _ _))
  k_with "foldE" => (((fail_if_success (fail_if_success (refine swapT ⟨?_, ?_⟩; k_fold))); refine foldEE ?_; intro _))
  trivial

theorem rows_at_98 : True := by
  k_with "eval Name" => ((k_here; k_dflt (refine' nmL ?q0F ?q0v ?_ ?q0L ?q0x; (case q0x => rfl); (case q0F => k_asm); (case q0L => rfl); (case q0v => rfl); k_whole)))
  k_with "storeName" => ((k_here; k_dflt (refine' stL ?q0F ?q0N ?_ ?q0L ?q0x; (case q0x => rfl); (case q0F => k_asm); (case q0L => rfl); (case q0N => k_asm); k_whole; intro _ _ _ _ _ _; (try k_sweep))))
  trivial
section
variable {prog : Program} {w : World} {p : Program} {loose : List Str} {mean : ExcName → Option Value} {mg mb : Str → Option Value} {A A₀ : Around} {env : Env} {outer : List Env} {base h₀ : Heap} {L : Addr} {m : Str → Option Value} {s : Shared} {news : List (Addr × Obj)} {R : Result → Shared → Prop}
theorem rows_at_99 : True := by
  k_with "call ref" => (((with_reducible show wpAny _ _ (call (Value.ref 129) _) _ _ _); k_here; (with_reducible refine call_R ?_); k_dflt (refine' c_parts_in ?q0C ?q0D ?q0ln ?q0ha ?q0hd ?q0hu ?_; (case q0D => assumption); (case q0C => walk_at "ctx"); (case q0ln => assumption); (case q0ha => first | assumption | walk_at "fact"); (case q0hd => walk_at "depth"); (case q0hu => walk_at "units"); k_whole); intro _ _ _ _ _ _ _ _ _ _ l1'; (try k_lt l1'); (try (revert l1'; intro _)); (try (first | refine RetQ.ok ?_ | refine RetQ.err ?_)); (try walk_at "fold")))
  k_with "call ref" => (((with_reducible show wpAny _ _ (call (Value.ref 129) _) _ _ _); k_here; (with_reducible refine call_R ?_); k_dflt (refine' c_parts_out ?q0C ?q0D ?q0ln ?q0ha ?q0hd ?q0hu ?_; (case q0D => assumption); (case q0C => walk_at "ctx"); (case q0ln => assumption); (case q0ha => first | assumption | walk_at "fact"); (case q0hd => walk_at "depth"); (case q0hu => walk_at "units"); k_whole); intro _ _ _ _ _; (try (first | refine RetQ.ok ?_ | refine RetQ.err ?_)); (try walk_at "fold")))
  k_with "call ref" => (((with_reducible show wpAny _ _ (call (Value.ref 137) _) _ _ _); k_here; (with_reducible refine call_R ?_); k_dflt (refine' c_address ?q0C ?q0D ?q0ln ?q0hf1 ?q0hg1 ?q0hq1 ?q0hd ?q0hu ?_; (case q0D => assumption); (case q0C => walk_at "ctx"); (case q0ln => assumption); (case q0hf1 => first | assumption | walk_at "fact"); (case q0hg1 => first | assumption | walk_at "fact"); (case q0hq1 => first | assumption | walk_at "fact"); (case q0hd => walk_at "depth"); (case q0hu => walk_at "units"); k_whole); intro _ _ _ _ _ _; (try (first | refine RetQ.ok ?_ | refine RetQ.err ?_)); (try walk_at "fold")))
  k_with "call ref" => (((with_reducible show wpAny _ _ (call (Value.ref 144) _) _ _ _); k_here; (with_reducible refine call_R ?_); k_dflt (refine' c_down ?q0C ?q0D ?q0ln ?q0ha ?q0hd ?q0hu ?_; (case q0D => assumption); (case q0C => walk_at "ctx"); (case q0ln => assumption); (case q0ha => first | assumption | walk_at "fact"); (case q0hd => walk_at "depth"); (case q0hu => walk_at "units"); k_whole); intro _ _ _ _ _ _; (try (first | refine RetQ.ok ?_ | refine RetQ.err ?_)); (try walk_at "fold")))
  k_with "call ref" => (((with_reducible show wpAny _ _ (call (Value.ref 158) _) _ _ _); k_here; (with_reducible refine call_R ?_); k_dflt (refine' c_is_begin ?q0C ?q0D ?q0ln ?q0ha ?q0hd ?q0hu ?_; (case q0D => assumption); (case q0C => walk_at "ctx"); (case q0ln => assumption); (case q0ha => first | assumption | walk_at "fact"); (case q0hd => walk_at "depth"); (case q0hu => walk_at "units"); k_whole); intro _ _ _ _ _; (try (first | refine RetQ.ok ?_ | refine RetQ.err ?_)); (try walk_at "fold")))
  k_with "call ref" => (((with_reducible show wpAny _ _ (call (Value.ref 172) _) _ _ _); k_here; (with_reducible refine call_R ?_); k_dflt (refine' c_lentry ?q0C ?q0D ?q0ln ?q0ha ?q0hf1 ?q0hd ?q0hu ?_; (case q0D => assumption); (case q0C => walk_at "ctx"); (case q0ln => assumption); (case q0ha => first | assumption | walk_at "fact"); (case q0hf1 => first | assumption | walk_at "fact"); (case q0hd => walk_at "depth"); (case q0hu => walk_at "units"); k_whole); intro _ _ _ _ _ _; (try (first | refine RetQ.ok ?_ | refine RetQ.err ?_)); (try walk_at "fold")))
  k_with "call ref" => (((with_reducible show wpAny _ _ (call (Value.ref 179) _) _ _ _); k_here; (with_reducible refine call_R ?_); k_dflt (refine' c_lphysical ?q0C ?q0D ?q0ln ?q0he ?q0hd ?q0hu ?_; (case q0D => assumption); (case q0C => walk_at "ctx"); (case q0ln => assumption); (case q0he => first | assumption | walk_at "fact"); (case q0hd => walk_at "depth"); (case q0hu => walk_at "units"); k_whole); intro _ _ _ _ _ _; (try (first | refine RetQ.ok ?_ | refine RetQ.err ?_)); (try walk_at "fold")))
  k_with "call ref" => (((with_reducible show wpAny _ _ (call (Value.ref 198) _) _ _ _); k_here; (with_reducible refine call_R ?_); k_dflt (refine' c_is_leaf ?q0C ?q0he ?q0hd ?q0hu ?_; (case q0C => walk_at "ctx"); (case q0he => first | assumption | walk_at "fact"); (case q0hd => walk_at "depth"); (case q0hu => walk_at "units"); k_whole); intro _ _ _ _ _; (try (first | refine RetQ.ok ?_ | refine RetQ.err ?_)); (try walk_at "fold")))
  k_with "call ref" => (((with_reducible show wpAny _ _ (call (Value.ref 205) _) _ _ _); k_here; (with_reducible refine call_R ?_); k_dflt (refine' c_is_sound ?q0C ?q0he ?q0hd ?q0hu ?_; (case q0C => walk_at "ctx"); (case q0he => first | assumption | walk_at "fact"); (case q0hd => walk_at "depth"); (case q0hu => walk_at "units"); k_whole); intro _ _ _ _ _; (try (first | refine RetQ.ok ?_ | refine RetQ.err ?_)); (try walk_at "fold")))
  k_with "call ref" => (((with_reducible show wpAny _ _ (call (Value.ref 212) _) _ _ _); k_here; (with_reducible refine call_R ?_); k_dflt (refine' c_may ?q0C ?q0he ?q0hd ?q0hu ?_; (case q0C => walk_at "ctx"); (case q0he => first | assumption | walk_at "fact"); (case q0hd => walk_at "depth"); (case q0hu => walk_at "units"); k_whole); intro _ _ _ _ _; (try (first | refine RetQ.ok ?_ | refine RetQ.err ?_)); (try walk_at "fold")))
  k_with "call ref" => (((with_reducible show wpAny _ _ (call (Value.ref 137) _) _ _ _); k_here; (with_reducible refine call_R ?_); k_dflt (refine' c_address ?q0C ?q0D ?q0ln ?q0hf1 ?q0hg1 ?q0hq1 ?q0hd ?q0hu ?_; (case q0D => assumption); (case q0C => walk_at "ctx"); (case q0ln => assumption); (case q0hf1 => first | assumption | walk_at "fact"); (case q0hg1 => first | assumption | walk_at "fact"); (case q0hq1 => first | assumption | walk_at "fact"); (case q0hd => walk_at "depth"); (case q0hu => walk_at "units"); k_whole); intro _ _ _ _ _ _; walk_at "adname"; (try (first | refine RetQ.ok ?_ | refine RetQ.err ?_)); (try walk_at "fold")))
  k_with "call ref" => (((with_reducible show wpAny _ _ (call (Value.ref 306) _) _ _ _); k_here; (with_reducible refine call_R ?_); k_dflt (refine' c_walk ?q0C ?q0Ta ?q0D ?q0ln ?q0M ?q0W ?q0hcv ?q0ine ?q0p1 ?q0p1m ?q0hd ?q0hu ?_ ?_ ?_; (case q0Ta => assumption); (case q0D => assumption); (case q0M => assumption); (case q0W => assumption); (case q0C => walk_at "ctx"); (case q0ln => assumption); (case q0hcv => assumption); (case q0ine => first | assumption | walk_at "fact"); (case q0p1 => first | assumption | walk_at "fact"); (case q0p1m => first | assumption | walk_at "fact"); (case q0hd => walk_at "depth"); (case q0hu => walk_at "units"); k_whole); (intro _ _ _ _ _ _; (try (first | refine RetQ.ok ?_ | refine RetQ.err ?_)); (try walk_at "fold")); rotate_left; (intro _ _ _ _ _ _ _ _; (try (first | refine RetQ.ok ?_ | refine RetQ.err ?_)); (try walk_at "fold")); rotate_left; (intro _ _ _ _ _ _ _ _ _ _; (try (first | refine RetQ.ok ?_ | refine RetQ.err ?_)); (try walk_at "fold")); rotate_left))
  k_with "call ref" => (((with_reducible show wpAny _ _ (call (Value.ref 313) _) _ _ _); k_here; (with_reducible refine call_R ?_); k_dflt (refine' c_entry ?q0C ?q0Ta ?q0D ?q0ln ?q0M ?q0W ?q0hcv ?q0ine ?q0p1 ?q0p1m ?q0p2 ?q0hd ?q0hu ?_; (case q0Ta => assumption); (case q0D => assumption); (case q0M => assumption); (case q0W => assumption); (case q0C => walk_at "ctx"); (case q0ln => assumption); (case q0hcv => assumption); (case q0ine => first | assumption | walk_at "fact"); (case q0p1 => first | assumption | walk_at "fact"); (case q0p1m => first | assumption | walk_at "fact"); (case q0p2 => first | assumption | walk_at "fact"); (case q0hd => walk_at "depth"); (case q0hu => walk_at "units"); k_whole); intro _ _ _ _ _ _ _ ve'; subst ve'; (try (first | refine RetQ.ok ?_ | refine RetQ.err ?_)); (try walk_at "fold")))
  k_with "call ref" => (((with_reducible show wpAny _ _ (call (Value.ref 348) _) _ _ _); k_here; (with_reducible refine call_R ?_); k_dflt (refine' c_need_place ?q0C ?q0Ta ?q0D ?q0ln ?q0M ?q0W ?q0hcv ?q0ine ?q0p1 ?q0p1m ?q0p2 ?q0hd ?q0hu ?_ ?_; (case q0Ta => assumption); (case q0D => assumption); (case q0M => assumption); (case q0W => assumption); (case q0C => walk_at "ctx"); (case q0ln => assumption); (case q0hcv => assumption); (case q0ine => first | assumption | walk_at "fact"); (case q0p1 => first | assumption | walk_at "fact"); (case q0p1m => first | assumption | walk_at "fact"); (case q0p2 => first | assumption | walk_at "fact"); (case q0hd => walk_at "depth"); (case q0hu => walk_at "units"); k_whole); (intro _ _ _ _ _ _ _; (try (first | refine RetQ.ok ?_ | refine RetQ.err ?_)); (try walk_at "fold")); rotate_left; (intro _ _ _ _ _ _ _ _ _; (try (first | refine RetQ.ok ?_ | refine RetQ.err ?_)); (try walk_at "fold")); rotate_left))
  k_with "call ref" => (((with_reducible show wpAny _ _ (call (Value.ref 320) _) _ _ _); k_here; (with_reducible refine call_R ?_); k_dflt (refine' c_tphysical ?q0C ?q0Ta ?q0D ?q0ln ?q0M ?q0W ?q0hcv ?q0ine ?q0p1 ?q0p1m ?q0p2 ?q0hd ?q0hu ?_ ?_; (case q0Ta => assumption); (case q0D => assumption); (case q0M => assumption); (case q0W => assumption); (case q0C => walk_at "ctx"); (case q0ln => assumption); (case q0hcv => assumption); (case q0ine => first | assumption | walk_at "fact"); (case q0p1 => first | assumption | walk_at "fact"); (case q0p1m => first | assumption | walk_at "fact"); (case q0p2 => first | assumption | walk_at "fact"); (case q0hd => walk_at "depth"); (case q0hu => walk_at "units"); k_whole); (intro _ _ _ _ _ _; (try (first | refine RetQ.ok ?_ | refine RetQ.err ?_)); (try walk_at "fold")); rotate_left; (intro _ _ _ _ _ _ _ _; (try (first | refine RetQ.ok ?_ | refine RetQ.err ?_)); (try walk_at "fold")); rotate_left))
  k_with "call ref" => (((with_reducible show wpAny _ _ (call (Value.ref 158) _) _ _ _); k_here; (with_reducible refine call_R ?_); k_dflt (refine' c_is_begin_t ?q0C ?q0D ?q0ln ?q0ha ?q0hpo ?q0hd ?q0hu ?_; (case q0D => assumption); (case q0C => walk_at "ctx"); (case q0ln => assumption); (case q0ha => first | assumption | walk_at "fact"); (case q0hpo => assumption); (case q0hd => walk_at "depth"); (case q0hu => walk_at "units"); k_whole); intro _ _ _ _ _; (try (first | refine RetQ.ok ?_ | refine RetQ.err ?_)); (try walk_at "fold")))
  k_with "call ref" => (((with_reducible show wpAny _ _ (call (Value.ref 355) _) _ _ _); k_here; (with_reducible refine call_R ?_); k_dflt (refine' c_unmap ?q0C ?q0Ta ?q0D ?q0ln ?q0M ?q0W ?q0hne ?q0hc ?q0hcv ?q0ine ?q0ine2 ?q0p1 ?q0p1m ?q0p2 ?q0hd ?q0hu ?_ ?_; (case q0Ta => assumption); (case q0D => assumption); (case q0M => assumption); (case q0W => assumption); (case q0C => walk_at "ctx"); (case q0ln => assumption); (case q0hne => walk_at "apart"); (case q0hc => first | assumption | walk_at "fact"); (case q0hcv => assumption); (case q0ine => first | assumption | walk_at "fact"); (case q0ine2 => first | assumption | walk_at "fact"); (case q0p1 => first | assumption | walk_at "fact"); (case q0p1m => first | assumption | walk_at "fact"); (case q0p2 => first | assumption | walk_at "fact"); (case q0hd => walk_at "depth"); (case q0hu => walk_at "units"); k_whole); (intro _ _ _ _ _ _ _ _ _; (try (first | refine RetQ.ok ?_ | refine RetQ.err ?_)); (try walk_at "fold")); rotate_left; (intro _ _ _ _ _ _ _ _ _; (try (first | refine RetQ.ok ?_ | refine RetQ.err ?_)); (try walk_at "fold")); rotate_left))
  k_with "call ref" => (((with_reducible show wpAny _ _ (call (Value.ref 363) _) _ _ _); k_here; (with_reducible refine call_R ?_); k_dflt (refine' c_change ?q0C ?q0Ta ?q0D ?q0ln ?q0M ?q0W ?q0hne ?q0hc ?q0hcv ?q0ine ?q0ine2 ?q0p1 ?q0p1m ?q0p2 ?q0hadd ?q0htake ?q0hd ?q0hu ?_ ?_; (case q0Ta => assumption); (case q0D => assumption); (case q0M => assumption); (case q0W => assumption); (case q0C => walk_at "ctx"); (case q0ln => assumption); (case q0hne => walk_at "apart"); (case q0hc => first | assumption | walk_at "fact"); (case q0hcv => assumption); (case q0ine => first | assumption | walk_at "fact"); (case q0ine2 => first | assumption | walk_at "fact"); (case q0p1 => first | assumption | walk_at "fact"); (case q0p1m => first | assumption | walk_at "fact"); (case q0p2 => first | assumption | walk_at "fact"); (case q0hadd => first | assumption | walk_at "fact"); (case q0htake => first | assumption | walk_at "fact"); (case q0hd => walk_at "depth"); (case q0hu => walk_at "units"); k_whole); (intro _ _ _ _ _ _ _ _ _ _; (try (first | refine RetQ.ok ?_ | refine RetQ.err ?_)); (try walk_at "fold")); rotate_left; (intro _ _ _ _ _ _ _ _ _; (try (first | refine RetQ.ok ?_ | refine RetQ.err ?_)); (try walk_at "fold")); rotate_left))
  k_with "call ref" => (((with_reducible show wpAny _ _ (call (Value.ref 370) _) _ _ _); k_here; (with_reducible refine call_R ?_); k_dflt (refine' c_move ?q0C ?q0Ta ?q0D ?q0ln ?q0M ?q0W ?q0hne ?q0hc ?q0hcv ?q0ine ?q0ine2 ?q0p1 ?q0p1m ?q0p2 ?q0hph ?q0hpo ?q0hfl ?q0hd ?q0hu ?_ ?_; (case q0Ta => assumption); (case q0D => assumption); (case q0M => assumption); (case q0W => assumption); (case q0C => walk_at "ctx"); (case q0ln => assumption); (case q0hne => walk_at "apart"); (case q0hc => first | assumption | walk_at "fact"); (case q0hcv => assumption); (case q0ine => first | assumption | walk_at "fact"); (case q0ine2 => first | assumption | walk_at "fact"); (case q0p1 => first | assumption | walk_at "fact"); (case q0p1m => first | assumption | walk_at "fact"); (case q0p2 => first | assumption | walk_at "fact"); (case q0hph => first | assumption | walk_at "fact"); (case q0hpo => assumption); (case q0hfl => first | assumption | walk_at "fact"); (case q0hd => walk_at "depth"); (case q0hu => walk_at "units"); k_whole); (intro _ _ _ _ _ _ _ _ _ _; (try (first | refine RetQ.ok ?_ | refine RetQ.err ?_)); (try walk_at "fold")); rotate_left; (intro _ _ _ _ _ _ _ _ _; (try (first | refine RetQ.ok ?_ | refine RetQ.err ?_)); (try walk_at "fold")); rotate_left))
  k_with "call ref" => (((with_reducible show wpAny _ _ (call (Value.ref 852) _) _ _ _); k_here; (with_reducible refine call_R ?_); k_dflt (refine' c_seenN ?q0C ?q0BD ?q0D ?q0ln ?q0hd ?q0hu ?_; (case q0D => assumption); (case q0C => walk_at "ctx"); (case q0BD => assumption); (case q0ln => assumption); (case q0hd => walk_at "depth"); (case q0hu => walk_at "units"); k_whole); intro _ _ _ _ _; (try (first | refine RetQ.ok ?_ | refine RetQ.err ?_)); (try walk_at "fold")))
  k_with "call ref" => (((with_reducible show wpAny _ _ (call (Value.ref 852) _) _ _ _); k_here; (with_reducible refine call_R ?_); k_dflt (refine' c_seenI ?q0C ?q0BD ?q0D ?q0ln ?q0hv ?q0hd ?q0hu ?_; (case q0D => assumption); (case q0C => walk_at "ctx"); (case q0BD => assumption); (case q0ln => assumption); (case q0hv => first | assumption | walk_at "fact"); (case q0hd => walk_at "depth"); (case q0hu => walk_at "units"); k_whole); intro _ _ _ _ _ _ _ _ _ l1'; (try k_lt l1'); (try (revert l1'; intro _)); (try (first | refine RetQ.ok ?_ | refine RetQ.err ?_)); (try walk_at "fold")))
  k_with "call ref" => (((with_reducible show wpAny _ _ (call (Value.ref 263) _) _ _ _); k_here; (with_reducible refine call_R ?_); k_dflt (refine' c_probe ?q0C ?q0S ?q0Wa ?q0D ?q0ln ?q0Bu ?q0M ?q0W ?q0hne ?q0hc ?q0hcv ?q0ine ?q0hk ?q0p1 ?q0p1m ?q0p2 ?q0hd ?q0hu ?_ ?_; (case q0Wa => assumption); (case q0D => assumption); (case q0Bu => assumption); (case q0M => assumption); (case q0W => assumption); (case q0C => walk_at "ctx"); (case q0S => exact ⟨by assumption, by assumption, by assumption⟩); (case q0ln => assumption); (case q0hne => walk_at "apart"); (case q0hc => first | assumption | walk_at "fact"); (case q0hcv => assumption); (case q0ine => first | assumption | walk_at "fact"); (case q0hk => assumption); (case q0p1 => first | assumption | walk_at "fact"); (case q0p1m => first | assumption | walk_at "fact"); (case q0p2 => first | assumption | walk_at "fact"); (case q0hd => walk_at "depth"); (case q0hu => walk_at "units"); k_whole); (intro _ _ _ _ _ _ _ e'; (replace e' := (TrIs.to (by assumption)).symm.trans e'); (first | exact no_some e' | exact no_none e' | cases e'); (try (first | refine RetQ.ok ?_ | refine RetQ.err ?_)); (try walk_at "fold")); rotate_left; (intro _ _ _ _ _ _ _ _ _ _ _ _ e' l1' l2'; (replace e' := (TrIs.to (by assumption)).symm.trans e'); (first | exact no_some e' | exact no_none e' | (cases e'; (try replace l1' := ltN l1'); (try simp only [AllLt, and_true] at l2'); walk_at "turnall")); (try (first | refine RetQ.ok ?_ | refine RetQ.err ?_)); (try walk_at "fold")); rotate_left))
  k_with "call ref" => (((with_reducible show wpAny _ _ (call (Value.ref 234) _) _ _ _); k_here; (with_reducible refine call_R ?_); k_dflt (refine' c_translate ?q0C ?q0Wa ?q0D ?q0ln ?q0Bu ?q0M ?q0W ?q0hne ?q0hc ?q0hcv ?q0ine ?q0hk ?q0p1 ?q0p1m ?q0p2 ?q0hd ?q0hu ?_ ?_; (case q0Wa => assumption); (case q0D => assumption); (case q0Bu => assumption); (case q0M => assumption); (case q0W => assumption); (case q0C => walk_at "ctx"); (case q0ln => assumption); (case q0hne => walk_at "apart"); (case q0hc => first | assumption | walk_at "fact"); (case q0hcv => assumption); (case q0ine => first | assumption | walk_at "fact"); (case q0hk => assumption); (case q0p1 => first | assumption | walk_at "fact"); (case q0p1m => first | assumption | walk_at "fact"); (case q0p2 => first | assumption | walk_at "fact"); (case q0hd => walk_at "depth"); (case q0hu => walk_at "units"); k_whole); rotate_left; (intro _ _ _ _ _ _ tif' _ _ _; (replace tif' := (TrIs.to (by assumption)).symm.trans tif'); (first | exact no_some tif' | exact no_none tif' | cases tif'); (try (first | refine RetQ.ok ?_ | refine RetQ.err ?_)); (try walk_at "fold")); rotate_left; (intro _ _ _ _ _ _ _ _ _ ok' _; (replace ok' := (TrIs.to (by assumption)).symm.trans ok'); (first | exact no_some ok' | exact no_none ok' | cases ok'); (try (first | refine RetQ.ok ?_ | refine RetQ.err ?_)); (try walk_at "fold"))))
  k_with "subscriptTail" => ((k_here; (with_reducible show wpAny _ _ (subscriptTail _ _ (Value.ref _) (Value.str _ _)) _ _ _); k_dflt (refine' brd_item ?q0D ?q0F ?q0v ?_; (case q0D => assumption); (case q0F => k_asm); (case q0v => with_unfolding_all rfl); k_whole)))
  k_with "subscriptTail" => ((k_here; (with_reducible show wpAny _ _ (subscriptTail _ _ (Value.ref _) (Value.int (Int.fmod _ 3) _)) _ _ _); k_dflt (refine' menu3 ?q0N ?q0hm ?_; (case q0N => k_asm); (case q0hm => k_mem); k_whole); intro _))
  k_with "subscriptTail" => ((k_here; (with_reducible show wpAny _ _ (subscriptTail _ _ (Value.ref _) (Value.int (Int.fmod (Int.fdiv _ 7) 4) _)) _ _ _); k_dflt (refine' menuA ?q0N ?q0hm ?_; (case q0N => k_asm); (case q0hm => k_mem); k_whole); intro _))
  k_with "subscriptTail" => ((k_here; (with_reducible show wpAny _ _ (subscriptTail _ _ (Value.ref _) (Value.int (Int.fmod (Int.fdiv _ 28) 4) _)) _ _ _); k_dflt (refine' menuT ?q0N ?q0hm ?_; (case q0N => k_asm); (case q0hm => k_mem); k_whole); intro _))
  k_with "subscriptTail" => ((k_here; (with_reducible show wpAny _ _ (subscriptTail _ _ (Value.ref _) (Value.int (Int.fmod _ 5) _)) _ _ _); k_dflt (refine' menuM ?q0N ?q0hm ?_; (case q0N => k_asm); (case q0hm => k_mem); k_whole); intro _))
  k_with "turnall" => ((have BD9 := BD.turn hbl (show KtsTurn _ _ _ from by assumption); have D9 := D.turn (show KtsTurn _ _ _ from by assumption); have M9 := M.turn (show KtsTurn _ _ _ from by assumption); have Bu9 := Bu.turn (show KtsTurn _ _ _ from by assumption); have Wa9 := Wa.turn (show KtsTurn _ _ _ from by assumption); have Ta9 := Ta.turn (show KtsTurn _ _ _ from by assumption)))
  k_with "adname" => ((rw [hAD]))
  k_with "noteFrame ref" => ((k_here; k_dflt (refine' lookD ?q0R ?q0F ?q0K ?_; (case q0R => assumption); (case q0F => assumption); (case q0K => assumption); k_whole); intro _ _; (try dsimp only)))
  k_with "handleBy ref" =>
    ((k_here; first
      | (k_dflt (refine' hitDB ?q0R ?q0F ?q0K ?q0XB ?q0TB ?q0D ?q0T0 ?q0T ?_; (case q0R => assumption); (case q0F => assumption); (case q0K => assumption); (case q0XB => assumption); (case q0TB => assumption); (case q0D => assumption); (case q0T0 => first | assumption | exact KtsTurn.refl); (case q0T => kts_test); k_whole); intro _ _ _ _ _ _ _ _ _ _ _ _; walk_at "turnall"; (try dsimp only))
      | (k_dflt (refine' passD ?q0R ?q0F ?q0K ?q0XB ?q0TB ?q0T ?_; (case q0R => assumption); (case q0F => assumption); (case q0K => assumption); (case q0XB => assumption); (case q0TB => assumption); (case q0T => kts_test); k_whole); intro _ _; (try dsimp only))
      | (k_dflt (refine' hitD0 ?q0R ?q0F ?q0K ?q0XB ?q0TB ?q0D ?q0T0 ?q0T ?_; (case q0R => assumption); (case q0F => assumption); (case q0K => assumption); (case q0XB => assumption); (case q0TB => assumption); (case q0D => assumption); (case q0T0 => first | assumption | exact KtsTurn.refl); (case q0T => kts_test); k_whole); intro _ _ _ _ _ _ _ _ _; walk_at "turnall"; (try dsimp only))))
  k_with "getAttr ref" => ((k_here; (with_reducible show wpAny _ _ (getAttr (Value.ref _) (PySem.Str.ofString "cause") _) _ _ _); k_dflt (refine' trap_cause ?q0F ?q0X ?q0N ?q0T ?_; (case q0F => k_asm); (case q0X => k_asm); (case q0N => first | k_asm | exact News.sub (by k_asm) sub1 | exact News.sub (by k_asm) sub12); (case q0T => assumption); k_whole); intro _))
  k_with "getAttr ref" => ((k_here; (with_reducible show wpAny _ _ (getAttr (Value.ref _) (PySem.Str.ofString "value") _) _ _ _); k_dflt (refine' trap_value ?q0F ?q0X ?q0N ?q0T ?_; (case q0F => k_asm); (case q0X => k_asm); (case q0N => first | k_asm | exact News.sub (by k_asm) sub1 | exact News.sub (by k_asm) sub12); (case q0T => assumption); k_whole); intro _))
  k_with "sweep16" => (((rename News _ _ _ _ => N9); first | replace N9 := News.sub (news' := [(wd, o)]) N9 sub1 | replace N9 := News.sub (news' := [(wd, o)]) N9 sub12 | replace N9 := News.sub (news' := [(wd, o)]) N9 sub13))
  k_with "unpackItems ref" => ((k_here; k_dflt (refine' unpackItemsN_ ?q0k1 ?q0k2 ?q0k3 ?q0k4 ?q0k5 ?_; (case q0k1 => k_asm); (case q0k2 => k_asm); (case q0k3 => kun_tup); (case q0k4 => first | assumption | exact rfl); (case q0k5 => exact rfl); k_whole); intro _ _ _; walk_at "sweep16"))
  k_with "fact" => (first | exact ph_lt32 ln hcv (by assumption) | exact tr_lt32 ln hcv (TrIs.to (by assumption)) | exact (p2 (sound_v1 (by assumption)) (by assumption)).1 | exact (p2 (sound_v1 (by assumption)) (by assumption)).2 | exact fun a9 b9 => p2 (sound_v1 a9) b9)
  k_with "ctxM" => ((refine' CtxM.mk ?q0B ?q0F ?q0X ?q0N ?q0T ?q0a ?q0f ?q0k; (case q0B => k_asm); (case q0F => k_asm); (case q0X => k_asm); (case q0N => k_asm); (case q0T => k_asm); (case q0a => first | assumption | exact Around.frames_deeper (Below.stack (by assumption))); (case q0f => first | assumption | exact rfl); (case q0k => first | assumption | exact rfl)))
  k_with "call ref" => (((with_reducible show wpAny _ _ (call (Value.ref 129) _) _ _ _); k_here; (with_reducible refine call_R ?_); k_dflt (refine' c_parts_inM ?q0C ?q0D ?q0ln ?q0ha ?q0hd ?q0hu ?_; (case q0D => assumption); (case q0C => walk_at "ctxM"); (case q0ln => assumption); (case q0ha => first | assumption | walk_at "fact"); (case q0hd => walk_at "depth"); (case q0hu => walk_at "units"); k_whole); intro _ _ _ _ _ _ _ _ _ _ l1'; (try k_lt l1'); (try (revert l1'; intro _)); (try (first | refine RetQ.ok ?_ | refine RetQ.err ?_)); (try walk_at "fold")))
  k_with "subscriptTail Name Slice ref ref" => ((k_here; (with_reducible show wpAny _ _ (subscriptTail _ (PySem.Expr.Slice _ _ none _) (Value.ref _) (Value.ref _)) _ _ _); k_dflt (refine' slice_two ?q0F ?q0N ?q0t ?_; (case q0F => k_asm); (case q0N => k_asm); (case q0t => exact News.isTup (by k_asm) (by k_mem))); intro _ _ _ _ l1; (try k_lt l1); (try (revert l1; intro _))))
  trivial
theorem c_asked0 {cn : Str} {cs : Scope} {ccd : Value} {La : Addr} {imm : List (Addr × Obj)} {brd lay mem bus str wal tab pgs wd : Addr} {b pg en lg ed f g part fl ad : Int} {tl tt : Toks} {o : Obj} {c : Cs} {t1 t2 t3 t4 t5 : Tok} (C : Ctx w p loose mean mg mb A A₀ (envOf cn cs L La ccd) [] base h₀ L s.heap m ((wd, o) :: imm)) (S : CtxS w p loose mean mg mb [] base h₀) (BR : Brd prog w imm brd lay mem bus str wal tab pgs wd b pg en lg ed tl tt) (ln : LayN b pg en lg ed) (W : WD prog w wd o c) (hni : ∀ p ∈ imm, p.1 ≠ wd) (hc : c.length < 900) (hcv : ∀ i, 0 ≤ kdfLook c i 0 ∧ kdfLook c i 0 < 65536) (hf : 0 ≤ f ∧ f < 4) (hg : 0 ≤ g ∧ g < 4) (hpa : 0 ≤ part ∧ part < 16) (hfl : 0 ≤ fl) (hAD : addrS b f g ((part * pg).fdiv 16) = ad) (ine : 0 ≤ ad ∧ ad < ed) (p1 : 0 ≤ p1S b ad ∧ p1S b ad + 4 ≤ 4 * pg) (p1m : (p1S b ad).fmod 4 = 0) (p2 : v1S (e1S b ad c) = true → leafS (e1S b ad c) = false → (0 ≤ p2S b en ad c ∧ p2S b en ad c + 4 ≤ 4 * pg) ∧ (p2S b en ad c).fmod 4 = 0) (ine2 : 0 ≤ (downS pg ad) ∧ (downS pg ad) < ed) (p1D : 0 ≤ p1S b (downS pg ad) ∧ p1S b (downS pg ad) + 4 ≤ 4 * pg) (p1mD : (p1S b (downS pg ad)).fmod 4 = 0) (p2D : v1S (e1S b (downS pg ad) c) = true → leafS (e1S b (downS pg ad) c) = false → (0 ≤ p2S b en (downS pg ad) c ∧ p2S b en (downS pg ad) c + 4 ≤ 4 * pg) ∧ (p2S b en (downS pg ad) c).fmod 4 = 0) (hd : A.depth ≤ 520) (hu : A.units ≤ 5200)
  (hR : ∀ h' tk (l : Addr) (res : List (Addr × Obj)) (o' : Obj), let st' : Shared := { s with heap := h', toks := tk }; Fr h₀ L h' m → let nw' : List (Addr × Obj) := ((wd, o') :: (res ++ imm)); News h₀ L h' nw' → WD prog w wd o' (ask0 b pg en lg ad fl c).2 → RI res (.ref l) (ask0 b pg en lg ad fl c).1 → (∀ p ∈ res, p.1 ≠ wd) → (∀ p ∈ res, ∀ q ∈ imm, q.1 ≠ p.1) → LastOk res l → R (.ok (.ret (.ref l))) st') :
    codeAny (model prog w) A (.call (.ref 859) ⟨[.ref brd, .int f t1, .int g t2, .int part t3, .int 0 t4, .int fl t5], []⟩) R s := by
  have hbl : brd ≠ L := let ⟨_, ho, _⟩ := BR.hbrd; (C.N _ (List.mem_cons_of_mem _ ho)).2.1
  replace hbl := not_frame (cn := cn) (cs := cs) (L := L) (a := La) (cd := ccd) hbl
  refine' enterX0 (news := [(wd, o)]) (imm := imm) [("board", .ref brd), ("first", .int f t1), ("second", .int g t2), ("part", .int part t3), ("way", .int 0 t4), ("flags", .int fl t5)] C ?hdis ?k6 ?k7 ?k8 ?k9 ?kB ?c2 ?c3 ?c4 ?c5 ?_
  case hdis => exact fun p hp q hq => by rw [List.mem_singleton.mp hq]; exact hni p hp
  walk_at "entered"
  case k9 => walk_at "binds"
  obtain ⟨B, F, X, N, T, hA, hf, hke, hh⟩ := C
  obtain ⟨XB, TB, DD⟩ := S
  intro g' L' h' tk' FG F' N' B' X' T' D' HI
  try dsimp only
  refine foldEnter (f := execs) F' ?_
  clear F'
  intro M9 en9 A9 m9 qk ek st9 F'
  try clear N
  obtain ⟨hb, hp, hen, hlg, hed⟩ := layN_b ln
  have BD := BR.dictG HI
  have D := BR.hlay.has HI
  have M := BR.hmem.has HI
  have Bu := BR.hbus.has HI
  have Wa := BR.hwal.has HI
  have Ta := BR.htab.has HI
  have hne : ∀ p ∈ ([] : List (Addr × Obj)), p.1 ≠ wd := fun p hp => nomatch hp
  have hki := kindS_is fl
  have hpt := part_lt ln hpa
  rcases htr : trA b pg en lg ad fl c with _ | ⟨v0, c0⟩
  · replace htr : TrIs b pg en lg ad fl c none := ⟨htr⟩
    k_steps
    all_goals (try (rename (∀ p : Addr × Obj, p ∈ _ → @LT.lt Nat _ p.1 _) => lq9; replace lq9 := allLt_of lq9; simp +zetaDelta only [AllLt, and_true] at lq9))
    all_goals first
      | (rw [ask0_n htr] at hR
         refine' hR _ _ _ _ _ ?F (news_res (by assumption) (by assumption) own4) ?W ?I ?O ?P ?Z
         case F => k_asm
         case W => assumption
         case I => exact RI.list (.head _) rfl rfl (.cons (RI.str _ _) (.cons (RI.int _ _) (.cons (RI.tup (.tail _ (.head _)) (.cons (RI.int _ _) (.cons (RI.int _ _) .nil))) (.cons (RI.int _ _) .nil))))
         case O => exact off_cons (by (first | assumption | exact (show _ ∧ _ from by assumption).1 | exact (show _ ∧ _ from by assumption).2 | exact (show _ ∧ _ ∧ _ from by assumption).2.1 | exact (show _ ∧ _ ∧ _ from by assumption).2.2 | exact (show _ ∧ _ ∧ _ ∧ _ ∧ _ from by assumption).2.2.2.1 | exact (show _ ∧ _ ∧ _ ∧ _ ∧ _ ∧ _ from by assumption).2.2.2.2.1)) (off_cons (by (first | assumption | exact (show _ ∧ _ from by assumption).1 | exact (show _ ∧ _ from by assumption).2 | exact (show _ ∧ _ ∧ _ from by assumption).2.1 | exact (show _ ∧ _ ∧ _ from by assumption).2.2 | exact (show _ ∧ _ ∧ _ ∧ _ ∧ _ from by assumption).2.2.2.1 | exact (show _ ∧ _ ∧ _ ∧ _ ∧ _ ∧ _ from by assumption).2.2.2.2.1)) off_nil)
         case P => first | exact disj_res (by assumption) HI own4 | exact disj_resT (by assumption) (by assumption) HI own4
         case Z => exact ⟨#[.str _ _, .int _ _, .ref _], .int _ _, 0, .head _, .inr ⟨_, _, rfl⟩⟩)
  · have hv0 := tr_lt ln hcv htr
    replace htr : TrIs b pg en lg ad fl c (some (v0, c0)) := ⟨htr⟩
    k_steps
    all_goals (try (rename (∀ p : Addr × Obj, p ∈ _ → @LT.lt Nat _ p.1 _) => lq9; replace lq9 := allLt_of lq9; simp +zetaDelta only [AllLt, and_true] at lq9))
    all_goals first
      | (rw [ask0_s htr] at hR
         refine' hR _ _ _ _ _ ?F (news_res (by assumption) (by assumption) own2) ?W ?I ?O ?P ?Z
         case F => k_asm
         case W => assumption
         case I => exact RI.list (.head _) rfl rfl (.cons (RI.tup (.tail _ (.head _)) (.cons (RI.int _ _) (.cons (RI.int _ _) .nil))) (.cons (RI.bool_t (beq_self_eq_true v0)) .nil))
         case O => exact off_cons (by (first | assumption | exact (show _ ∧ _ from by assumption).1 | exact (show _ ∧ _ from by assumption).2 | exact (show _ ∧ _ ∧ _ from by assumption).2.1 | exact (show _ ∧ _ ∧ _ from by assumption).2.2 | exact (show _ ∧ _ ∧ _ ∧ _ ∧ _ from by assumption).2.2.2.1 | exact (show _ ∧ _ ∧ _ ∧ _ ∧ _ ∧ _ from by assumption).2.2.2.2.1)) (off_cons (by (first | assumption | exact (show _ ∧ _ from by assumption).1 | exact (show _ ∧ _ from by assumption).2 | exact (show _ ∧ _ ∧ _ from by assumption).2.1 | exact (show _ ∧ _ ∧ _ from by assumption).2.2 | exact (show _ ∧ _ ∧ _ ∧ _ ∧ _ from by assumption).2.2.2.1 | exact (show _ ∧ _ ∧ _ ∧ _ ∧ _ ∧ _ from by assumption).2.2.2.2.1)) off_nil)
         case P => first | exact disj_res (by assumption) HI own2 | exact disj_resT (by assumption) (by assumption) HI own2
         case Z => exact ⟨#[.ref _], .bool _, 0, .head _, .inl (congrArg Value.bool (beq_self_eq_true v0))⟩)
end
end Mine
end W16_0
section W16_1
open PySem PySem.W PyProof.Rows PySem.Calls PySem.Spec PyProof.V
set_option maxRecDepth 100000
set_option maxHeartbeats 8000000
set_option autoImplicit false
namespace Mine


section
variable {prog : Program} {w : World} {p : Program} {loose : List Str} {mean : ExcName → Option Value} {mg mb : Str → Option Value} {A A₀ : Around} {env : Env} {outer : List Env} {base h₀ : Heap} {L : Addr} {m : Str → Option Value} {s : Shared} {news : List (Addr × Obj)} {R : Result → Shared → Prop}
theorem c_asked1 {cn : Str} {cs : Scope} {ccd : Value} {La : Addr} {imm : List (Addr × Obj)} {brd lay mem bus str wal tab pgs wd : Addr} {b pg en lg ed f g part fl ad : Int} {tl tt : Toks} {o : Obj} {c : Cs} {t1 t2 t3 t4 t5 : Tok} (C : Ctx w p loose mean mg mb A A₀ (envOf cn cs L La ccd) [] base h₀ L s.heap m ((wd, o) :: imm)) (S : CtxS w p loose mean mg mb [] base h₀) (BR : Brd prog w imm brd lay mem bus str wal tab pgs wd b pg en lg ed tl tt) (ln : LayN b pg en lg ed) (W : WD prog w wd o c) (hni : ∀ p ∈ imm, p.1 ≠ wd) (hc : c.length < 900) (hcv : ∀ i, 0 ≤ kdfLook c i 0 ∧ kdfLook c i 0 < 65536) (hf : 0 ≤ f ∧ f < 4) (hg : 0 ≤ g ∧ g < 4) (hpa : 0 ≤ part ∧ part < 16) (hfl : 0 ≤ fl) (hAD : addrS b f g ((part * pg).fdiv 16) = ad) (ine : 0 ≤ ad ∧ ad < ed) (p1 : 0 ≤ p1S b ad ∧ p1S b ad + 4 ≤ 4 * pg) (p1m : (p1S b ad).fmod 4 = 0) (p2 : v1S (e1S b ad c) = true → leafS (e1S b ad c) = false → (0 ≤ p2S b en ad c ∧ p2S b en ad c + 4 ≤ 4 * pg) ∧ (p2S b en ad c).fmod 4 = 0) (ine2 : 0 ≤ (downS pg ad) ∧ (downS pg ad) < ed) (p1D : 0 ≤ p1S b (downS pg ad) ∧ p1S b (downS pg ad) + 4 ≤ 4 * pg) (p1mD : (p1S b (downS pg ad)).fmod 4 = 0) (p2D : v1S (e1S b (downS pg ad) c) = true → leafS (e1S b (downS pg ad) c) = false → (0 ≤ p2S b en (downS pg ad) c ∧ p2S b en (downS pg ad) c + 4 ≤ 4 * pg) ∧ (p2S b en (downS pg ad) c).fmod 4 = 0) (hd : A.depth ≤ 520) (hu : A.units ≤ 5200)
  (hR : ∀ h' tk (l : Addr) (res : List (Addr × Obj)) (o' : Obj), let st' : Shared := { s with heap := h', toks := tk }; Fr h₀ L h' m → let nw' : List (Addr × Obj) := ((wd, o') :: (res ++ imm)); News h₀ L h' nw' → WD prog w wd o' (ask1 b pg en lg ad c).2 → RI res (.ref l) (ask1 b pg en lg ad c).1 → (∀ p ∈ res, p.1 ≠ wd) → (∀ p ∈ res, ∀ q ∈ imm, q.1 ≠ p.1) → R (.ok (.ret (.ref l))) st') :
    codeAny (model prog w) A (.call (.ref 859) ⟨[.ref brd, .int f t1, .int g t2, .int part t3, .int 1 t4, .int fl t5], []⟩) R s := by
  have hbl : brd ≠ L := let ⟨_, ho, _⟩ := BR.hbrd; (C.N _ (List.mem_cons_of_mem _ ho)).2.1
  replace hbl := not_frame (cn := cn) (cs := cs) (L := L) (a := La) (cd := ccd) hbl
  refine' enterX0 (news := [(wd, o)]) (imm := imm) [("board", .ref brd), ("first", .int f t1), ("second", .int g t2), ("part", .int part t3), ("way", .int 1 t4), ("flags", .int fl t5)] C ?hdis ?k6 ?k7 ?k8 ?k9 ?kB ?c2 ?c3 ?c4 ?c5 ?_
  case hdis => exact fun p hp q hq => by rw [List.mem_singleton.mp hq]; exact hni p hp
  walk_at "entered"
  case k9 => walk_at "binds"
  obtain ⟨B, F, X, N, T, hA, hf, hke, hh⟩ := C
  obtain ⟨XB, TB, DD⟩ := S
  intro g' L' h' tk' FG F' N' B' X' T' D' HI
  try dsimp only
  refine foldEnter (f := execs) F' ?_
  clear F'
  intro M9 en9 A9 m9 qk ek st9 F'
  try clear N
  obtain ⟨hb, hp, hen, hlg, hed⟩ := layN_b ln
  have BD := BR.dictG HI
  have D := BR.hlay.has HI
  have M := BR.hmem.has HI
  have Bu := BR.hbus.has HI
  have Wa := BR.hwal.has HI
  have Ta := BR.htab.has HI
  have hne : ∀ p ∈ ([] : List (Addr × Obj)), p.1 ≠ wd := fun p hp => nomatch hp
  have hki := kindS_is fl
  have hpt := part_lt ln hpa
  k_steps
  all_goals (try (rename (∀ p : Addr × Obj, p ∈ _ → @LT.lt Nat _ p.1 _) => lq9; replace lq9 := allLt_of lq9; simp +zetaDelta only [AllLt, and_true] at lq9))
  all_goals first
    | (rw [ask1_n (by assumption)] at hR
       refine' hR _ _ _ _ _ ?F (news_res (by assumption) (by assumption) own1) ?W ?I ?O ?P
       case F => k_asm
       case W => assumption
       case I => exact RI.list (.head _) rfl rfl (.cons (RI.int _ _) (.cons RI.none .nil))
       case O => exact off_cons (by (first | assumption | exact (show _ ∧ _ from by assumption).1 | exact (show _ ∧ _ from by assumption).2 | exact (show _ ∧ _ ∧ _ from by assumption).2.1 | exact (show _ ∧ _ ∧ _ from by assumption).2.2 | exact (show _ ∧ _ ∧ _ ∧ _ ∧ _ from by assumption).2.2.2.1 | exact (show _ ∧ _ ∧ _ ∧ _ ∧ _ ∧ _ from by assumption).2.2.2.2.1)) off_nil
       case P => first | exact disj_res (by assumption) HI own1 | exact disj_resT (by assumption) (by assumption) HI own1)
    | (rw [ask1_s (by assumption)] at hR
       refine' hR _ _ _ _ _ ?F (news_res (by assumption) (by assumption) own2) ?W ?I ?O ?P
       case F => k_asm
       case W => assumption
       case I => exact RI.list (.head _) rfl rfl (.cons (RI.int _ _) (.cons (RI.tup (.tail _ (.head _)) (.cons (RI.int _ _) (.cons (RI.int _ _) .nil))) .nil))
       case O => exact off_cons (by (first | assumption | exact (show _ ∧ _ from by assumption).1 | exact (show _ ∧ _ from by assumption).2 | exact (show _ ∧ _ ∧ _ from by assumption).2.1 | exact (show _ ∧ _ ∧ _ from by assumption).2.2 | exact (show _ ∧ _ ∧ _ ∧ _ ∧ _ from by assumption).2.2.2.1 | exact (show _ ∧ _ ∧ _ ∧ _ ∧ _ ∧ _ from by assumption).2.2.2.2.1)) (off_cons (by (first | assumption | exact (show _ ∧ _ from by assumption).1 | exact (show _ ∧ _ from by assumption).2 | exact (show _ ∧ _ ∧ _ from by assumption).2.1 | exact (show _ ∧ _ ∧ _ from by assumption).2.2 | exact (show _ ∧ _ ∧ _ ∧ _ ∧ _ from by assumption).2.2.2.1 | exact (show _ ∧ _ ∧ _ ∧ _ ∧ _ ∧ _ from by assumption).2.2.2.2.1)) off_nil)
       case P => first | exact disj_res (by assumption) HI own2 | exact disj_resT (by assumption) (by assumption) HI own2)
end
end Mine
end W16_1
section W16_2
open PySem PySem.W PyProof.Rows PySem.Calls PySem.Spec PyProof.V
set_option maxRecDepth 100000
set_option maxHeartbeats 8000000
set_option autoImplicit false
namespace Mine


section
variable {prog : Program} {w : World} {p : Program} {loose : List Str} {mean : ExcName → Option Value} {mg mb : Str → Option Value} {A A₀ : Around} {env : Env} {outer : List Env} {base h₀ : Heap} {L : Addr} {m : Str → Option Value} {s : Shared} {news : List (Addr × Obj)} {R : Result → Shared → Prop}
theorem c_asked2 {cn : Str} {cs : Scope} {ccd : Value} {La : Addr} {imm : List (Addr × Obj)} {brd lay mem bus str wal tab pgs wd : Addr} {b pg en lg ed f g part fl ad : Int} {tl tt : Toks} {o : Obj} {c : Cs} {t1 t2 t3 t4 t5 : Tok} (C : Ctx w p loose mean mg mb A A₀ (envOf cn cs L La ccd) [] base h₀ L s.heap m ((wd, o) :: imm)) (S : CtxS w p loose mean mg mb [] base h₀) (BR : Brd prog w imm brd lay mem bus str wal tab pgs wd b pg en lg ed tl tt) (ln : LayN b pg en lg ed) (W : WD prog w wd o c) (hni : ∀ p ∈ imm, p.1 ≠ wd) (hc : c.length < 900) (hcv : ∀ i, 0 ≤ kdfLook c i 0 ∧ kdfLook c i 0 < 65536) (hf : 0 ≤ f ∧ f < 4) (hg : 0 ≤ g ∧ g < 4) (hpa : 0 ≤ part ∧ part < 16) (hfl : 0 ≤ fl) (hAD : addrS b f g ((part * pg).fdiv 16) = ad) (ine : 0 ≤ ad ∧ ad < ed) (p1 : 0 ≤ p1S b ad ∧ p1S b ad + 4 ≤ 4 * pg) (p1m : (p1S b ad).fmod 4 = 0) (p2 : v1S (e1S b ad c) = true → leafS (e1S b ad c) = false → (0 ≤ p2S b en ad c ∧ p2S b en ad c + 4 ≤ 4 * pg) ∧ (p2S b en ad c).fmod 4 = 0) (ine2 : 0 ≤ (downS pg ad) ∧ (downS pg ad) < ed) (p1D : 0 ≤ p1S b (downS pg ad) ∧ p1S b (downS pg ad) + 4 ≤ 4 * pg) (p1mD : (p1S b (downS pg ad)).fmod 4 = 0) (p2D : v1S (e1S b (downS pg ad) c) = true → leafS (e1S b (downS pg ad) c) = false → (0 ≤ p2S b en (downS pg ad) c ∧ p2S b en (downS pg ad) c + 4 ≤ 4 * pg) ∧ (p2S b en (downS pg ad) c).fmod 4 = 0) (hd : A.depth ≤ 520) (hu : A.units ≤ 5200)
  (hR : ∀ h' tk (l : Addr) (res : List (Addr × Obj)) (o' : Obj), let st' : Shared := { s with heap := h', toks := tk }; Fr h₀ L h' m → let nw' : List (Addr × Obj) := ((wd, o') :: (res ++ imm)); News h₀ L h' nw' → WD prog w wd o' (ask2 b pg en ad c).2 → RI res (.ref l) (ask2 b pg en ad c).1 → (∀ p ∈ res, p.1 ≠ wd) → (∀ p ∈ res, ∀ q ∈ imm, q.1 ≠ p.1) → R (.ok (.ret (.ref l))) st') :
    codeAny (model prog w) A (.call (.ref 859) ⟨[.ref brd, .int f t1, .int g t2, .int part t3, .int 2 t4, .int fl t5], []⟩) R s := by
  have hbl : brd ≠ L := let ⟨_, ho, _⟩ := BR.hbrd; (C.N _ (List.mem_cons_of_mem _ ho)).2.1
  replace hbl := not_frame (cn := cn) (cs := cs) (L := L) (a := La) (cd := ccd) hbl
  refine' enterX0 (news := [(wd, o)]) (imm := imm) [("board", .ref brd), ("first", .int f t1), ("second", .int g t2), ("part", .int part t3), ("way", .int 2 t4), ("flags", .int fl t5)] C ?hdis ?k6 ?k7 ?k8 ?k9 ?kB ?c2 ?c3 ?c4 ?c5 ?_
  case hdis => exact fun p hp q hq => by rw [List.mem_singleton.mp hq]; exact hni p hp
  walk_at "entered"
  case k9 => walk_at "binds"
  obtain ⟨B, F, X, N, T, hA, hf, hke, hh⟩ := C
  obtain ⟨XB, TB, DD⟩ := S
  intro g' L' h' tk' FG F' N' B' X' T' D' HI
  try dsimp only
  refine foldEnter (f := execs) F' ?_
  clear F'
  intro M9 en9 A9 m9 qk ek st9 F'
  try clear N
  obtain ⟨hb, hp, hen, hlg, hed⟩ := layN_b ln
  have BD := BR.dictG HI
  have D := BR.hlay.has HI
  have M := BR.hmem.has HI
  have Bu := BR.hbus.has HI
  have Wa := BR.hwal.has HI
  have Ta := BR.htab.has HI
  have hne : ∀ p ∈ ([] : List (Addr × Obj)), p.1 ≠ wd := fun p hp => nomatch hp
  have hki := kindS_is fl
  have hpt := part_lt ln hpa
  k_steps
  all_goals (try (rename (∀ p : Addr × Obj, p ∈ _ → @LT.lt Nat _ p.1 _) => lq9; replace lq9 := allLt_of lq9; simp +zetaDelta only [AllLt, and_true] at lq9))
  all_goals first
    | (rw [ask2_t (by assumption)] at hR
       refine' hR _ _ _ _ _ ?F (news_res (by assumption) (by assumption) own1) ?W ?I ?O ?P
       case F => k_asm
       case W => assumption
       case I => exact RI.list (.head _) rfl rfl (.cons (RI.int _ _) .nil)
       case O => exact off_cons (by (first | assumption | exact (show _ ∧ _ from by assumption).1 | exact (show _ ∧ _ from by assumption).2 | exact (show _ ∧ _ ∧ _ from by assumption).2.1 | exact (show _ ∧ _ ∧ _ from by assumption).2.2 | exact (show _ ∧ _ ∧ _ ∧ _ ∧ _ from by assumption).2.2.2.1 | exact (show _ ∧ _ ∧ _ ∧ _ ∧ _ ∧ _ from by assumption).2.2.2.2.1)) off_nil
       case P => first | exact disj_res (by assumption) HI own1 | exact disj_resT (by assumption) (by assumption) HI own1)
    | (rw [ask2_f (by assumption)] at hR
       refine' hR _ _ _ _ _ ?F (news_res (by assumption) (by assumption) own1) ?W ?I ?O ?P
       case F => k_asm
       case W => assumption
       case I => exact RI.list (.head _) rfl rfl (.cons (RI.str _ _) .nil)
       case O => exact off_cons (by (first | assumption | exact (show _ ∧ _ from by assumption).1 | exact (show _ ∧ _ from by assumption).2 | exact (show _ ∧ _ ∧ _ from by assumption).2.1 | exact (show _ ∧ _ ∧ _ from by assumption).2.2 | exact (show _ ∧ _ ∧ _ ∧ _ ∧ _ from by assumption).2.2.2.1 | exact (show _ ∧ _ ∧ _ ∧ _ ∧ _ ∧ _ from by assumption).2.2.2.2.1)) off_nil
       case P => first | exact disj_res (by assumption) HI own1 | exact disj_resT (by assumption) (by assumption) HI own1)
    | (rw [ask2_f (by assumption)] at hR
       refine' hR _ _ _ _ _ ?F (news_res (by assumption) (by assumption) own3) ?W ?I ?O ?P
       case F => k_asm
       case W => assumption
       case I => exact RI.list (.head _) rfl rfl (.cons (RI.str _ _) .nil)
       case O => exact off_cons (by (first | assumption | exact (show _ ∧ _ from by assumption).1 | exact (show _ ∧ _ from by assumption).2 | exact (show _ ∧ _ ∧ _ from by assumption).2.1 | exact (show _ ∧ _ ∧ _ from by assumption).2.2 | exact (show _ ∧ _ ∧ _ ∧ _ ∧ _ from by assumption).2.2.2.1 | exact (show _ ∧ _ ∧ _ ∧ _ ∧ _ ∧ _ from by assumption).2.2.2.2.1)) off_nil
       case P => first | exact disj_res (by assumption) HI own3 | exact disj_resT (by assumption) (by assumption) HI own3)
    | (rw [ask2_f (by assumption)] at hR
       refine' hR _ _ _ _ _ ?F (news_res (by assumption) (by assumption) own5) ?W ?I ?O ?P
       case F => k_asm
       case W => assumption
       case I => exact RI.list (.head _) rfl rfl (.cons (RI.str _ _) .nil)
       case O => exact off_cons (by (first | assumption | exact (show _ ∧ _ from by assumption).1 | exact (show _ ∧ _ from by assumption).2 | exact (show _ ∧ _ ∧ _ from by assumption).2.1 | exact (show _ ∧ _ ∧ _ from by assumption).2.2 | exact (show _ ∧ _ ∧ _ ∧ _ ∧ _ from by assumption).2.2.2.1 | exact (show _ ∧ _ ∧ _ ∧ _ ∧ _ ∧ _ from by assumption).2.2.2.2.1)) off_nil
       case P => first | exact disj_res (by assumption) HI own5 | exact disj_resT (by assumption) (by assumption) HI own5)
    | (rw [ask2_f (by assumption)] at hR
       refine' hR _ _ _ _ _ ?F (news_res (by assumption) (by assumption) own6) ?W ?I ?O ?P
       case F => k_asm
       case W => assumption
       case I => exact RI.list (.head _) rfl rfl (.cons (RI.str _ _) .nil)
       case O => exact off_cons (by (first | assumption | exact (show _ ∧ _ from by assumption).1 | exact (show _ ∧ _ from by assumption).2 | exact (show _ ∧ _ ∧ _ from by assumption).2.1 | exact (show _ ∧ _ ∧ _ from by assumption).2.2 | exact (show _ ∧ _ ∧ _ ∧ _ ∧ _ from by assumption).2.2.2.1 | exact (show _ ∧ _ ∧ _ ∧ _ ∧ _ ∧ _ from by assumption).2.2.2.2.1)) off_nil
       case P => first | exact disj_res (by assumption) HI own6 | exact disj_resT (by assumption) (by assumption) HI own6)
end
end Mine
end W16_2
section W16_3
open PySem PySem.W PyProof.Rows PySem.Calls PySem.Spec PyProof.V
set_option maxRecDepth 100000
set_option maxHeartbeats 8000000
set_option autoImplicit false
namespace Mine


section
variable {prog : Program} {w : World} {p : Program} {loose : List Str} {mean : ExcName → Option Value} {mg mb : Str → Option Value} {A A₀ : Around} {env : Env} {outer : List Env} {base h₀ : Heap} {L : Addr} {m : Str → Option Value} {s : Shared} {news : List (Addr × Obj)} {R : Result → Shared → Prop}
theorem c_asked3 {cn : Str} {cs : Scope} {ccd : Value} {La : Addr} {imm : List (Addr × Obj)} {brd lay mem bus str wal tab pgs wd : Addr} {b pg en lg ed f g part fl ad : Int} {tl tt : Toks} {o : Obj} {c : Cs} {t1 t2 t3 t4 t5 : Tok} (C : Ctx w p loose mean mg mb A A₀ (envOf cn cs L La ccd) [] base h₀ L s.heap m ((wd, o) :: imm)) (S : CtxS w p loose mean mg mb [] base h₀) (BR : Brd prog w imm brd lay mem bus str wal tab pgs wd b pg en lg ed tl tt) (ln : LayN b pg en lg ed) (W : WD prog w wd o c) (hni : ∀ p ∈ imm, p.1 ≠ wd) (hc : c.length < 900) (hcv : ∀ i, 0 ≤ kdfLook c i 0 ∧ kdfLook c i 0 < 65536) (hf : 0 ≤ f ∧ f < 4) (hg : 0 ≤ g ∧ g < 4) (hpa : 0 ≤ part ∧ part < 16) (hfl : 0 ≤ fl) (hAD : addrS b f g ((part * pg).fdiv 16) = ad) (ine : 0 ≤ ad ∧ ad < ed) (p1 : 0 ≤ p1S b ad ∧ p1S b ad + 4 ≤ 4 * pg) (p1m : (p1S b ad).fmod 4 = 0) (p2 : v1S (e1S b ad c) = true → leafS (e1S b ad c) = false → (0 ≤ p2S b en ad c ∧ p2S b en ad c + 4 ≤ 4 * pg) ∧ (p2S b en ad c).fmod 4 = 0) (ine2 : 0 ≤ (downS pg ad) ∧ (downS pg ad) < ed) (p1D : 0 ≤ p1S b (downS pg ad) ∧ p1S b (downS pg ad) + 4 ≤ 4 * pg) (p1mD : (p1S b (downS pg ad)).fmod 4 = 0) (p2D : v1S (e1S b (downS pg ad) c) = true → leafS (e1S b (downS pg ad) c) = false → (0 ≤ p2S b en (downS pg ad) c ∧ p2S b en (downS pg ad) c + 4 ≤ 4 * pg) ∧ (p2S b en (downS pg ad) c).fmod 4 = 0) (hd : A.depth ≤ 520) (hu : A.units ≤ 5200)
  (hR : ∀ h' tk (l : Addr) (res : List (Addr × Obj)) (o' : Obj), let st' : Shared := { s with heap := h', toks := tk }; Fr h₀ L h' m → let nw' : List (Addr × Obj) := ((wd, o') :: (res ++ imm)); News h₀ L h' nw' → WD prog w wd o' (ask3 b pg en ad fl c).2 → RI res (.ref l) (ask3 b pg en ad fl c).1 → (∀ p ∈ res, p.1 ≠ wd) → (∀ p ∈ res, ∀ q ∈ imm, q.1 ≠ p.1) → R (.ok (.ret (.ref l))) st') :
    codeAny (model prog w) A (.call (.ref 859) ⟨[.ref brd, .int f t1, .int g t2, .int part t3, .int 3 t4, .int fl t5], []⟩) R s := by
  have hbl : brd ≠ L := let ⟨_, ho, _⟩ := BR.hbrd; (C.N _ (List.mem_cons_of_mem _ ho)).2.1
  replace hbl := not_frame (cn := cn) (cs := cs) (L := L) (a := La) (cd := ccd) hbl
  refine' enterX0 (news := [(wd, o)]) (imm := imm) [("board", .ref brd), ("first", .int f t1), ("second", .int g t2), ("part", .int part t3), ("way", .int 3 t4), ("flags", .int fl t5)] C ?hdis ?k6 ?k7 ?k8 ?k9 ?kB ?c2 ?c3 ?c4 ?c5 ?_
  case hdis => exact fun p hp q hq => by rw [List.mem_singleton.mp hq]; exact hni p hp
  walk_at "entered"
  case k9 => walk_at "binds"
  obtain ⟨B, F, X, N, T, hA, hf, hke, hh⟩ := C
  obtain ⟨XB, TB, DD⟩ := S
  intro g' L' h' tk' FG F' N' B' X' T' D' HI
  try dsimp only
  refine foldEnter (f := execs) F' ?_
  clear F'
  intro M9 en9 A9 m9 qk ek st9 F'
  try clear N
  obtain ⟨hb, hp, hen, hlg, hed⟩ := layN_b ln
  have BD := BR.dictG HI
  have D := BR.hlay.has HI
  have M := BR.hmem.has HI
  have Bu := BR.hbus.has HI
  have Wa := BR.hwal.has HI
  have Ta := BR.htab.has HI
  have hne : ∀ p ∈ ([] : List (Addr × Obj)), p.1 ≠ wd := fun p hp => nomatch hp
  have hki := kindS_is fl
  have hpt := part_lt ln hpa
  have ha3 := addS_lt fl
  have ht3 := takeS_lt fl
  k_steps
  all_goals (try (rename (∀ p : Addr × Obj, p ∈ _ → @LT.lt Nat _ p.1 _) => lq9; replace lq9 := allLt_of lq9; simp +zetaDelta only [AllLt, and_true] at lq9))
  all_goals first
    | (rw [ask3_t (by assumption) (by assumption)] at hR
       refine' hR _ _ _ _ _ ?F (news_res (by assumption) (by assumption) own1) ?W ?I ?O ?P
       case F => k_asm
       case W => assumption
       case I => exact RI.list (.head _) rfl rfl (.cons (RI.int _ _) .nil)
       case O => exact off_cons (by (first | assumption | exact (show _ ∧ _ from by assumption).1 | exact (show _ ∧ _ from by assumption).2 | exact (show _ ∧ _ ∧ _ from by assumption).2.1 | exact (show _ ∧ _ ∧ _ from by assumption).2.2 | exact (show _ ∧ _ ∧ _ ∧ _ ∧ _ from by assumption).2.2.2.1 | exact (show _ ∧ _ ∧ _ ∧ _ ∧ _ ∧ _ from by assumption).2.2.2.2.1)) off_nil
       case P => first | exact disj_res (by assumption) HI own1 | exact disj_resT (by assumption) (by assumption) HI own1)
    | (rw [ask3_t (by assumption) (by assumption)] at hR
       refine' hR _ _ _ _ _ ?F (news_res (by assumption) (by assumption) own3) ?W ?I ?O ?P
       case F => k_asm
       case W => assumption
       case I => exact RI.list (.head _) rfl rfl (.cons (RI.int _ _) .nil)
       case O => exact off_cons (by (first | assumption | exact (show _ ∧ _ from by assumption).1 | exact (show _ ∧ _ from by assumption).2 | exact (show _ ∧ _ ∧ _ from by assumption).2.1 | exact (show _ ∧ _ ∧ _ from by assumption).2.2 | exact (show _ ∧ _ ∧ _ ∧ _ ∧ _ from by assumption).2.2.2.1 | exact (show _ ∧ _ ∧ _ ∧ _ ∧ _ ∧ _ from by assumption).2.2.2.2.1)) off_nil
       case P => first | exact disj_res (by assumption) HI own3 | exact disj_resT (by assumption) (by assumption) HI own3)
    | (rw [ask3_t (by assumption) (by assumption)] at hR
       refine' hR _ _ _ _ _ ?F (news_res (by assumption) (by assumption) own5) ?W ?I ?O ?P
       case F => k_asm
       case W => assumption
       case I => exact RI.list (.head _) rfl rfl (.cons (RI.int _ _) .nil)
       case O => exact off_cons (by (first | assumption | exact (show _ ∧ _ from by assumption).1 | exact (show _ ∧ _ from by assumption).2 | exact (show _ ∧ _ ∧ _ from by assumption).2.1 | exact (show _ ∧ _ ∧ _ from by assumption).2.2 | exact (show _ ∧ _ ∧ _ ∧ _ ∧ _ from by assumption).2.2.2.1 | exact (show _ ∧ _ ∧ _ ∧ _ ∧ _ ∧ _ from by assumption).2.2.2.2.1)) off_nil
       case P => first | exact disj_res (by assumption) HI own5 | exact disj_resT (by assumption) (by assumption) HI own5)
    | (rw [ask3_t (by assumption) (by assumption)] at hR
       refine' hR _ _ _ _ _ ?F (news_res (by assumption) (by assumption) own6) ?W ?I ?O ?P
       case F => k_asm
       case W => assumption
       case I => exact RI.list (.head _) rfl rfl (.cons (RI.int _ _) .nil)
       case O => exact off_cons (by (first | assumption | exact (show _ ∧ _ from by assumption).1 | exact (show _ ∧ _ from by assumption).2 | exact (show _ ∧ _ ∧ _ from by assumption).2.1 | exact (show _ ∧ _ ∧ _ from by assumption).2.2 | exact (show _ ∧ _ ∧ _ ∧ _ ∧ _ from by assumption).2.2.2.1 | exact (show _ ∧ _ ∧ _ ∧ _ ∧ _ ∧ _ from by assumption).2.2.2.2.1)) off_nil
       case P => first | exact disj_res (by assumption) HI own6 | exact disj_resT (by assumption) (by assumption) HI own6)
    | (rw [ask3_f (by assumption)] at hR
       refine' hR _ _ _ _ _ ?F (news_res (by assumption) (by assumption) own1) ?W ?I ?O ?P
       case F => k_asm
       case W => assumption
       case I => exact RI.list (.head _) rfl rfl (.cons (RI.str _ _) .nil)
       case O => exact off_cons (by (first | assumption | exact (show _ ∧ _ from by assumption).1 | exact (show _ ∧ _ from by assumption).2 | exact (show _ ∧ _ ∧ _ from by assumption).2.1 | exact (show _ ∧ _ ∧ _ from by assumption).2.2 | exact (show _ ∧ _ ∧ _ ∧ _ ∧ _ from by assumption).2.2.2.1 | exact (show _ ∧ _ ∧ _ ∧ _ ∧ _ ∧ _ from by assumption).2.2.2.2.1)) off_nil
       case P => first | exact disj_res (by assumption) HI own1 | exact disj_resT (by assumption) (by assumption) HI own1)
    | (rw [ask3_f (by assumption)] at hR
       refine' hR _ _ _ _ _ ?F (news_res (by assumption) (by assumption) own3) ?W ?I ?O ?P
       case F => k_asm
       case W => assumption
       case I => exact RI.list (.head _) rfl rfl (.cons (RI.str _ _) .nil)
       case O => exact off_cons (by (first | assumption | exact (show _ ∧ _ from by assumption).1 | exact (show _ ∧ _ from by assumption).2 | exact (show _ ∧ _ ∧ _ from by assumption).2.1 | exact (show _ ∧ _ ∧ _ from by assumption).2.2 | exact (show _ ∧ _ ∧ _ ∧ _ ∧ _ from by assumption).2.2.2.1 | exact (show _ ∧ _ ∧ _ ∧ _ ∧ _ ∧ _ from by assumption).2.2.2.2.1)) off_nil
       case P => first | exact disj_res (by assumption) HI own3 | exact disj_resT (by assumption) (by assumption) HI own3)
    | (rw [ask3_f (by assumption)] at hR
       refine' hR _ _ _ _ _ ?F (news_res (by assumption) (by assumption) own5) ?W ?I ?O ?P
       case F => k_asm
       case W => assumption
       case I => exact RI.list (.head _) rfl rfl (.cons (RI.str _ _) .nil)
       case O => exact off_cons (by (first | assumption | exact (show _ ∧ _ from by assumption).1 | exact (show _ ∧ _ from by assumption).2 | exact (show _ ∧ _ ∧ _ from by assumption).2.1 | exact (show _ ∧ _ ∧ _ from by assumption).2.2 | exact (show _ ∧ _ ∧ _ ∧ _ ∧ _ from by assumption).2.2.2.1 | exact (show _ ∧ _ ∧ _ ∧ _ ∧ _ ∧ _ from by assumption).2.2.2.2.1)) off_nil
       case P => first | exact disj_res (by assumption) HI own5 | exact disj_resT (by assumption) (by assumption) HI own5)
    | (rw [ask3_f (by assumption)] at hR
       refine' hR _ _ _ _ _ ?F (news_res (by assumption) (by assumption) own6) ?W ?I ?O ?P
       case F => k_asm
       case W => assumption
       case I => exact RI.list (.head _) rfl rfl (.cons (RI.str _ _) .nil)
       case O => exact off_cons (by (first | assumption | exact (show _ ∧ _ from by assumption).1 | exact (show _ ∧ _ from by assumption).2 | exact (show _ ∧ _ ∧ _ from by assumption).2.1 | exact (show _ ∧ _ ∧ _ from by assumption).2.2 | exact (show _ ∧ _ ∧ _ ∧ _ ∧ _ from by assumption).2.2.2.1 | exact (show _ ∧ _ ∧ _ ∧ _ ∧ _ ∧ _ from by assumption).2.2.2.2.1)) off_nil
       case P => first | exact disj_res (by assumption) HI own6 | exact disj_resT (by assumption) (by assumption) HI own6)
end
end Mine
end W16_3
section W16_4
open PySem PySem.W PyProof.Rows PySem.Calls PySem.Spec PyProof.V
set_option maxRecDepth 100000
set_option maxHeartbeats 8000000
set_option autoImplicit false
namespace Mine


section
variable {prog : Program} {w : World} {p : Program} {loose : List Str} {mean : ExcName → Option Value} {mg mb : Str → Option Value} {A A₀ : Around} {env : Env} {outer : List Env} {base h₀ : Heap} {L : Addr} {m : Str → Option Value} {s : Shared} {news : List (Addr × Obj)} {R : Result → Shared → Prop}
theorem c_asked4 {cn : Str} {cs : Scope} {ccd : Value} {La : Addr} {imm : List (Addr × Obj)} {brd lay mem bus str wal tab pgs wd : Addr} {b pg en lg ed f g part fl ad : Int} {tl tt : Toks} {o : Obj} {c : Cs} {t1 t2 t3 t4 t5 : Tok} (C : Ctx w p loose mean mg mb A A₀ (envOf cn cs L La ccd) [] base h₀ L s.heap m ((wd, o) :: imm)) (S : CtxS w p loose mean mg mb [] base h₀) (BR : Brd prog w imm brd lay mem bus str wal tab pgs wd b pg en lg ed tl tt) (ln : LayN b pg en lg ed) (W : WD prog w wd o c) (hni : ∀ p ∈ imm, p.1 ≠ wd) (hc : c.length < 900) (hcv : ∀ i, 0 ≤ kdfLook c i 0 ∧ kdfLook c i 0 < 65536) (hf : 0 ≤ f ∧ f < 4) (hg : 0 ≤ g ∧ g < 4) (hpa : 0 ≤ part ∧ part < 16) (hfl : 0 ≤ fl) (hAD : addrS b f g ((part * pg).fdiv 16) = ad) (ine : 0 ≤ ad ∧ ad < ed) (p1 : 0 ≤ p1S b ad ∧ p1S b ad + 4 ≤ 4 * pg) (p1m : (p1S b ad).fmod 4 = 0) (p2 : v1S (e1S b ad c) = true → leafS (e1S b ad c) = false → (0 ≤ p2S b en ad c ∧ p2S b en ad c + 4 ≤ 4 * pg) ∧ (p2S b en ad c).fmod 4 = 0) (ine2 : 0 ≤ (downS pg ad) ∧ (downS pg ad) < ed) (p1D : 0 ≤ p1S b (downS pg ad) ∧ p1S b (downS pg ad) + 4 ≤ 4 * pg) (p1mD : (p1S b (downS pg ad)).fmod 4 = 0) (p2D : v1S (e1S b (downS pg ad) c) = true → leafS (e1S b (downS pg ad) c) = false → (0 ≤ p2S b en (downS pg ad) c ∧ p2S b en (downS pg ad) c + 4 ≤ 4 * pg) ∧ (p2S b en (downS pg ad) c).fmod 4 = 0) (hd : A.depth ≤ 520) (hu : A.units ≤ 5200)
  (hR : ∀ h' tk (l : Addr) (res : List (Addr × Obj)) (o' : Obj), let st' : Shared := { s with heap := h', toks := tk }; Fr h₀ L h' m → let nw' : List (Addr × Obj) := ((wd, o') :: (res ++ imm)); News h₀ L h' nw' → WD prog w wd o' (ask4 b pg en ad fl c).2 → RI res (.ref l) (ask4 b pg en ad fl c).1 → (∀ p ∈ res, p.1 ≠ wd) → (∀ p ∈ res, ∀ q ∈ imm, q.1 ≠ p.1) → R (.ok (.ret (.ref l))) st') :
    codeAny (model prog w) A (.call (.ref 859) ⟨[.ref brd, .int f t1, .int g t2, .int part t3, .int 4 t4, .int fl t5], []⟩) R s := by
  have hbl : brd ≠ L := let ⟨_, ho, _⟩ := BR.hbrd; (C.N _ (List.mem_cons_of_mem _ ho)).2.1
  replace hbl := not_frame (cn := cn) (cs := cs) (L := L) (a := La) (cd := ccd) hbl
  refine' enterX0 (news := [(wd, o)]) (imm := imm) [("board", .ref brd), ("first", .int f t1), ("second", .int g t2), ("part", .int part t3), ("way", .int 4 t4), ("flags", .int fl t5)] C ?hdis ?k6 ?k7 ?k8 ?k9 ?kB ?c2 ?c3 ?c4 ?c5 ?_
  case hdis => exact fun p hp q hq => by rw [List.mem_singleton.mp hq]; exact hni p hp
  walk_at "entered"
  case k9 => walk_at "binds"
  obtain ⟨B, F, X, N, T, hA, hf, hke, hh⟩ := C
  obtain ⟨XB, TB, DD⟩ := S
  intro g' L' h' tk' FG F' N' B' X' T' D' HI
  try dsimp only
  refine foldEnter (f := execs) F' ?_
  clear F'
  intro M9 en9 A9 m9 qk ek st9 F'
  try clear N
  obtain ⟨hb, hp, hen, hlg, hed⟩ := layN_b ln
  have BD := BR.dictG HI
  have D := BR.hlay.has HI
  have M := BR.hmem.has HI
  have Bu := BR.hbus.has HI
  have Wa := BR.hwal.has HI
  have Ta := BR.htab.has HI
  have hne : ∀ p ∈ ([] : List (Addr × Obj)), p.1 ≠ wd := fun p hp => nomatch hp
  have hki := kindS_is fl
  have hpt := part_lt ln hpa
  have hm4 := mvS_lt fl
  have hp4 := mvp_ok (fl := fl) ln
  have hq4 := mvp_pO (fl := fl) ln
  k_steps
  all_goals (try (rename (∀ p : Addr × Obj, p ∈ _ → @LT.lt Nat _ p.1 _) => lq9; replace lq9 := allLt_of lq9; simp +zetaDelta only [AllLt, and_true] at lq9))
  all_goals first
    | (rw [ask4_t (by assumption) (by assumption)] at hR
       refine' hR _ _ _ _ _ ?F (news_res (by assumption) (by assumption) own1) ?W ?I ?O ?P
       case F => k_asm
       case W => assumption
       case I => exact RI.list (.head _) rfl rfl (.cons (RI.int _ _) .nil)
       case O => exact off_cons (by (first | assumption | exact (show _ ∧ _ from by assumption).1 | exact (show _ ∧ _ from by assumption).2 | exact (show _ ∧ _ ∧ _ from by assumption).2.1 | exact (show _ ∧ _ ∧ _ from by assumption).2.2 | exact (show _ ∧ _ ∧ _ ∧ _ ∧ _ from by assumption).2.2.2.1 | exact (show _ ∧ _ ∧ _ ∧ _ ∧ _ ∧ _ from by assumption).2.2.2.2.1)) off_nil
       case P => first | exact disj_res (by assumption) HI own1 | exact disj_resT (by assumption) (by assumption) HI own1)
    | (rw [ask4_t (by assumption) (by assumption)] at hR
       refine' hR _ _ _ _ _ ?F (news_res (by assumption) (by assumption) own3) ?W ?I ?O ?P
       case F => k_asm
       case W => assumption
       case I => exact RI.list (.head _) rfl rfl (.cons (RI.int _ _) .nil)
       case O => exact off_cons (by (first | assumption | exact (show _ ∧ _ from by assumption).1 | exact (show _ ∧ _ from by assumption).2 | exact (show _ ∧ _ ∧ _ from by assumption).2.1 | exact (show _ ∧ _ ∧ _ from by assumption).2.2 | exact (show _ ∧ _ ∧ _ ∧ _ ∧ _ from by assumption).2.2.2.1 | exact (show _ ∧ _ ∧ _ ∧ _ ∧ _ ∧ _ from by assumption).2.2.2.2.1)) off_nil
       case P => first | exact disj_res (by assumption) HI own3 | exact disj_resT (by assumption) (by assumption) HI own3)
    | (rw [ask4_t (by assumption) (by assumption)] at hR
       refine' hR _ _ _ _ _ ?F (news_res (by assumption) (by assumption) own5) ?W ?I ?O ?P
       case F => k_asm
       case W => assumption
       case I => exact RI.list (.head _) rfl rfl (.cons (RI.int _ _) .nil)
       case O => exact off_cons (by (first | assumption | exact (show _ ∧ _ from by assumption).1 | exact (show _ ∧ _ from by assumption).2 | exact (show _ ∧ _ ∧ _ from by assumption).2.1 | exact (show _ ∧ _ ∧ _ from by assumption).2.2 | exact (show _ ∧ _ ∧ _ ∧ _ ∧ _ from by assumption).2.2.2.1 | exact (show _ ∧ _ ∧ _ ∧ _ ∧ _ ∧ _ from by assumption).2.2.2.2.1)) off_nil
       case P => first | exact disj_res (by assumption) HI own5 | exact disj_resT (by assumption) (by assumption) HI own5)
    | (rw [ask4_t (by assumption) (by assumption)] at hR
       refine' hR _ _ _ _ _ ?F (news_res (by assumption) (by assumption) own6) ?W ?I ?O ?P
       case F => k_asm
       case W => assumption
       case I => exact RI.list (.head _) rfl rfl (.cons (RI.int _ _) .nil)
       case O => exact off_cons (by (first | assumption | exact (show _ ∧ _ from by assumption).1 | exact (show _ ∧ _ from by assumption).2 | exact (show _ ∧ _ ∧ _ from by assumption).2.1 | exact (show _ ∧ _ ∧ _ from by assumption).2.2 | exact (show _ ∧ _ ∧ _ ∧ _ ∧ _ from by assumption).2.2.2.1 | exact (show _ ∧ _ ∧ _ ∧ _ ∧ _ ∧ _ from by assumption).2.2.2.2.1)) off_nil
       case P => first | exact disj_res (by assumption) HI own6 | exact disj_resT (by assumption) (by assumption) HI own6)
    | (rw [ask4_f (by assumption)] at hR
       refine' hR _ _ _ _ _ ?F (news_res (by assumption) (by assumption) own1) ?W ?I ?O ?P
       case F => k_asm
       case W => assumption
       case I => exact RI.list (.head _) rfl rfl (.cons (RI.str _ _) .nil)
       case O => exact off_cons (by (first | assumption | exact (show _ ∧ _ from by assumption).1 | exact (show _ ∧ _ from by assumption).2 | exact (show _ ∧ _ ∧ _ from by assumption).2.1 | exact (show _ ∧ _ ∧ _ from by assumption).2.2 | exact (show _ ∧ _ ∧ _ ∧ _ ∧ _ from by assumption).2.2.2.1 | exact (show _ ∧ _ ∧ _ ∧ _ ∧ _ ∧ _ from by assumption).2.2.2.2.1)) off_nil
       case P => first | exact disj_res (by assumption) HI own1 | exact disj_resT (by assumption) (by assumption) HI own1)
    | (rw [ask4_f (by assumption)] at hR
       refine' hR _ _ _ _ _ ?F (news_res (by assumption) (by assumption) own3) ?W ?I ?O ?P
       case F => k_asm
       case W => assumption
       case I => exact RI.list (.head _) rfl rfl (.cons (RI.str _ _) .nil)
       case O => exact off_cons (by (first | assumption | exact (show _ ∧ _ from by assumption).1 | exact (show _ ∧ _ from by assumption).2 | exact (show _ ∧ _ ∧ _ from by assumption).2.1 | exact (show _ ∧ _ ∧ _ from by assumption).2.2 | exact (show _ ∧ _ ∧ _ ∧ _ ∧ _ from by assumption).2.2.2.1 | exact (show _ ∧ _ ∧ _ ∧ _ ∧ _ ∧ _ from by assumption).2.2.2.2.1)) off_nil
       case P => first | exact disj_res (by assumption) HI own3 | exact disj_resT (by assumption) (by assumption) HI own3)
    | (rw [ask4_f (by assumption)] at hR
       refine' hR _ _ _ _ _ ?F (news_res (by assumption) (by assumption) own5) ?W ?I ?O ?P
       case F => k_asm
       case W => assumption
       case I => exact RI.list (.head _) rfl rfl (.cons (RI.str _ _) .nil)
       case O => exact off_cons (by (first | assumption | exact (show _ ∧ _ from by assumption).1 | exact (show _ ∧ _ from by assumption).2 | exact (show _ ∧ _ ∧ _ from by assumption).2.1 | exact (show _ ∧ _ ∧ _ from by assumption).2.2 | exact (show _ ∧ _ ∧ _ ∧ _ ∧ _ from by assumption).2.2.2.1 | exact (show _ ∧ _ ∧ _ ∧ _ ∧ _ ∧ _ from by assumption).2.2.2.2.1)) off_nil
       case P => first | exact disj_res (by assumption) HI own5 | exact disj_resT (by assumption) (by assumption) HI own5)
    | (rw [ask4_f (by assumption)] at hR
       refine' hR _ _ _ _ _ ?F (news_res (by assumption) (by assumption) own6) ?W ?I ?O ?P
       case F => k_asm
       case W => assumption
       case I => exact RI.list (.head _) rfl rfl (.cons (RI.str _ _) .nil)
       case O => exact off_cons (by (first | assumption | exact (show _ ∧ _ from by assumption).1 | exact (show _ ∧ _ from by assumption).2 | exact (show _ ∧ _ ∧ _ from by assumption).2.1 | exact (show _ ∧ _ ∧ _ from by assumption).2.2 | exact (show _ ∧ _ ∧ _ ∧ _ ∧ _ from by assumption).2.2.2.1 | exact (show _ ∧ _ ∧ _ ∧ _ ∧ _ ∧ _ from by assumption).2.2.2.2.1)) off_nil
       case P => first | exact disj_res (by assumption) HI own6 | exact disj_resT (by assumption) (by assumption) HI own6)
end
end Mine
end W16_4
section W17b
open PySem PySem.W PyProof.Rows PySem.Calls PySem.Spec PyProof.V
set_option maxRecDepth 100000
set_option maxHeartbeats 8000000
set_option autoImplicit false
namespace Mine

theorem rows_at_100 : True := by
  k_with_none
  k_with "ctx" => ((refine' Ctx.mk ?q0B ?q0F ?q0X ?q0N ?q0T ?q0a ?q0f ?q0k ?q0h; (case q0B => k_asm); (case q0F => k_asm); (case q0X => k_asm); (case q0N => first | k_asm | exact news_swap1 (by k_asm) | exact news_swap2 (by k_asm) | exact news_swap3 (by k_asm)); (case q0T => k_asm); (case q0a => first | assumption | exact Around.frames_deeper (Below.stack (by assumption))); (case q0f => first | assumption | exact rfl); (case q0k => first | assumption | exact rfl); (case q0h => first | assumption | exact rfl)))
  k_with "getAttr ref" => ((k_here; k_dflt (refine' own_get ?q0D ?q0F ?q0X ?q0a ?q0b ?q0c ?q0d ?q0l ?q0v ?_; (case q0D => assumption); (case q0F => k_asm); (case q0X => k_asm); (case q0a => k_is); (case q0b => k_is); (case q0c => k_is); (case q0d => k_is); (case q0l => intro _ _; k_get); (case q0v => k_handed); k_whole)))
  k_with "getMethod ref" => ((k_here; k_dflt (refine' own_meth ?q0D ?q0F ?q0X ?q0a ?q0b ?q0c ?q0l ?_; (case q0D => assumption); (case q0F => k_asm); (case q0X => k_asm); (case q0a => k_is); (case q0b => k_is); (case q0c => k_is); (case q0l => intro _ _; k_get); k_whole)))
  k_with "getMethod ref" => ((k_here; (with_reducible show wpAny _ _ (getMethod (Value.ref _) (PySem.Str.ofString "get") _) _ _ _); k_dflt (refine' w_getm ?q0W ?q0N ?q0p ?_; (case q0W => assumption); (case q0N => k_asm); (case q0p => k_mem); k_whole)))
  k_with "getMethod ref" => ((k_here; (with_reducible show wpAny _ _ (getMethod (Value.ref _) (PySem.Str.ofString "pop") _) _ _ _); k_dflt (refine' w_popm ?q0W ?q0N ?q0p ?_; (case q0W => assumption); (case q0N => k_asm); (case q0p => k_mem); k_whole)))
  k_with "call builtin:dict.get" => ((k_here; k_dflt (refine' w_get ?q0W ?q0N ?q0p ?_; (case q0W => assumption); (case q0N => k_asm); (case q0p => k_mem); k_whole); intro _))
  k_with "call builtin:dict.pop" => ((k_here; k_dflt (refine' w_pop ?q0W ?q0F ?q0N ?q0p ?q0U ?_; (case q0W => assumption); (case q0F => k_asm); (case q0N => k_asm); (case q0p => k_mem); (case q0U => (first | (refine UpdF.head ?_; assumption) | k_updF)); k_whole); intro _ _ _ _ N'; (try dsimp only at N'); (try (revert N'; intro _)); intro _))
  k_with "setItem ref int" => ((k_here; k_dflt (refine' w_set ?q0W ?q0F ?q0N ?q0U ?q0c ?_; (case q0W => assumption); (case q0F => k_asm); (case q0N => k_asm); (case q0U => (first | (refine UpdF.head ?_; assumption) | k_updF)); (case q0c => first | assumption | omega); k_whole); intro _ _ _ N'; (try dsimp only at N'); (try (revert N'; intro _)); intro _))
  k_with "depth" => (first | exact dp1 (by assumption) rfl | exact dp2 (by assumption) rfl | ((simp +zetaDelta only [depth_mark, depth_under_make, depth_under_kw, depth_in1, depth_deeper, depth_caller]); omega))
  k_with "units" => (first | exact up1 (by assumption) rfl | exact up2 (by assumption) rfl | ((simp +zetaDelta only [units_in1, units_deeper, Around.mark_units, units_caller]); omega))
  k_with "apart" => (first | assumption | exact List.forall_mem_cons.mpr ⟨by k_ne, by assumption⟩ | exact List.forall_mem_cons.mpr ⟨by k_ne, List.forall_mem_cons.mpr ⟨by k_ne, by assumption⟩⟩)
  k_with "fact" => (omega)
  k_with "entered" => ((k_dflt ((case k6 => k_is); (case k7 => k_is); (case k8 => walk_at "room"); (case c5 => decide); (case kB => exact locs rfl); (case c2 => exact rfl); (case c3 => exact rfl); (case c4 => exact rfl))))
  k_with "binds" => ((k_dflt (exact BindsTo.of_eq (by kernel_rfl))))
  k_with "dbinds" => ((k_dflt (exact binds_K (Frag.In.keeps (Ctx.X (by assumption)) (Fr.keep (Ctx.F (by assumption)))) rfl (by k_is) rfl rfl (by kernel_rfl))))
  k_with "room" => (((simp only [rl_is]); omega))
  k_with "assign Tuple" => ((k_here; (with_reducible show wpAny _ _ (assign (Expr.Tuple _ _ _) _ (Value.ref _)) _ _ _); k_dflt (refine' unpackN_ ?q0k1 ?q0k2 ?q0k3 ?q0k4 ?q0k5 ?q0k6 ?_; (case q0k1 => k_asm); (case q0k2 => k_asm); (case q0k3 => exact News.isTup (by k_asm) (by k_mem)); (case q0k4 => first | assumption | exact rfl); (case q0k5 => exact rfl); (case q0k6 => exact rfl); k_whole); intro _ _ _; (try k_sweep)))
  k_with "unpackItems ref" => ((k_here; k_dflt (refine' unpackItemsN_ ?q0k1 ?q0k2 ?q0k3 ?q0k4 ?q0k5 ?_; (case q0k1 => k_asm); (case q0k2 => k_asm); (case q0k3 => kun_tup); (case q0k4 => first | assumption | exact rfl); (case q0k5 => exact rfl); k_whole); intro _ _ _; (try k_sweep)))
  k_with "fold" => (((fail_if_success (fail_if_success k_fold)); refine foldQ ?_; intro _))
  k_with "foldS" => (((fail_if_success (fail_if_success k_fold)); refine foldQS ?_; intro _ _))
  k_with "foldE" => (((fail_if_success (fail_if_success (refine swapT ⟨?_, ?_⟩; k_fold))); refine foldEE ?_; intro _))
  trivial

theorem rows_at_101 : True := by
  k_with "eval Name" => ((k_here; k_dflt (refine' nmL ?q0F ?q0v ?_ ?q0L ?q0x; (case q0x => rfl); (case q0F => k_asm); (case q0L => rfl); (case q0v => rfl); k_whole)))
  k_with "storeName" => ((k_here; k_dflt (refine' stL ?q0F ?q0N ?_ ?q0L ?q0x; (case q0x => rfl); (case q0F => k_asm); (case q0L => rfl); (case q0N => k_asm); k_whole; intro _ _ _ _ _ _; (try k_sweep))))
  trivial
section
variable {prog : Program} {w : World} {p : Program} {loose : List Str} {mean : ExcName → Option Value} {mg mb : Str → Option Value} {A A₀ : Around} {env : Env} {outer : List Env} {base h₀ : Heap} {L : Addr} {m : Str → Option Value} {s : Shared} {news : List (Addr × Obj)} {R : Result → Shared → Prop}
theorem rows_at_102 : True := by
  k_with "call ref" => (((with_reducible show wpAny _ _ (call (Value.ref 234) _) _ _ _); k_here; (with_reducible refine call_R ?_); k_dflt (refine' c_translateO ?q0C ?q0Wa ?q0D ?q0ln ?q0hk ?q0hd ?q0hu ?_ ?_; (case q0Wa => assumption); (case q0D => assumption); (case q0C => walk_at "ctx"); (case q0ln => assumption); (case q0hk => assumption); (case q0hd => walk_at "depth"); (case q0hu => walk_at "units"); k_whole); rotate_left; (intro _ _ _ _ _ _ _ _ _; (try (first | refine RetQ.ok ?_ | refine RetQ.err ?_)); (try walk_at "fold")); rotate_left; (intro _ _ _ _ _ no'; (first | exact no'.elim | exact False.elim no'); (try (first | refine RetQ.ok ?_ | refine RetQ.err ?_)); (try walk_at "fold"))))
  k_with "subscriptTail" => ((k_here; (with_reducible show wpAny _ _ (subscriptTail _ _ (Value.ref _) (Value.str _ _)) _ _ _); k_dflt (refine' brd_item ?q0D ?q0F ?q0v ?_; (case q0D => assumption); (case q0F => k_asm); (case q0v => with_unfolding_all rfl); k_whole)))
  k_with "turnall" => ((have BD9 := BD.turn hbl (show KtsTurn _ _ _ from by assumption); have D9 := D.turn (show KtsTurn _ _ _ from by assumption); have M9 := M.turn (show KtsTurn _ _ _ from by assumption); have Bu9 := Bu.turn (show KtsTurn _ _ _ from by assumption); have Wa9 := Wa.turn (show KtsTurn _ _ _ from by assumption); have Ta9 := Ta.turn (show KtsTurn _ _ _ from by assumption)))
  k_with "noteFrame ref" => ((k_here; k_dflt (refine' lookD ?q0R ?q0F ?q0K ?_; (case q0R => assumption); (case q0F => assumption); (case q0K => assumption); k_whole); intro _ _; (try dsimp only)))
  k_with "handleBy ref" =>
    ((k_here; first
      | (k_dflt (refine' hitDB ?q0R ?q0F ?q0K ?q0XB ?q0TB ?q0D ?q0T0 ?q0T ?_; (case q0R => assumption); (case q0F => assumption); (case q0K => assumption); (case q0XB => assumption); (case q0TB => assumption); (case q0D => assumption); (case q0T0 => first | assumption | exact KtsTurn.refl); (case q0T => kts_test); k_whole); intro _ _ _ _ _ _ _ _ _ _ _ _; walk_at "turnall"; (try dsimp only))
      | (k_dflt (refine' passD ?q0R ?q0F ?q0K ?q0XB ?q0TB ?q0T ?_; (case q0R => assumption); (case q0F => assumption); (case q0K => assumption); (case q0XB => assumption); (case q0TB => assumption); (case q0T => kts_test); k_whole); intro _ _; (try dsimp only))
      | (k_dflt (refine' hitD0 ?q0R ?q0F ?q0K ?q0XB ?q0TB ?q0D ?q0T0 ?q0T ?_; (case q0R => assumption); (case q0F => assumption); (case q0K => assumption); (case q0XB => assumption); (case q0TB => assumption); (case q0D => assumption); (case q0T0 => first | assumption | exact KtsTurn.refl); (case q0T => kts_test); k_whole); intro _ _ _ _ _ _ _ _ _; walk_at "turnall"; (try dsimp only))))
  k_with "getAttr ref" => ((k_here; (with_reducible show wpAny _ _ (getAttr (Value.ref _) (PySem.Str.ofString "cause") _) _ _ _); k_dflt (refine' trap_cause ?q0F ?q0X ?q0N ?q0T ?_; (case q0F => k_asm); (case q0X => k_asm); (case q0N => first | k_asm | exact News.sub (by k_asm) sub1 | exact News.sub (by k_asm) sub12); (case q0T => assumption); k_whole); intro _))
  k_with "getAttr ref" => ((k_here; (with_reducible show wpAny _ _ (getAttr (Value.ref _) (PySem.Str.ofString "value") _) _ _ _); k_dflt (refine' trap_value ?q0F ?q0X ?q0N ?q0T ?_; (case q0F => k_asm); (case q0X => k_asm); (case q0N => first | k_asm | exact News.sub (by k_asm) sub1 | exact News.sub (by k_asm) sub12); (case q0T => assumption); k_whole); intro _))
  k_with "ctxM" => ((refine' CtxM.mk ?q0B ?q0F ?q0X ?q0N ?q0T ?q0a ?q0f ?q0k; (case q0B => k_asm); (case q0F => k_asm); (case q0X => k_asm); (case q0N => k_asm); (case q0T => k_asm); (case q0a => first | assumption | exact Around.frames_deeper (Below.stack (by assumption))); (case q0f => first | assumption | exact rfl); (case q0k => first | assumption | exact rfl)))
  trivial
theorem c_beyond {cn : Str} {cs : Scope} {ccd : Value} {La : Addr} {imm : List (Addr × Obj)} {brd lay mem bus str wal tab pgs wd : Addr} {b pg en lg ed : Int} {tl tt : Toks} {o : Obj} (C : Ctx w p loose mean mg mb A A₀ (envOf cn cs L La ccd) [] base h₀ L s.heap m ((wd, o) :: imm)) (S : CtxS w p loose mean mg mb [] base h₀) (BR : Brd prog w imm brd lay mem bus str wal tab pgs wd b pg en lg ed tl tt) (ln : LayN b pg en lg ed) (hni : ∀ p ∈ imm, p.1 ≠ wd) (hd : A.depth ≤ 540) (hu : A.units ≤ 5400)
  (hR : ∀ h' tk (l : Addr) (res : List (Addr × Obj)), let st' : Shared := { s with heap := h', toks := tk }; Fr h₀ L h' m → let nw' : List (Addr × Obj) := ((wd, o) :: (res ++ imm)); News h₀ L h' nw' → RI res (.ref l) (.tuple [.int 13, .bool true]) → (∀ p ∈ res, p.1 ≠ wd) → (∀ p ∈ res, ∀ q ∈ imm, q.1 ≠ p.1) → R (.ok (.ret (.ref l))) st') :
    codeAny (model prog w) A (.call (.ref 885) ⟨[.ref brd], []⟩) R s := by
  have hbl : brd ≠ L := let ⟨_, ho, _⟩ := BR.hbrd; (C.N _ (List.mem_cons_of_mem _ ho)).2.1
  replace hbl := not_frame (cn := cn) (cs := cs) (L := L) (a := La) (cd := ccd) hbl
  refine' enterX0 (news := [(wd, o)]) (imm := imm) [("board", .ref brd)] C ?hdis ?k6 ?k7 ?k8 ?k9 ?kB ?c2 ?c3 ?c4 ?c5 ?_
  case hdis => exact fun p hp q hq => by rw [List.mem_singleton.mp hq]; exact hni p hp
  walk_at "entered"
  case k9 => walk_at "binds"
  obtain ⟨B, F, X, N, T, hA, hf, hke, hh⟩ := C
  obtain ⟨XB, TB, DD⟩ := S
  intro g' L' h' tk' FG F' N' B' X' T' D' HI
  try dsimp only
  refine foldEnter (f := execs) F' ?_
  clear F'
  intro M9 en9 A9 m9 qk ek st9 F'
  try clear N
  obtain ⟨hb, hp, hen, hlg, hed⟩ := layN_b ln
  have BD := BR.dictG HI
  have D := BR.hlay.has HI
  have M := BR.hmem.has HI
  have Bu := BR.hbus.has HI
  have Wa := BR.hwal.has HI
  have Ta := BR.htab.has HI
  have hki : KindIs (Str.ofString "load") := .inr (.inl rfl)
  k_steps
  refine' hR _ _ _ _ ?F (news_res (by assumption) (by assumption) own5) ?I ?O ?P
  case F => k_asm
  case I => exact RI.tup (.head _) (.cons (RI.int _ _) (.cons (RI.bool_t (beq_self_eq_true ed)) .nil))
  case O => exact off_cons (by (first | assumption | exact (show _ ∧ _ from by assumption).1 | exact (show _ ∧ _ from by assumption).2 | exact (show _ ∧ _ ∧ _ from by assumption).2.1 | exact (show _ ∧ _ ∧ _ from by assumption).2.2 | exact (show _ ∧ _ ∧ _ ∧ _ ∧ _ from by assumption).2.2.2.1 | exact (show _ ∧ _ ∧ _ ∧ _ ∧ _ ∧ _ from by assumption).2.2.2.2.1)) off_nil
  case P => first | exact disj_res (by assumption) HI own5 | exact disj_resT (by assumption) (by assumption) HI own5
end
end Mine
end W17b
section W16
open PySem PySem.W PyProof.Rows PySem.Calls PySem.Spec PyProof.V
set_option maxRecDepth 100000
set_option maxHeartbeats 8000000
set_option autoImplicit false
namespace Mine


section
variable {prog : Program} {w : World} {p : Program} {loose : List Str} {mean : ExcName → Option Value} {mg mb : Str → Option Value} {A A₀ : Around} {env : Env} {outer : List Env} {base h₀ : Heap} {L : Addr} {m : Str → Option Value} {s : Shared} {news : List (Addr × Obj)} {R : Result → Shared → Prop}
theorem c_asked {cn : Str} {cs : Scope} {ccd : Value} {La : Addr} {imm : List (Addr × Obj)} {brd lay mem bus str wal tab pgs wd : Addr} {b pg en lg ed f g part way fl ad : Int} {tl tt : Toks} {o : Obj} {c : Cs} {t1 t2 t3 t4 t5 : Tok} (C : Ctx w p loose mean mg mb A A₀ (envOf cn cs L La ccd) [] base h₀ L s.heap m ((wd, o) :: imm)) (S : CtxS w p loose mean mg mb [] base h₀) (BR : Brd prog w imm brd lay mem bus str wal tab pgs wd b pg en lg ed tl tt) (ln : LayN b pg en lg ed) (W : WD prog w wd o c) (hni : ∀ p ∈ imm, p.1 ≠ wd) (hc : c.length < 900) (hcv : ∀ i, 0 ≤ kdfLook c i 0 ∧ kdfLook c i 0 < 65536) (hf : 0 ≤ f ∧ f < 4) (hg : 0 ≤ g ∧ g < 4) (hpa : 0 ≤ part ∧ part < 16) (hfl : 0 ≤ fl) (hAD : addrS b f g ((part * pg).fdiv 16) = ad) (ine : 0 ≤ ad ∧ ad < ed) (p1 : 0 ≤ p1S b ad ∧ p1S b ad + 4 ≤ 4 * pg) (p1m : (p1S b ad).fmod 4 = 0) (p2 : v1S (e1S b ad c) = true → leafS (e1S b ad c) = false → (0 ≤ p2S b en ad c ∧ p2S b en ad c + 4 ≤ 4 * pg) ∧ (p2S b en ad c).fmod 4 = 0) (ine2 : 0 ≤ (downS pg ad) ∧ (downS pg ad) < ed) (p1D : 0 ≤ p1S b (downS pg ad) ∧ p1S b (downS pg ad) + 4 ≤ 4 * pg) (p1mD : (p1S b (downS pg ad)).fmod 4 = 0) (p2D : v1S (e1S b (downS pg ad) c) = true → leafS (e1S b (downS pg ad) c) = false → (0 ≤ p2S b en (downS pg ad) c ∧ p2S b en (downS pg ad) c + 4 ≤ 4 * pg) ∧ (p2S b en (downS pg ad) c).fmod 4 = 0) (hway : 0 ≤ way ∧ way < 5) (hd : A.depth ≤ 520) (hu : A.units ≤ 5200)
  (hR : ∀ h' tk (l : Addr) (res : List (Addr × Obj)) (o' : Obj), let st' : Shared := { s with heap := h', toks := tk }; Fr h₀ L h' m → let nw' : List (Addr × Obj) := ((wd, o') :: (res ++ imm)); News h₀ L h' nw' → WD prog w wd o' (askS b pg en lg ad fl way c).2 → RI res (.ref l) (askS b pg en lg ad fl way c).1 → (∀ p ∈ res, p.1 ≠ wd) → (∀ p ∈ res, ∀ q ∈ imm, q.1 ≠ p.1) → (way = 0 → LastOk res l) → R (.ok (.ret (.ref l))) st') :
    codeAny (model prog w) A (.call (.ref 859) ⟨[.ref brd, .int f t1, .int g t2, .int part t3, .int way t4, .int fl t5], []⟩) R s := by
  have hw : way = 0 ∨ way = 1 ∨ way = 2 ∨ way = 3 ∨ way = 4 := by omega
  rcases hw with rfl | rfl | rfl | rfl | rfl
  · refine c_asked0 C S BR ln W hni hc hcv hf hg hpa hfl hAD ine p1 p1m p2 ine2 p1D p1mD p2D hd hu fun h' tk l res o' F' N' W' I' O' P' Z => ?_
    exact hR h' tk l res o' F' N' W' I' O' P' fun _ => Z
  · refine c_asked1 C S BR ln W hni hc hcv hf hg hpa hfl hAD ine p1 p1m p2 ine2 p1D p1mD p2D hd hu fun h' tk l res o' F' N' W' I' O' P' => ?_
    exact hR h' tk l res o' F' N' W' I' O' P' fun q => absurd q (by decide)
  · refine c_asked2 C S BR ln W hni hc hcv hf hg hpa hfl hAD ine p1 p1m p2 ine2 p1D p1mD p2D hd hu fun h' tk l res o' F' N' W' I' O' P' => ?_
    exact hR h' tk l res o' F' N' W' I' O' P' fun q => absurd q (by decide)
  · refine c_asked3 C S BR ln W hni hc hcv hf hg hpa hfl hAD ine p1 p1m p2 ine2 p1D p1mD p2D hd hu fun h' tk l res o' F' N' W' I' O' P' => ?_
    exact hR h' tk l res o' F' N' W' I' O' P' fun q => absurd q (by decide)
  · refine c_asked4 C S BR ln W hni hc hcv hf hg hpa hfl hAD ine p1 p1m p2 ine2 p1D p1mD p2D hd hu fun h' tk l res o' F' N' W' I' O' P' => ?_
    exact hR h' tk l res o' F' N' W' I' O' P' fun q => absurd q (by decide)
end
end Mine
end W16
section W19
open PySem PySem.W PyProof.Rows PySem.Calls PySem.Spec PyProof.V
set_option maxRecDepth 100000
set_option maxHeartbeats 8000000
set_option autoImplicit false
namespace Mine

theorem rows_at_103 : True := by
  k_with_none
  k_with "ctx" => ((refine' Ctx.mk ?q0B ?q0F ?q0X ?q0N ?q0T ?q0a ?q0f ?q0k ?q0h; (case q0B => k_asm); (case q0F => k_asm); (case q0X => k_asm); (case q0N => first | k_asm | exact news_swap1 (by k_asm) | exact news_swap2 (by k_asm) | exact news_swap3 (by k_asm)); (case q0T => k_asm); (case q0a => first | assumption | exact Around.frames_deeper (Below.stack (by assumption))); (case q0f => first | assumption | exact rfl); (case q0k => first | assumption | exact rfl); (case q0h => first | assumption | exact rfl)))
  k_with "getAttr ref" => ((k_here; k_dflt (refine' own_get ?q0D ?q0F ?q0X ?q0a ?q0b ?q0c ?q0d ?q0l ?q0v ?_; (case q0D => assumption); (case q0F => k_asm); (case q0X => k_asm); (case q0a => k_is); (case q0b => k_is); (case q0c => k_is); (case q0d => k_is); (case q0l => intro _ _; k_get); (case q0v => k_handed); k_whole)))
  k_with "getMethod ref" => ((k_here; k_dflt (refine' own_meth ?q0D ?q0F ?q0X ?q0a ?q0b ?q0c ?q0l ?_; (case q0D => assumption); (case q0F => k_asm); (case q0X => k_asm); (case q0a => k_is); (case q0b => k_is); (case q0c => k_is); (case q0l => intro _ _; k_get); k_whole)))
  k_with "getMethod ref" => ((k_here; (with_reducible show wpAny _ _ (getMethod (Value.ref _) (PySem.Str.ofString "get") _) _ _ _); k_dflt (refine' w_getm ?q0W ?q0N ?q0p ?_; (case q0W => assumption); (case q0N => k_asm); (case q0p => k_mem); k_whole)))
  k_with "getMethod ref" => ((k_here; (with_reducible show wpAny _ _ (getMethod (Value.ref _) (PySem.Str.ofString "pop") _) _ _ _); k_dflt (refine' w_popm ?q0W ?q0N ?q0p ?_; (case q0W => assumption); (case q0N => k_asm); (case q0p => k_mem); k_whole)))
  k_with "call builtin:dict.get" => ((k_here; k_dflt (refine' w_get ?q0W ?q0N ?q0p ?_; (case q0W => assumption); (case q0N => k_asm); (case q0p => k_mem); k_whole); intro _))
  k_with "call builtin:dict.pop" => ((k_here; k_dflt (refine' w_pop ?q0W ?q0F ?q0N ?q0p ?q0U ?_; (case q0W => assumption); (case q0F => k_asm); (case q0N => k_asm); (case q0p => k_mem); (case q0U => (first | (refine UpdF.head ?_; assumption) | k_updF)); k_whole); intro _ _ _ _ N'; (try dsimp only at N'); (try (revert N'; intro _)); intro _))
  k_with "setItem ref int" => ((k_here; k_dflt (refine' w_set ?q0W ?q0F ?q0N ?q0U ?q0c ?_; (case q0W => assumption); (case q0F => k_asm); (case q0N => k_asm); (case q0U => (first | (refine UpdF.head ?_; assumption) | k_updF)); (case q0c => first | assumption | omega); k_whole); intro _ _ _ N'; (try dsimp only at N'); (try (revert N'; intro _)); intro _))
  k_with "depth" => (first | exact dp1 (by assumption) rfl | exact dp2 (by assumption) rfl | ((simp +zetaDelta only [depth_mark, depth_under_make, depth_under_kw, depth_in1, depth_deeper, depth_caller]); omega))
  k_with "units" => (first | exact up1 (by assumption) rfl | exact up2 (by assumption) rfl | ((simp +zetaDelta only [units_in1, units_deeper, Around.mark_units, units_caller]); omega))
  k_with "apart" => (first | assumption | exact List.forall_mem_cons.mpr ⟨by k_ne, by assumption⟩ | exact List.forall_mem_cons.mpr ⟨by k_ne, List.forall_mem_cons.mpr ⟨by k_ne, by assumption⟩⟩)
  k_with "fact" => (omega)
  k_with "entered" => ((k_dflt ((case k6 => k_is); (case k7 => k_is); (case k8 => walk_at "room"); (case c5 => decide); (case kB => exact locs rfl); (case c2 => exact rfl); (case c3 => exact rfl); (case c4 => exact rfl))))
  k_with "binds" => ((k_dflt (exact BindsTo.of_eq (by kernel_rfl))))
  k_with "dbinds" => ((k_dflt (exact binds_K (Frag.In.keeps (Ctx.X (by assumption)) (Fr.keep (Ctx.F (by assumption)))) rfl (by k_is) rfl rfl (by kernel_rfl))))
  k_with "room" => (((simp only [rl_is]); omega))
  k_with "assign Tuple" => ((k_here; (with_reducible show wpAny _ _ (assign (Expr.Tuple _ _ _) _ (Value.ref _)) _ _ _); k_dflt (refine' unpackN_ ?q0k1 ?q0k2 ?q0k3 ?q0k4 ?q0k5 ?q0k6 ?_; (case q0k1 => k_asm); (case q0k2 => k_asm); (case q0k3 => exact News.isTup (by k_asm) (by k_mem)); (case q0k4 => first | assumption | exact rfl); (case q0k5 => exact rfl); (case q0k6 => exact rfl); k_whole); intro _ _ _; (try k_sweep)))
  k_with "unpackItems ref" => ((k_here; k_dflt (refine' unpackItemsN_ ?q0k1 ?q0k2 ?q0k3 ?q0k4 ?q0k5 ?_; (case q0k1 => k_asm); (case q0k2 => k_asm); (case q0k3 => kun_tup); (case q0k4 => first | assumption | exact rfl); (case q0k5 => exact rfl); k_whole); intro _ _ _; (try k_sweep)))
  k_with "fold" => (((fail_if_success (fail_if_success k_fold)); refine foldQ ?_; intro _))
  k_with "foldS" => (((fail_if_success (fail_if_success k_fold)); refine foldQS ?_; intro _ _))
  k_with "foldE" => (((fail_if_success (fail_if_success (refine swapT ⟨?_, ?_⟩; k_fold))); refine foldEE ?_; intro _))
  trivial

theorem rows_at_104 : True := by
  k_with "eval Name" => ((k_here; k_dflt (refine' nmL ?q0F ?q0v ?_ ?q0L ?q0x; (case q0x => rfl); (case q0F => k_asm); (case q0L => rfl); (case q0v => rfl); k_whole)))
  k_with "storeName" => ((k_here; k_dflt (refine' stL ?q0F ?q0N ?_ ?q0L ?q0x; (case q0x => rfl); (case q0F => k_asm); (case q0L => rfl); (case q0N => k_asm); k_whole; intro _ _ _ _ _ _; (try k_sweep))))
  trivial
section
variable {prog : Program} {w : World} {p : Program} {loose : List Str} {mean : ExcName → Option Value} {mg mb : Str → Option Value} {A A₀ : Around} {env : Env} {outer : List Env} {base h₀ : Heap} {L : Addr} {m : Str → Option Value} {s : Shared} {news : List (Addr × Obj)} {R : Result → Shared → Prop}
theorem rows_at_105 : True := by
  k_with "call ref" => (((with_reducible show wpAny _ _ (call (Value.ref 129) _) _ _ _); k_here; (with_reducible refine wpAny_call ?_); k_dflt (refine' c_parts_in ?q0C ?q0D ?q0ln ?q0ha ?q0hd ?q0hu ?_; (case q0D => assumption); (case q0C => walk_at "ctx"); (case q0ln => assumption); (case q0ha => first | assumption | walk_at "fact"); (case q0hd => walk_at "depth"); (case q0hu => walk_at "units"); k_whole); intro _ _ _ _ _ _ _ _; (try dsimp only); intro _ l1'; (try k_lt l1'); (try (revert l1'; intro _)); (try dsimp only); (try walk_at "fold")))
  k_with "call ref" => (((with_reducible show wpAny _ _ (call (Value.ref 129) _) _ _ _); k_here; (with_reducible refine wpAny_call ?_); k_dflt (refine' c_parts_out ?q0C ?q0D ?q0ln ?q0ha ?q0hd ?q0hu ?_; (case q0D => assumption); (case q0C => walk_at "ctx"); (case q0ln => assumption); (case q0ha => first | assumption | walk_at "fact"); (case q0hd => walk_at "depth"); (case q0hu => walk_at "units"); k_whole); intro _ _ _ _ _; (try dsimp only); (try walk_at "fold")))
  k_with "call ref" => (((with_reducible show wpAny _ _ (call (Value.ref 137) _) _ _ _); k_here; (with_reducible refine wpAny_call ?_); k_dflt (refine' c_address ?q0C ?q0D ?q0ln ?q0hf1 ?q0hg1 ?q0hq1 ?q0hd ?q0hu ?_; (case q0D => assumption); (case q0C => walk_at "ctx"); (case q0ln => assumption); (case q0hf1 => first | assumption | walk_at "fact"); (case q0hg1 => first | assumption | walk_at "fact"); (case q0hq1 => first | assumption | walk_at "fact"); (case q0hd => walk_at "depth"); (case q0hu => walk_at "units"); k_whole); intro _ _ _ _ _ _; (try dsimp only); (try walk_at "fold")))
  k_with "call ref" => (((with_reducible show wpAny _ _ (call (Value.ref 144) _) _ _ _); k_here; (with_reducible refine wpAny_call ?_); k_dflt (refine' c_down ?q0C ?q0D ?q0ln ?q0ha ?q0hd ?q0hu ?_; (case q0D => assumption); (case q0C => walk_at "ctx"); (case q0ln => assumption); (case q0ha => first | assumption | walk_at "fact"); (case q0hd => walk_at "depth"); (case q0hu => walk_at "units"); k_whole); intro _ _ _ _ _ _; (try dsimp only); (try walk_at "fold")))
  k_with "call ref" => (((with_reducible show wpAny _ _ (call (Value.ref 158) _) _ _ _); k_here; (with_reducible refine wpAny_call ?_); k_dflt (refine' c_is_begin ?q0C ?q0D ?q0ln ?q0ha ?q0hd ?q0hu ?_; (case q0D => assumption); (case q0C => walk_at "ctx"); (case q0ln => assumption); (case q0ha => first | assumption | walk_at "fact"); (case q0hd => walk_at "depth"); (case q0hu => walk_at "units"); k_whole); intro _ _ _ _ _; (try dsimp only); (try walk_at "fold")))
  k_with "call ref" => (((with_reducible show wpAny _ _ (call (Value.ref 172) _) _ _ _); k_here; (with_reducible refine wpAny_call ?_); k_dflt (refine' c_lentry ?q0C ?q0D ?q0ln ?q0ha ?q0hf1 ?q0hd ?q0hu ?_; (case q0D => assumption); (case q0C => walk_at "ctx"); (case q0ln => assumption); (case q0ha => first | assumption | walk_at "fact"); (case q0hf1 => first | assumption | walk_at "fact"); (case q0hd => walk_at "depth"); (case q0hu => walk_at "units"); k_whole); intro _ _ _ _ _ _; (try dsimp only); (try walk_at "fold")))
  k_with "call ref" => (((with_reducible show wpAny _ _ (call (Value.ref 179) _) _ _ _); k_here; (with_reducible refine wpAny_call ?_); k_dflt (refine' c_lphysical ?q0C ?q0D ?q0ln ?q0he ?q0hd ?q0hu ?_; (case q0D => assumption); (case q0C => walk_at "ctx"); (case q0ln => assumption); (case q0he => first | assumption | walk_at "fact"); (case q0hd => walk_at "depth"); (case q0hu => walk_at "units"); k_whole); intro _ _ _ _ _ _; (try dsimp only); (try walk_at "fold")))
  k_with "call ref" => (((with_reducible show wpAny _ _ (call (Value.ref 198) _) _ _ _); k_here; (with_reducible refine wpAny_call ?_); k_dflt (refine' c_is_leaf ?q0C ?q0he ?q0hd ?q0hu ?_; (case q0C => walk_at "ctx"); (case q0he => first | assumption | walk_at "fact"); (case q0hd => walk_at "depth"); (case q0hu => walk_at "units"); k_whole); intro _ _ _ _ _; (try dsimp only); (try walk_at "fold")))
  k_with "call ref" => (((with_reducible show wpAny _ _ (call (Value.ref 205) _) _ _ _); k_here; (with_reducible refine wpAny_call ?_); k_dflt (refine' c_is_sound ?q0C ?q0he ?q0hd ?q0hu ?_; (case q0C => walk_at "ctx"); (case q0he => first | assumption | walk_at "fact"); (case q0hd => walk_at "depth"); (case q0hu => walk_at "units"); k_whole); intro _ _ _ _ _; (try dsimp only); (try walk_at "fold")))
  k_with "call ref" => (((with_reducible show wpAny _ _ (call (Value.ref 212) _) _ _ _); k_here; (with_reducible refine wpAny_call ?_); k_dflt (refine' c_may ?q0C ?q0he ?q0hd ?q0hu ?_; (case q0C => walk_at "ctx"); (case q0he => first | assumption | walk_at "fact"); (case q0hd => walk_at "depth"); (case q0hu => walk_at "units"); k_whole); intro _ _ _ _ _; (try dsimp only); (try walk_at "fold")))
  k_with "call ref" => (((with_reducible show wpAny _ _ (call (Value.ref 384) _) _ _ _); k_here; (with_reducible refine wpAny_call ?_); k_dflt (refine' c_rows ?q0C ?q0Ta ?q0D ?q0ln ?q0M ?q0W ?q0hcv ?q0hn ?q0hinv ?q0hd ?q0hu ?_; (case q0Ta => assumption); (case q0D => assumption); (case q0M => assumption); (case q0W => assumption); (case q0C => walk_at "ctx"); (case q0ln => assumption); (case q0hcv => assumption); (case q0hn => first | assumption | walk_at "fact"); (case q0hinv => assumption); (case q0hd => walk_at "depth"); (case q0hu => walk_at "units"); k_whole); intro _ _ _ _ _ _ _ _; (try dsimp only); intro _ _ _ _ _; (try dsimp only); (try walk_at "fold")))
  k_with "subscriptTail" => ((k_here; (with_reducible show wpAny _ _ (subscriptTail _ _ (Value.ref _) (Value.str _ _)) _ _ _); k_dflt (refine' brd_item ?q0D ?q0F ?q0v ?_; (case q0D => assumption); (case q0F => k_asm); (case q0v => with_unfolding_all rfl); k_whole)))
  k_with "exec For Tuple Call cons nil" => ((k_here; (with_unfolding_all refine' For_GT ‹Fr _ _ _ _› ?_); k_whole))
  k_with "call builtin:list.append" => ((k_here; (with_reducible show wpAny _ _ (call (Value.builtin _) [Value.ref _, _]) _ _ _); k_dflt (refine' append_K ?q0k1 ?q0k2 ?q0k3 ?_ ?q0z; (case q0k1 => k_asm); (case q0k2 => k_asm); (case q0k3 => first | exact Upd.tail (by k_ne) (Upd.tail (by k_ne) (Upd.tail (by k_ne) (Upd.head (by assumption)))) | exact Upd.tail (by k_ne) (Upd.tail (by k_ne) (Upd.head (by assumption)))); (case q0z => first | assumption | (rw [sizeLine_eq]; omega)); k_whole); intro _ _ _))
  k_with "subscriptTail Name Slice ref ref" => ((k_here; (with_reducible show wpAny _ _ (subscriptTail _ (PySem.Expr.Slice _ _ none _) (Value.ref _) (Value.ref _)) _ _ _); k_dflt (refine' slice_two ?q0F ?q0N ?q0t ?_; (case q0F => k_asm); (case q0N => k_asm); (case q0t => exact News.isTup (by k_asm) (by k_mem))); intro _ _ _ _ l1; (try k_lt l1); (try (revert l1; intro _))))
  trivial
theorem c_lrows {cn : Str} {cs : Scope} {ccd : Value} {La : Addr} {imm : List (Addr × Obj)} {brd lay mem bus str wal tab pgs wd : Addr} {b pg en lg ed : Int} {tl tt : Toks} {o : Obj} {c : Cs} {n : Nat} (C : Ctx w p loose mean mg mb A A₀ (envOf cn cs L La ccd) outer base h₀ L s.heap m ((wd, o) :: imm)) (BR : Brd prog w imm brd lay mem bus str wal tab pgs wd b pg en lg ed tl tt) (ln : LayN b pg en lg ed) (W : WD prog w wd o c) (hni : ∀ p ∈ imm, p.1 ≠ wd) (hcv : ∀ i, 0 ≤ kdfLook c i 0 ∧ kdfLook c i 0 < 65536) (hn : en = n) (hinv : ∀ i : Nat, i < n → v1S (kdfLook c ((0 + 4 * (i : Int)).fdiv 4) 0) = true → leafS (kdfLook c ((0 + 4 * (i : Int)).fdiv 4) 0) = false → (0 ≤ physS b (kdfLook c ((0 + 4 * (i : Int)).fdiv 4) 0) ∧ physS b (kdfLook c ((0 + 4 * (i : Int)).fdiv 4) 0) + pg ≤ 4 * pg) ∧ (physS b (kdfLook c ((0 + 4 * (i : Int)).fdiv 4) 0)).fmod 4 = 0) (hra : ∀ r ∈ rowsS b pg lg n c n, 0 ≤ r.1 ∧ r.1 < ed) (hd : A.depth ≤ 540) (hu : A.units ≤ 5400)
  (hR : ∀ h' tk (l : Addr) (res : List (Addr × Obj)), let st' : Shared := { s with heap := h', toks := tk }; Fr h₀ L h' m → let nw' : List (Addr × Obj) := ((wd, o) :: (res ++ imm)); News h₀ L h' nw' → RI res (.ref l) (.list ((rowsS b pg lg n c n).map (rowD b pg en lg))) → (∀ p ∈ res, p.1 ≠ wd) → (∀ p ∈ res, ∀ q ∈ imm, q.1 ≠ p.1) → R (.ok (.ret (.ref l))) st') :
    codeAny (model prog w) A (.call (.ref 866) ⟨[.ref brd], []⟩) R s := by
  refine' enterXK (news := [(wd, o)]) (imm := imm) [("board", .ref brd)] C ?hdis ?k6 ?k7 ?k8 ?k9 ?kB ?c2 ?c3 ?c4 ?c5 ?_
  case hdis => exact fun p hp q hq => by rw [List.mem_singleton.mp hq]; exact hni p hp
  walk_at "entered"
  case k9 => walk_at "binds"
  obtain ⟨B, F, X, N, T, hA, hf, hke, hh⟩ := C
  intro g' L' h' tk' FG F' N' B' X' T' HI
  try dsimp only
  refine foldEnter (f := execs) F' ?_
  clear F'
  intro M9 en9 A9 m9 qk ek st9 F'
  try clear N
  obtain ⟨hb, hp, hen, hlg, hed⟩ := layN_b ln
  have BD := BR.dictG HI
  have D := BR.hlay.has HI
  have M := BR.hmem.has HI
  have Ta := BR.htab.has HI
  k_steps
  rename_i h8 tk8 fa items kk tl0 _ F8 N8 hr8 l18 ht8 hz8
  obtain ⟨fd, hwf, hfd⟩ : ∃ fd : Addr, wd < fd ∧ fd = _ := ⟨_, by assumption, rfl⟩
  subst hfd
  have hff : fd < fa := l18.2.1
  obtain ⟨bs, hbase⟩ : ∃ bs, bs = ((wd, o) :: (fa, PySem.W.listOf items kk) :: tl0 : List (Addr × Obj)) := ⟨_, rfl⟩
  have NS : News g' L' h8 ((fd, PySem.W.listOf #[] 0) :: ([] ++ bs)) := News.sub N8 fun q hq => by
    rw [hbase] at hq
    simp +zetaDelta only [List.mem_cons, List.mem_append, List.not_mem_nil, or_false, List.nil_append] at hq ⊢
    grind
  have hfa : (fa, PySem.W.listOf items kk) ∈ bs := by rw [hbase]; exact .tail _ (.head _)
  have hwb : (wd, o) ∈ bs := by rw [hbase]; exact .head _
  have htb : ∀ q ∈ tl0, q ∈ bs := fun q hq => by rw [hbase]; exact .tail _ (.tail _ hq)
  have hbf : ∀ p ∈ bs, p.1 ≠ fd := fun p hp => by
    rw [hbase] at hp
    rcases List.mem_cons.mp hp with e | hp
    · rw [e]; exact Nat.ne_of_lt hwf
    · rcases List.mem_cons.mp hp with e | hp
      · rw [e]; exact Nat.ne_of_gt hff
      · exact Nat.ne_of_gt (Nat.lt_trans hff (ht8 p hp))
  have hlen : items.size = (rowsS b pg lg n c n).length := by rw [← Array.length_toList]; exact hr8.len
  have hl0 : (fa, PySem.W.listOf items kk) ∈ (fd, PySem.W.listOf #[] 0) :: ([] ++ bs) := .tail _ hfa
  refine' iterGT_list [("address" : Str), ("page" : Str), ("flags" : Str), ("size" : Str)] (fun i => JF fd bs (((rowsS b pg lg n c n).take i).map (rowD b pg en lg))) ?hh ?F ?N (News.isList NS hl0) ?hll ?hrf ?hj ?turn ?done
  case hh => assumption
  case F => assumption
  case N => exact NS
  case hll => exact (NS _ hl0).2.1
  case hrf =>
    intro v hv
    obtain ⟨i, hi, rfl⟩ := Array.mem_iff_getElem.mp hv
    obtain ⟨r, _, t, _, _, _, _, e, _⟩ := hr8.get i (v := items[i]) (by simp [hi])
    exact ⟨t, e⟩
  case hj => exact ⟨#[], [], 0, rfl, RIs.nil, rfl, fun _ h => nomatch h⟩
  case done =>
    rintro h9 tk9 u9 news9 F9 N9 ⟨its, tl, k, rfl, hr, hz, ht⟩
    rw [hlen, List.take_length] at hr
    k_steps
    have hsub : ∀ q ∈ (wd, o) :: ((fd, PySem.W.listOf its k) :: tl), q ∈ (fd, PySem.W.listOf its k) :: (tl ++ bs) := fun q hq => by
      simp +zetaDelta only [List.mem_cons, List.mem_append] at hq ⊢
      rcases hq with h | h | h
      · exact .inr (.inr (h ▸ hwb))
      · exact .inl h
      · exact .inr (.inl h)
    exact hR _ _ fd ((fd, PySem.W.listOf its k) :: tl) (by k_asm) (news_res (by assumption) (by assumption) hsub) (RI.list (.head _) rfl rfl (hr.mono fun q hq => .tail _ hq)) (List.forall_mem_cons.mpr ⟨Nat.ne_of_gt hwf, fun p hp => Nat.ne_of_gt (Nat.lt_trans hwf (ht p hp))⟩) (disj_res (by assumption) HI hsub)
  case turn =>
    rintro i v u9 news9 h9 tk9 own I he ⟨its, tl, k, rfl, hr, hz, ht⟩ hoff hsub ⟨oI, hI⟩ F9 N9
    obtain ⟨⟨r1, r2, r3, r4⟩, hr1, t, t1, t2, t3, t4, rfl, hm⟩ := hr8.get i (v := v) (by rw [← he, Array.getElem?_toList])
    have hrr := hra _ (List.mem_of_getElem? hr1)
    dsimp only at hrr hm
    have hfI : I ≠ fd := fun e => hoff _ (.head _) e.symm
    have hit : its.size ≤ 10000 := by
      rw [hz, List.length_map, List.length_take]
      omega
    have hne9 : ∀ p ∈ (t, tupObj [.int r1 t1, .int r2 t2, .int r3 t3, .int r4 t4]) :: (own ++ tl ++ bs), p.1 ≠ fd := fun p hp => by
      rcases List.mem_cons.mp hp with e | hp
      · rw [e]; exact hbf _ (htb _ hm)
      · rcases List.mem_append.mp hp with hp | hp
        · rcases List.mem_append.mp hp with hp | hp
          · rcases hsub p hp with e | e
            · rw [e]; exact hfI
            · rw [e]; exact Nat.ne_of_gt hff
          · exact Nat.ne_of_gt (ht p hp)
        · exact hbf p hp
    replace N9 : News g' L' h9 ((fd, PySem.W.listOf its k) :: (t, tupObj [.int r1 t1, .int r2 t2, .int r3 t3, .int r4 t4]) :: (own ++ tl ++ bs)) := News.sub N9 fun q hq => by
      simp +zetaDelta only [List.mem_cons, List.mem_append] at hq ⊢
      rcases hq with h | h | (h | h) | h
      · exact .inr (.inl h)
      · exact .inr (.inr (.inr (h ▸ htb _ hm)))
      · exact .inl h
      · exact .inr (.inr (.inl h))
      · exact .inr (.inr (.inr h))
    try dsimp only
    k_steps
    show NextG _ _ _ _ _ _ _ _ _
    rw [take_succ (rowD b pg en lg) hr1]
    rename_i D1 h2 l1D D2 h1 F1 N1 l1y hZ FZ NZ
    exact jf_next (by k_asm) (by repeat (first | (with_reducible exact over_off) | ((with_reducible refine upd_off ?_ ?_); exact rfl) | exact fun _ _ => rfl)) NZ sub_jf hr hz ht (RI.tup (.head _) (.cons (RI.tup (.tail _ (.head _)) (.cons (RI.int _ _) (.cons (RI.int _ _) .nil))) (.cons (RI.int _ _) (.cons (RI.int _ _) (.cons (RI.bool _) .nil))))) l1y.2.2.1 l1D.2.1 hoff (allLt_mem l1y.2.2.2.2 _ (List.mem_append_left _ (List.mem_append_left _ hI))) (allLt_mem l1D.2.2.2 _ (List.mem_append_left _ (List.mem_append_left _ hI)))
end
end Mine
end W19
section W20
open PySem PySem.W PyProof.Rows PySem.Calls PySem.Spec PyProof.V
set_option maxRecDepth 100000
set_option maxHeartbeats 8000000
set_option autoImplicit false
namespace Mine

theorem rows_at_106 : True := by
  k_with_none
  k_with "ctx" => ((refine' Ctx.mk ?q0B ?q0F ?q0X ?q0N ?q0T ?q0a ?q0f ?q0k ?q0h; (case q0B => k_asm); (case q0F => k_asm); (case q0X => k_asm); (case q0N => first | k_asm | exact news_swap1 (by k_asm) | exact news_swap2 (by k_asm) | exact news_swap3 (by k_asm)); (case q0T => k_asm); (case q0a => first | assumption | exact Around.frames_deeper (Below.stack (by assumption))); (case q0f => first | assumption | exact rfl); (case q0k => first | assumption | exact rfl); (case q0h => first | assumption | exact rfl)))
  k_with "getAttr ref" => ((k_here; k_dflt (refine' own_get ?q0D ?q0F ?q0X ?q0a ?q0b ?q0c ?q0d ?q0l ?q0v ?_; (case q0D => assumption); (case q0F => k_asm); (case q0X => k_asm); (case q0a => k_is); (case q0b => k_is); (case q0c => k_is); (case q0d => k_is); (case q0l => intro _ _; k_get); (case q0v => k_handed); k_whole)))
  k_with "getMethod ref" => ((k_here; k_dflt (refine' own_meth ?q0D ?q0F ?q0X ?q0a ?q0b ?q0c ?q0l ?_; (case q0D => assumption); (case q0F => k_asm); (case q0X => k_asm); (case q0a => k_is); (case q0b => k_is); (case q0c => k_is); (case q0l => intro _ _; k_get); k_whole)))
  k_with "getMethod ref" => ((k_here; (with_reducible show wpAny _ _ (getMethod (Value.ref _) (PySem.Str.ofString "get") _) _ _ _); k_dflt (refine' w_getm ?q0W ?q0N ?q0p ?_; (case q0W => assumption); (case q0N => k_asm); (case q0p => k_mem); k_whole)))
  k_with "getMethod ref" => ((k_here; (with_reducible show wpAny _ _ (getMethod (Value.ref _) (PySem.Str.ofString "pop") _) _ _ _); k_dflt (refine' w_popm ?q0W ?q0N ?q0p ?_; (case q0W => assumption); (case q0N => k_asm); (case q0p => k_mem); k_whole)))
  k_with "call builtin:dict.get" => ((k_here; k_dflt (refine' w_get ?q0W ?q0N ?q0p ?_; (case q0W => assumption); (case q0N => k_asm); (case q0p => k_mem); k_whole); intro _))
  k_with "call builtin:dict.pop" => ((k_here; k_dflt (refine' w_pop ?q0W ?q0F ?q0N ?q0p ?q0U ?_; (case q0W => assumption); (case q0F => k_asm); (case q0N => k_asm); (case q0p => k_mem); (case q0U => (first | (refine UpdF.head ?_; assumption) | k_updF)); k_whole); intro _ _ _ _ N'; (try dsimp only at N'); (try (revert N'; intro _)); intro _))
  k_with "setItem ref int" => ((k_here; k_dflt (refine' w_set ?q0W ?q0F ?q0N ?q0U ?q0c ?_; (case q0W => assumption); (case q0F => k_asm); (case q0N => k_asm); (case q0U => (first | (refine UpdF.head ?_; assumption) | k_updF)); (case q0c => first | assumption | omega); k_whole); intro _ _ _ N'; (try dsimp only at N'); (try (revert N'; intro _)); intro _))
  k_with "depth" => (first | exact dp1 (by assumption) rfl | exact dp2 (by assumption) rfl | ((simp +zetaDelta only [depth_mark, depth_under_make, depth_under_kw, depth_in1, depth_deeper, depth_caller]); omega))
  k_with "units" => (first | exact up1 (by assumption) rfl | exact up2 (by assumption) rfl | ((simp +zetaDelta only [units_in1, units_deeper, Around.mark_units, units_caller]); omega))
  k_with "apart" => (first | assumption | exact List.forall_mem_cons.mpr ⟨by k_ne, by assumption⟩ | exact List.forall_mem_cons.mpr ⟨by k_ne, List.forall_mem_cons.mpr ⟨by k_ne, by assumption⟩⟩)
  k_with "fact" => (omega)
  k_with "entered" => ((k_dflt ((case k6 => k_is); (case k7 => k_is); (case k8 => walk_at "room"); (case c5 => decide); (case kB => exact locs rfl); (case c2 => exact rfl); (case c3 => exact rfl); (case c4 => exact rfl))))
  k_with "binds" => ((k_dflt (exact BindsTo.of_eq (by kernel_rfl))))
  k_with "dbinds" => ((k_dflt (exact binds_K (Frag.In.keeps (Ctx.X (by assumption)) (Fr.keep (Ctx.F (by assumption)))) rfl (by k_is) rfl rfl (by kernel_rfl))))
  k_with "room" => (((simp only [rl_is]); omega))
  k_with "assign Tuple" => ((k_here; (with_reducible show wpAny _ _ (assign (Expr.Tuple _ _ _) _ (Value.ref _)) _ _ _); k_dflt (refine' unpackN_ ?q0k1 ?q0k2 ?q0k3 ?q0k4 ?q0k5 ?q0k6 ?_; (case q0k1 => k_asm); (case q0k2 => k_asm); (case q0k3 => exact News.isTup (by k_asm) (by k_mem)); (case q0k4 => first | assumption | exact rfl); (case q0k5 => exact rfl); (case q0k6 => exact rfl); k_whole); intro _ _ _; (try k_sweep)))
  k_with "unpackItems ref" => ((k_here; k_dflt (refine' unpackItemsN_ ?q0k1 ?q0k2 ?q0k3 ?q0k4 ?q0k5 ?_; (case q0k1 => k_asm); (case q0k2 => k_asm); (case q0k3 => kun_tup); (case q0k4 => first | assumption | exact rfl); (case q0k5 => exact rfl); k_whole); intro _ _ _; (try k_sweep)))
  k_with "fold" => (((fail_if_success (fail_if_success k_fold)); refine foldQ ?_; intro _))
  k_with "foldS" => (((fail_if_success (fail_if_success k_fold)); refine foldQS ?_; intro _ _))
  k_with "foldE" => (((fail_if_success (fail_if_success (refine swapT ⟨?_, ?_⟩; k_fold))); refine foldEE ?_; intro _))
  trivial

theorem rows_at_107 : True := by
  k_with "eval Name" => ((k_here; k_dflt (refine' nmL ?q0F ?q0v ?_ ?q0L ?q0x; (case q0x => rfl); (case q0F => k_asm); (case q0L => rfl); (case q0v => rfl); k_whole)))
  k_with "storeName" => ((k_here; k_dflt (refine' stL ?q0F ?q0N ?_ ?q0L ?q0x; (case q0x => rfl); (case q0F => k_asm); (case q0L => rfl); (case q0N => k_asm); k_whole; intro _ _ _ _ _ _; (try k_sweep))))
  trivial
section
variable {prog : Program} {w : World} {p : Program} {loose : List Str} {mean : ExcName → Option Value} {mg mb : Str → Option Value} {A A₀ : Around} {env : Env} {outer : List Env} {base h₀ : Heap} {L : Addr} {m : Str → Option Value} {s : Shared} {news : List (Addr × Obj)} {R : Result → Shared → Prop}
theorem rows_at_108 : True := by
  k_with "call ref" => (((with_reducible show wpAny _ _ (call (Value.ref 845) _) _ _ _); refine stop_at ?_))
  k_with "call ref" => (((with_reducible show wpAny _ _ (call (Value.ref 859) _) _ _ _); refine stop_at ?_))
  k_with "call ref" => (((with_reducible show wpAny _ _ (call (Value.ref 866) _) _ _ _); refine stop_at ?_))
  k_with "call ref" => (((with_reducible show wpAny _ _ (call (Value.ref 871) _) _ _ _); refine stop_at ?_))
  k_with "call ref" => (((with_reducible show wpAny _ _ (call (Value.ref 878) _) _ _ _); refine stop_at ?_))
  k_with "call ref" => (((with_reducible show wpAny _ _ (call (Value.ref 885) _) _ _ _); refine stop_at ?_))
  k_with "compareOp NotEq ref ref" => (((with_reducible show wpAny _ _ (compareOp CmpOp.NotEq (Value.ref _) (Value.ref _)) _ _ _); refine stop_at ?_))
  k_with "compareOp Eq ref ref" => (((with_reducible show wpAny _ _ (compareOp CmpOp.Eq (Value.ref _) (Value.ref _)) _ _ _); (have _ : Stop True := by assumption); refine stop_at ?_))
  k_with "subscriptTail" => (((with_reducible show wpAny _ _ (subscriptTail _ _ (Value.ref _) (Value.int (-1) _)) _ _ _); refine stop_at ?_))
  k_with "exec For Name Call cons nil" => ((k_here; (with_unfolding_all refine' For_G ‹Fr _ _ _ _› ?_); k_whole))
  k_with "exec For Tuple Call cons nil" => ((k_here; (with_unfolding_all refine' For_G ‹Fr _ _ _ _› ?_); k_whole))
  k_with "exec For Name Name cons nil" => ((k_here; (with_unfolding_all refine' For_G ‹Fr _ _ _ _› ?_); k_whole))
  k_with "exec For Name BinOp cons nil" => ((k_here; (with_unfolding_all refine' For_G ‹Fr _ _ _ _› ?_); k_whole))
  k_with "exec For Name List cons nil" => ((k_here; (with_unfolding_all refine' For_G ‹Fr _ _ _ _› ?_); k_whole))
  trivial
theorem walk_from {d0 : DefRec} {k0 : List (Str × PySem.Expr)} (h : defOf view1 rw0.name = some (d0, k0)) (w : WalkO view1 loose (fun mg h => XL view1 [] mg h) kh.says rw0.toRowW d0 k0 fun f vs => PySem.call f vs) :
    ∀ (d : DefRec) (kwd : List (Str × PySem.Expr)), defOf view1 rw0.name = some (d, kwd) → WalkO view1 loose (fun mg h => XL view1 [] mg h) kh.says rw0.toRowW d kwd fun f vs => PySem.call f vs := by
  intro d kwd e
  rw [h] at e
  cases e
  exact w
theorem walk0 : ∀ (d : DefRec) (kwd : List (Str × PySem.Expr)), defOf view1 rw0.name = some (d, kwd) → WalkO view1 loose (fun mg h => XL view1 [] mg h) kh.says rw0.toRowW d kwd fun f vs => PySem.call f vs := by
  refine walk_from (by rfl) ?_
  k_go0
  all_goals try k_fold
  rename_i xs _ _ _ _ _ _ _ sa vs _ hls _ _ _ his _ hlen _ K0 _ h1 F1 N1
  rename Frag.In _ _ => KX
  rename Top _ _ _ _ _ _ => TT
  try dsimp only
  refine foldTop (f := execs) F1 N1 K0 KX TT ?_
  clear F1 N1 K0 KX TT
  intro h9 L9 M9 en9 A9 m9 qk ek st9 F1 N1 K0 KX TT
  k_steps
  rename_i D2 ws h2 hI2 l12 h3 _ _ _ F3 N3 _ _ _ _ h4 tk4 t4 F4 N4 _
  refine Stop.mk (call_R ?_)
  refine' c_entries (items := ws.toArray) (k := 0) (ns := marksS xs) (Ctx.mk K0 F4 KX N4 TT (Around.frames_deeper (Below.stack K0)) rfl rfl rfl) ?hml hI2 (marks_ok xs) (Nat.le_trans (marks_len xs) (by decide)) ?hd ?hu fun h5 tk5 cd nw F5 N5 CT5 sub5 => ?_
  case hml => exact .head _
  case hd => walk_at "depth"
  case hu => walk_at "units"
  have hm5 : (D2, PySem.W.listOf ws.toArray 0) ∈ nw := sub5 _ (.head _)
  clear sub5
  try refine RetQ.ok ?_
  try k_fold
  k_steps
  rename Fr _ _ _ _ => F6
  rename News _ _ _ _ => N6
  replace N6 := News.sub (news' := nw) N6 sub1
  refine Stop.mk (call_R ?_)
  refine' c_board (cd := cd) (S := entN (marksS xs) (marksS xs).length) (Ctx.mk K0 F6 KX N6 TT (Around.frames_deeper (Below.stack K0)) rfl rfl rfl) (layN_at (bits1 _)) CT5 (okc (marks_ok xs) (marks_len xs)) ?hd ?hu fun h7 tk7 brd1 lay1 mem1 bus1 str1 wal1 tab1 pgs1 wd1 tl1 tt1 o1 imm1 F7 N7 W7 B7 a7 l7 c7 => ?_
  case hd => walk_at "depth"
  case hu => walk_at "units"
  try refine RetQ.ok ?_
  try k_fold
  k_steps
  rename Fr _ _ _ _ => F8
  rename News _ _ _ _ => N8
  refine Stop.mk (call_R ?_)
  refine' c_board (cd := cd) (S := entN (marksS xs) (marksS xs).length) (Ctx.mk K0 F8 KX N8 TT (Around.frames_deeper (Below.stack K0)) rfl rfl rfl) (layN_at (bits2 _)) (CT5.mono fun q hq => .tail _ (List.mem_append_right _ hq)) (okc (marks_ok xs) (marks_len xs)) ?hd ?hu fun h9 tk9 brd2 lay2 mem2 bus2 str2 wal2 tab2 pgs2 wd2 tl2 tt2 o2 imm2 F9 N9 W9 B9 a9 l9 c9 => ?_
  case hd => walk_at "depth"
  case hu => walk_at "units"
  try refine RetQ.ok ?_
  try k_fold
  obtain ⟨bs, hbs⟩ : ∃ bs, bs = imm2 ++ (imm1 ++ nw) := ⟨_, rfl⟩
  replace N9 : News _ _ h9 ((D2, PySem.W.listOf ws.toArray 0) :: (wd1, o1) :: (wd2, o2) :: bs) := News.sub N9 fun q hq => by
    rw [hbs] at hq
    simp +zetaDelta only [List.mem_cons, List.mem_append] at hq ⊢
    rcases hq with h | h | h | h | h | h
    · rw [h]; exact .inr (.inr (.inr (.inr hm5)))
    · exact .inr (.inr (.inl h))
    · exact .inl h
    · exact .inr (.inl h)
    · exact .inr (.inr (.inr (.inl h)))
    · exact .inr (.inr (.inr (.inr h)))
  clear N8 N6
  k_steps
  rename_i D3 ws3 h10 F10 N10 hI10 l10
  obtain ⟨ns3, hI3, hn3⟩ : ∃ ns3, IntsAre ws3 ns3 ∧ ∀ n ∈ ns3, 0 ≤ n ∧ n < 1000000000000 := ⟨_, hI10, fun n hn => (List.mem_append.mp hn).elim (marks_ok xs n) fun h => marks_ok xs n (List.mem_of_mem_take h)⟩
  clear hI10
  obtain ⟨base, hbase⟩ : ∃ base, base = (D3, PySem.W.listOf ws3.toArray 0) :: bs := ⟨_, rfl⟩
  replace N10 : News _ _ h10 ((wd1, o1) :: (wd2, o2) :: base) := News.sub N10 fun q hq => by
    rw [hbase] at hq
    simp +zetaDelta only [List.mem_cons] at hq ⊢
    rcases hq with h | h | h | h <;> simp [h]
  have hD3 : (D3, PySem.W.listOf ws3.toArray 0) ∈ base := by rw [hbase]; exact .head _
  have hb1 : ∀ q ∈ imm1, q ∈ base := fun q hq => by rw [hbase, hbs]; exact .tail _ (List.mem_append_right _ (List.mem_append_left _ hq))
  have hb2 : ∀ q ∈ imm2, q ∈ base := fun q hq => by rw [hbase, hbs]; exact .tail _ (List.mem_append_left _ hq)
  have h12 : wd1 < wd2 := l9.1
  have hne1 : ∀ p ∈ base, p.1 ≠ wd1 := fun p hp => by
    rw [hbase, hbs] at hp
    rcases List.mem_cons.mp hp with e | hp
    · rw [e]; exact Nat.ne_of_gt (show _ ∧ _ ∧ _ ∧ _ ∧ _ ∧ _ from l10).2.2.2.1
    · rcases List.mem_append.mp hp with hp | hp
      · exact Nat.ne_of_gt (c9 p hp (wd1, o1) (.head _))
      · rcases List.mem_append.mp hp with hp | hp
        · exact a7 p hp
        · exact Nat.ne_of_lt (allLt_mem l7 p hp)
  have hne2 : ∀ p ∈ base, p.1 ≠ wd2 := fun p hp => by
    rw [hbase, hbs] at hp
    rcases List.mem_cons.mp hp with e | hp
    · rw [e]; exact Nat.ne_of_gt (show _ ∧ _ ∧ _ ∧ _ ∧ _ ∧ _ from l10).2.2.2.2.1
    · rcases List.mem_append.mp hp with hp | hp
      · exact a9 p hp
      · exact Nat.ne_of_lt (allLt_mem l9.2 p hp)
  replace B7 := B7.mono hb1
  replace B9 := B9.mono hb2
  have hB1 := bits1 (marksS xs).sum
  have hB2 := bits2 (((marksS xs).sum.fmod 3 + 1) + ((marksS xs).sum.fdiv 3).fmod 4)
  have SM := same0 (bits1 (marksS xs).sum) (bits2 (((marksS xs).sum.fmod 3 + 1) + ((marksS xs).sum.fdiv 3).fmod 4)) (marks_ok xs)
  clear hbs hbase l10 l9 l7 a9 a7 c9 c7 CT5 hb1 hb2
  have hl3 : (D3, PySem.W.listOf ws3.toArray 0) ∈ (wd1, o1) :: (wd2, o2) :: base := .tail _ (.tail _ hD3)
  refine' iterG_listC [("n" : Str), ("place" : Str), ("way" : Str), ("told" : Str)] (fun _ => JL _ _ _ _ wd1 wd2 base) rfl F10 N10 (News.isList N10 hl3) (N10 _ hl3).2.1 ⟨o1, o2, _, _, rfl, W7, W9, SM⟩ ?turn ?done
  case turn =>
    rintro i v u9 news9 h11 tk11 own I he ⟨o3, o4, c3, c4, rfl, W3, W4, SM3⟩ hoff hsub ⟨oI, hI, hcI⟩ F11 N11
    obtain ⟨n, t9, rfl, hn9⟩ := hI3.at i v (by simpa using he)
    have hnn := hn3 n (List.mem_of_getElem? hn9)
    replace N11 := News.sub N11 sub_two
    try dsimp only
    k_steps
    rename_i lp hx2 lp1 hx3 _ _ _ _ _ lw hx4 F12 N12 lw1
    have hf := fm (a := n) (n := 4) (by decide)
    have hg := fm (a := n.fdiv 4) (n := 4) (by decide)
    have hpa := fm (a := n.fdiv 64) (n := 16) (by decide)
    have hwy := fm (a := n.fdiv 1024) (n := 5) (by decide)
    have hfl : 0 ≤ n.fdiv 5120 := Int.fdiv_nonneg hnn.1 (by decide)
    have hI1 : I ≠ wd1 := fun e => hoff (wd1, o3) (.head _) e.symm
    have hI2 : I ≠ wd2 := fun e => hoff (wd2, o4) (.tail _ (.head _)) e.symm
    have hob1 : ∀ p ∈ own ++ base, p.1 ≠ wd1 := fun p hp => (List.mem_append.mp hp).elim (fun h => (hsub p h).elim (fun e => e ▸ hI1) fun e => e ▸ hne1 _ hD3) (hne1 p)
    have hob2 : ∀ p ∈ own ++ base, p.1 ≠ wd2 := fun p hp => (List.mem_append.mp hp).elim (fun h => (hsub p h).elim (fun e => e ▸ hI2) fun e => e ▸ hne2 _ hD3) (hne2 p)
    obtain ⟨base2, LW, LP, hbase2, N13, hLW, hLP⟩ := two_lists N12
    have hn21 : ∀ p ∈ base2, p.1 ≠ wd1 := fun p hp => by
      rw [hbase2] at hp
      rcases List.mem_cons.mp hp with e | hp
      · rw [e]; exact Nat.ne_of_gt lw1.2.1
      · rcases List.mem_cons.mp hp with e | hp
        · rw [e]; exact Nat.ne_of_gt lp1.1
        · exact hob1 p hp
    have hn22 : ∀ p ∈ base2, p.1 ≠ wd2 := fun p hp => by
      rw [hbase2] at hp
      rcases List.mem_cons.mp hp with e | hp
      · rw [e]; exact Nat.ne_of_gt lw1.2.2.1
      · rcases List.mem_cons.mp hp with e | hp
        · rw [e]; exact Nat.ne_of_gt lp1.2.1
        · exact hob2 p hp
    have hbb : ∀ q ∈ own ++ base, q ∈ base2 := fun q hq => by rw [hbase2]; exact .tail _ (.tail _ hq)
    have hlw : (lw, LW) ∈ (wd1, o3) :: (wd2, o4) :: base2 := .tail _ (.tail _ (by rw [hbase2]; exact .head _))
    have hlp : (lp, LP) ∈ base2 := by rw [hbase2]; exact .tail _ (.head _)
    subst hLW hLP
    refine' iterG_listC [("way" : Str), ("told" : Str)] (fun _ => JL _ _ _ _ wd1 wd2 base2) rfl F12 N13 (News.isList N13 hlw) (N13 _ hlw).2.1 ⟨o3, o4, _, _, rfl, W3, W4, SM3⟩ ?turn2 ?done2
    case turn2 =>
      rintro j v2 u2 news2 h21 tk21 own2 J2 he2 ⟨o5, o6, c5, c6, rfl, W5, W6, SM5⟩ hoff2 hsub2 ⟨oJ, hJ, hcJ⟩ F21 N21
      obtain ⟨way, t21, rfl, hway⟩ := way_of hwy he2
      have hJ1 : J2 ≠ wd1 := fun e => hoff2 (wd1, o5) (.head _) e.symm
      have hJ2 : J2 ≠ wd2 := fun e => hoff2 (wd2, o6) (.tail _ (.head _)) e.symm
      have hr1 : ∀ p ∈ own2 ++ base2, p.1 ≠ wd1 := fun p hp => (List.mem_append.mp hp).elim (fun h => (hsub2 p h).elim (fun e => e ▸ hJ1) fun e => by rw [e]; exact Nat.ne_of_gt lw1.2.1) (hn21 p)
      have hr2 : ∀ p ∈ own2 ++ base2, p.1 ≠ wd2 := fun p hp => (List.mem_append.mp hp).elim (fun h => (hsub2 p h).elim (fun e => e ▸ hJ2) fun e => by rw [e]; exact Nat.ne_of_gt lw1.2.2.1) (hn22 p)
      obtain ⟨r2, hr2e⟩ : ∃ r2, r2 = own2 ++ base2 := ⟨_, rfl⟩
      replace N21 := News.sub N21 sub_two
      have hlp2 := List.mem_append_right own2 hlp
      rw [← hr2e] at hr1 hr2 N21 hlp2
      replace N21 := news_add N21 (.tail _ (.tail _ hlp2))
      try dsimp only
      k_steps
      rename Fr _ _ _ _ => F22
      rename News _ _ _ _ => N22
      replace N22 := News.sub (news' := (wd1, o5) :: (wd2, o6) :: r2) N22 sub1
      have hbr : ∀ q ∈ base, q ∈ r2 := fun q hq => by rw [hr2e]; exact List.mem_append_right _ (hbb q (List.mem_append_right _ hq))
      have G5 := SM5.g1
      have G6 := SM5.g2
      refine Stop.mk (call_R ?_)
      refine' c_asked (imm := (wd2, o6) :: r2) (Ctx.mk K0 F22 KX N22 TT (Around.frames_deeper (Below.stack K0)) rfl rfl rfl) ⟨KX, TT, ktsDicts_nil⟩ (B7.mono fun q hq => .tail _ (hbr q hq)) (layN_at hB1) W5 (List.forall_mem_cons.mpr ⟨Nat.ne_of_gt h12, hr1⟩) (by have := G5.len hB1; omega) (G5.val hB1) hf hg hpa hfl rfl (ad_in hB1 hf hg hpa) (ad_p1 hB1 hf hg hpa) (ad_p1m hB1 hf hg hpa) (Good.p2 hB1 hf hg hpa G5) (dn_in hB1 hf hg hpa) (dn_p1 hB1 hf hg hpa) (dn_p1m hB1 hf hg hpa) (Good.p2D hB1 hf hg hpa G5) hway ?hd ?hu fun h25 tk25 lr1 res1 o7 F25 N25 W25 R25 O25 P25 L25 => ?_
      case hd => walk_at "depth"
      case hu => walk_at "units"
      replace N25 := news_add N25 (.tail _ (List.mem_append_right _ (.tail _ hlp2)))
      try refine RetQ.ok ?_
      try k_fold
      k_steps
      rename Fr _ _ _ _ => F26
      rename News _ _ _ _ => N26
      have hres2 : ∀ p ∈ res1, p.1 ≠ wd2 := fun p hp e => P25 p hp (wd2, o6) (.head _) e.symm
      replace N26 := news_far (News.sub (news' := (wd1, o7) :: (res1 ++ ((wd2, o6) :: r2))) N26 sub1)
      refine Stop.mk (call_R ?_)
      refine' c_asked (imm := (wd1, o7) :: (res1 ++ r2)) (Ctx.mk K0 F26 KX N26 TT (Around.frames_deeper (Below.stack K0)) rfl rfl rfl) ⟨KX, TT, ktsDicts_nil⟩ (B9.mono fun q hq => .tail _ (List.mem_append_right _ (hbr q hq))) (layN_at hB2) W6 (List.forall_mem_cons.mpr ⟨Nat.ne_of_lt h12, fun p hp => (List.mem_append.mp hp).elim (hres2 p) (hr2 p)⟩) (by have := G6.len hB2; omega) (G6.val hB2) hf hg hpa hfl rfl (ad_in hB2 hf hg hpa) (ad_p1 hB2 hf hg hpa) (ad_p1m hB2 hf hg hpa) (Good.p2 hB2 hf hg hpa G6) (dn_in hB2 hf hg hpa) (dn_p1 hB2 hf hg hpa) (dn_p1m hB2 hf hg hpa) (Good.p2D hB2 hf hg hpa G6) hway ?hd ?hu fun h29 tk29 lr2 res2 o8 F29 N29 W29 R29 O29 P29 L29 => ?_
      case hd => walk_at "depth"
      case hu => walk_at "units"
      have SA := same_ask (fl := n.fdiv 5120) (way := way) SM5 hB1 hB2 hf hg hpa hway hfl
      try refine RetQ.ok ?_
      try k_fold
      k_steps
      have R29' := SA.1 ▸ R29
      have SM7 := SA.2
      refine Stop.mk (ne_same R25 R29' N29 (fun q hq => .tail _ (List.mem_append_right _ (.tail _ (List.mem_append_left _ hq)))) (fun q hq => .tail _ (List.mem_append_left _ hq)) ask_shaped (by ktr_units) ?_)
      clear R29 R25 R29' SA
      try refine RetQ.ok ?_
      try k_fold
      k_steps
      · rename_i hw0
        obtain ⟨LB, z, kz, hmz, hz⟩ := L25 hw0
        refine Stop.mk (last_item N29 (.tail _ (List.mem_append_right _ (.tail _ (List.mem_append_left _ hmz)))) ?_)
        rcases hz with rfl | ⟨zn, zt, rfl⟩
        · try refine RetQ.ok ?_
          try k_fold
          k_steps
          show NextG _ _ _ _ _ _ _ _ _
          exact jl_next (by k_asm) (by repeat (first | (with_reducible exact over_off) | ((with_reducible refine upd_off ?_ ?_); exact rfl) | ((with_reducible refine over_offs ?_ ?_); exact rfl) | exact fun _ _ => rfl)) N29 (fun q hq => by rw [hr2e]; exact hq) W25 W29 SM7 hoff2
        · try refine RetQ.ok ?_
          try k_fold
          k_steps
          show NextG _ _ _ _ _ _ _ _ _
          exact jl_next (by k_asm) (by repeat (first | (with_reducible exact over_off) | ((with_reducible refine upd_off ?_ ?_); exact rfl) | ((with_reducible refine over_offs ?_ ?_); exact rfl) | exact fun _ _ => rfl)) N29 (fun q hq => by rw [hr2e]; exact hq) W25 W29 SM7 hoff2
      · show NextG _ _ _ _ _ _ _ _ _
        exact jl_next (by k_asm) (by repeat (first | (with_reducible exact over_off) | ((with_reducible refine upd_off ?_ ?_); exact rfl) | ((with_reducible refine over_offs ?_ ?_); exact rfl) | exact fun _ _ => rfl)) N29 (fun q hq => by rw [hr2e]; exact hq) W25 W29 SM7 hoff2
    case done2 =>
      rintro h21 tk21 u2 news2 F21 N21 ⟨o5, o6, c5, c6, rfl, W5, W6, SM5⟩
      have G5 := SM5.g1
      have G6 := SM5.g2
      have hb2b : ∀ q ∈ base, q ∈ base2 := fun q hq => hbb q (List.mem_append_right _ hq)
      try dsimp only
      k_steps
      rename Fr _ _ _ _ => F31
      refine Stop.mk (call_R ?_)
      refine' c_cells (imm := (wd2, o6) :: base2) (Ctx.mk K0 F31 KX N21 TT (Around.frames_deeper (Below.stack K0)) rfl rfl rfl) (B7.mono fun q hq => .tail _ (hb2b q hq)) (layN_at hB1) W5 (List.forall_mem_cons.mpr ⟨Nat.ne_of_gt h12, hn21⟩) (G5.len hB1) (G5.keys hB1) ?hd ?hu fun h33 tk33 lc1 rs1 ks1 F33 N33 P33 S33 R33 O33 D33 => ?_
      case hd => walk_at "depth"
      case hu => walk_at "units"
      try refine RetQ.ok ?_
      try k_fold
      k_steps
      rename Fr _ _ _ _ => F34
      have hrs2 : ∀ p ∈ rs1, p.1 ≠ wd2 := fun p hp e => D33 p hp (wd2, o6) (.head _) e.symm
      replace N33 := news_far N33
      refine Stop.mk (call_R ?_)
      refine' c_cells (imm := (wd1, o5) :: (rs1 ++ base2)) (Ctx.mk K0 F34 KX N33 TT (Around.frames_deeper (Below.stack K0)) rfl rfl rfl) (B9.mono fun q hq => .tail _ (List.mem_append_right _ (hb2b q hq))) (layN_at hB2) W6 (List.forall_mem_cons.mpr ⟨Nat.ne_of_lt h12, fun p hp => (List.mem_append.mp hp).elim (hrs2 p) (hn22 p)⟩) (G6.len hB2) (G6.keys hB2) ?hd ?hu fun h37 tk37 lc2 rs2 ks2 F37 N37 P37 S37 R37 O37 D37 => ?_
      case hd => walk_at "depth"
      case hu => walk_at "units"
      try refine RetQ.ok ?_
      try k_fold
      k_steps
      have SC := same_cells SM5 hB1 hB2 P33 S33 P37 S37
      have R37' := SC ▸ R37
      refine Stop.mk (ne_same R33 R37' N37 (fun q hq => .tail _ (List.mem_append_right _ (.tail _ (List.mem_append_left _ hq)))) (fun q hq => .tail _ (List.mem_append_left _ hq)) cells_shaped (by ktr_units) ?_)
      clear R33 R37 R37' SC
      try refine RetQ.ok ?_
      try k_fold
      k_steps
      show NextG _ _ _ _ _ _ _ _ _
      exact jl_next (by k_asm) (by repeat (first | (with_reducible exact over_off) | ((with_reducible refine upd_off ?_ ?_); exact rfl) | ((with_reducible refine over_offs ?_ ?_); exact rfl) | exact fun _ _ => rfl)) N37 hbb W5 W6 SM5 hoff
  case done =>
    rintro h11 tk11 u9 news9 F11 N11 ⟨o3, o4, c3, c4, rfl, W3, W4, SM3⟩
    have G3 := SM3.g1
    have G4 := SM3.g2
    have ST : Stop True := ⟨trivial⟩
    try dsimp only
    k_steps
    rename Fr _ _ _ _ => F31
    refine Stop.mk (call_R ?_)
    refine' c_lrows (imm := (wd2, o4) :: base) (Ctx.mk K0 F31 KX N11 TT (Around.frames_deeper (Below.stack K0)) rfl rfl rfl) (B7.mono fun q hq => .tail _ hq) (layN_at hB1) W3 (List.forall_mem_cons.mpr ⟨Nat.ne_of_gt h12, hne1⟩) (G3.val hB1) (en_nat hB1) (G3.hinv hB1) (G3.hra hB1) ?hd ?hu fun h33 tk33 lc1 rs1 F33 N33 R33 O33 D33 => ?_
    case hd => walk_at "depth"
    case hu => walk_at "units"
    try refine RetQ.ok ?_
    try k_fold
    k_steps
    rename Fr _ _ _ _ => F34
    have hrs2 : ∀ p ∈ rs1, p.1 ≠ wd2 := fun p hp e => D33 p hp (wd2, o4) (.head _) e.symm
    replace N33 := news_far N33
    refine Stop.mk (call_R ?_)
    refine' c_lrows (imm := (wd1, o3) :: (rs1 ++ base)) (Ctx.mk K0 F34 KX N33 TT (Around.frames_deeper (Below.stack K0)) rfl rfl rfl) (B9.mono fun q hq => .tail _ (List.mem_append_right _ hq)) (layN_at hB2) W4 (List.forall_mem_cons.mpr ⟨Nat.ne_of_lt h12, fun p hp => (List.mem_append.mp hp).elim (hrs2 p) (hne2 p)⟩) (G4.val hB2) (en_nat hB2) (G4.hinv hB2) (G4.hra hB2) ?hd ?hu fun h37 tk37 lc2 rs2 F37 N37 R37 O37 D37 => ?_
    case hd => walk_at "depth"
    case hu => walk_at "units"
    try refine RetQ.ok ?_
    try k_fold
    k_steps
    have SC := same_rows SM3 hB1 hB2
    have R37' := SC ▸ R37
    refine Stop.mk (eq_same R33 R37' N37 (fun q hq => .tail _ (List.mem_append_right _ (.tail _ (List.mem_append_left _ hq)))) (fun q hq => .tail _ (List.mem_append_left _ hq)) rows_shaped (by ktr_units) ?_)
    clear R33 R37 R37' SC
    replace N37 : News _ _ h37 ((wd1, o3) :: (wd2, o4) :: base) := News.sub N37 fun q hq => by
      simp +zetaDelta only [List.mem_cons, List.mem_append] at hq ⊢
      rcases hq with h | h | h <;> simp [h]
    try refine RetQ.ok ?_
    try k_fold
    k_steps
    rename Fr _ _ _ _ => F41
    refine Stop.mk (call_R ?_)
    refine' c_beyond (imm := (wd2, o4) :: base) (Ctx.mk K0 F41 KX N37 TT (Around.frames_deeper (Below.stack K0)) rfl rfl rfl) ⟨KX, TT, ktsDicts_nil⟩ (B7.mono fun q hq => .tail _ hq) (layN_at hB1) (List.forall_mem_cons.mpr ⟨Nat.ne_of_gt h12, hne1⟩) ?hd ?hu fun h43 tk43 lb1 rb1 F43 N43 R43 O43 D43 => ?_
    case hd => walk_at "depth"
    case hu => walk_at "units"
    try refine RetQ.ok ?_
    try k_fold
    k_steps
    rename Fr _ _ _ _ => F44
    have hrb2 : ∀ p ∈ rb1, p.1 ≠ wd2 := fun p hp e => D43 p hp (wd2, o4) (.head _) e.symm
    replace N43 := news_far N43
    refine Stop.mk (call_R ?_)
    refine' c_beyond (imm := (wd1, o3) :: (rb1 ++ base)) (Ctx.mk K0 F44 KX N43 TT (Around.frames_deeper (Below.stack K0)) rfl rfl rfl) ⟨KX, TT, ktsDicts_nil⟩ (B9.mono fun q hq => .tail _ (List.mem_append_right _ hq)) (layN_at hB2) (List.forall_mem_cons.mpr ⟨Nat.ne_of_lt h12, fun p hp => (List.mem_append.mp hp).elim (hrb2 p) (hne2 p)⟩) ?hd ?hu fun h47 tk47 lb2 rb2 F47 N47 R47 O47 D47 => ?_
    case hd => walk_at "depth"
    case hu => walk_at "units"
    try refine RetQ.ok ?_
    try k_fold
    k_steps
    refine Stop.mk (eq_same R43 R47 N47 (fun q hq => .tail _ (List.mem_append_right _ (.tail _ (List.mem_append_left _ hq)))) (fun q hq => .tail _ (List.mem_append_left _ hq)) ⟨by decide +kernel, by decide +kernel⟩ (by ktr_units) ?_)
    try refine RetQ.ok ?_
    try k_fold
    k_steps
    rename News _ _ _ _ => N49
    refine Stop.mk (eq_same R47 (rb := [(_, tupObj [.int 13 _, .bool true])]) (RI.tup (.head _) (.cons (RI.int _ _) (.cons (RI.bool _) .nil))) N49 (fun q hq => .tail _ (.tail _ (List.mem_append_left _ hq))) (fun q hq => by rw [List.mem_singleton.mp hq]; exact .head _) ⟨by decide +kernel, by decide +kernel⟩ (by ktr_units) ?_)
    try refine RetQ.ok ?_
    try k_fold
    k_steps
end
end Mine
end W20
end WW
theorem PySem.Challenge.cw_nz0224_01_holds : PySem.Challenge.rw_nz0224_01.Holds :=
  Mine.hd Mine.walk0

import PyProof.Rows.All
import Wide.All
import OpenK.AllK
import Wide.FinOn
import PySem.Challenge.RW_pb0313_01
set_option Elab.async false
set_option compiler.extract_closed false
section
open PySem PySem.W PyProof.Rows
namespace Mine
set_option maxRecDepth 100000 in
set_option maxHeartbeats 8000000 in
open_top hd for PySem.Challenge.rw_pb0313_01
end Mine
end
section
open PySem PySem.W PyProof.Rows
set_option maxRecDepth 100000
namespace Mine
/-- an object's own dict stays the same from one heap to the next -/
noncomputable def DK (h h' : Heap) : Prop := ∀ b o, h.get? b = some o → ∃ o', h'.get? b = some o' ∧ o'.dict = o.dict
theorem DK.refl (h : Heap) : DK h h := fun _ o e => ⟨o, e, rfl⟩
theorem DK.trans {h1 h2 h3 : Heap} (a : DK h1 h2) (b : DK h2 h3) : DK h1 h3 := fun x o e =>
  let ⟨o1, e1, d1⟩ := a x o e
  let ⟨o2, e2, d2⟩ := b x o1 e1
  ⟨o2, e2, d2.trans d1⟩
theorem DK.push (h : Heap) (o : Obj) : DK h (h.push o) := fun _ o' e => ⟨o', Heap.get?_push_of_some _ e, rfl⟩
theorem DK.update (h : Heap) (a : Addr) (f : Obj → Obj) (hd : ∀ o, (f o).dict = o.dict) (hf : ∀ o, o.isFreed = false → (f o).isFreed = false) : DK h (h.update a f) := by
  intro b o e
  by_cases hb : a = b
  · subst hb
    refine ⟨f o, Heap.get?_update_self _ e (hf o ?_), hd o⟩
    cases o with
    | mk c d dt sl =>
      unfold Heap.get? at e
      cases dt <;> first | rfl | (exfalso; revert e; split <;> intro e <;> simp_all)
  · exact ⟨o, (Heap.get?_update_other _ _ hb).trans e, rfl⟩

inductive Safe {α : Type} : Sem α → Prop
  | pure (a : α) : Safe (.pure a)
  | raise (e : Value) : Safe (.raise e)
  | unsupported (w : String) : Safe (.unsupported w)
  | finish (e : Ending) : Safe (.finish e)
  | rule {t : String} {k : Unit → Sem α} (h : ∀ x, Safe (k x)) : Safe (.rule t k)
  | at {p : Pos} {k : Unit → Sem α} (h : ∀ x, Safe (k x)) : Safe (.at p k)
  | load {a : Addr} {p : Option Value} {k : Obj → Sem α} (h : ∀ x, Safe (k x)) : Safe (.load a p k)
  | update {a : Addr} {p : Option Value} {f : Obj → Obj} {k : Unit → Sem α} (hd : ∀ o, (f o).dict = o.dict) (hf : ∀ o, o.isFreed = false → (f o).isFreed = false) (h : ∀ x, Safe (k x)) : Safe (.update a p f k)
  | alloc {o : Obj} {k : Addr → Sem α} (h : ∀ x, Safe (k x)) : Safe (.alloc o k)
  | point {l : List Value} {k : Unit → Sem α} (h : ∀ x, Safe (k x)) : Safe (.point l k)
  | stack {k : List (Code × Pos) → Sem α} (h : ∀ x, Safe (k x)) : Safe (.stack k)
  | ask {k : Setting → Sem α} (h : ∀ x, Safe (k x)) : Safe (.ask k)
  | fresh {k : Tok → Sem α} (h : ∀ x, Safe (k x)) : Safe (.fresh k)

theorem Safe.bind' {α β : Type} {m : Sem α} {f : α → Sem β} (hm : Safe m) (hf : ∀ a, Safe (f a)) : Safe (m.bind f) := by
  induction hm with
  | pure a => exact hf a
  | raise e => exact .raise e
  | unsupported w => exact .unsupported w
  | finish e => exact .finish e
  | rule _ ih => exact .rule fun x => ih x
  | «at» _ ih => exact .at fun x => ih x
  | load _ ih => exact .load fun x => ih x
  | update hd hf' _ ih => exact .update hd hf' fun x => ih x
  | alloc _ ih => exact .alloc fun x => ih x
  | point _ ih => exact .point fun x => ih x
  | stack _ ih => exact .stack fun x => ih x
  | ask _ ih => exact .ask fun x => ih x
  | fresh _ ih => exact .fresh fun x => ih x
theorem Safe.bind {α β : Type} {m : Sem α} {f : α → Sem β} (hm : Safe m) (hf : ∀ a, Safe (f a)) : Safe (m >>= f) := Safe.bind' hm hf

theorem Safe.wp {α : Type} {M : Model} {Γ : Ctx} {t : Sem α} (hs : Safe t) : ∀ {Q : α → Pos → Shared → Prop} {E : Value → Pos → Shared → Prop} {p : Pos} {s : Shared}, Sem.wp M Γ t Q E p s →
    Sem.wp M Γ t (fun a p' s' => Q a p' s' ∧ DK s.heap s'.heap) (fun e p' s' => E e p' s' ∧ DK s.heap s'.heap) p s := by
  induction hs with
  | pure a => intro Q E p s h; rw [Sem.wp_pure] at h ⊢; exact ⟨h, DK.refl _⟩
  | raise e => intro Q E p s h; rw [Sem.wp_raise] at h ⊢; exact ⟨h, DK.refl _⟩
  | unsupported w => intro Q E p s h; rw [Sem.wp_unsupported] at h; exact h.elim
  | finish e => intro Q E p s h; rw [Sem.wp_finish] at h; exact h.elim
  | rule _ ih => intro Q E p s h; rw [Sem.wp_rule] at h ⊢; exact ih () h
  | «at» _ ih => intro Q E p s h; rw [Sem.wp_at] at h ⊢; exact ih () h
  | load _ ih => intro Q E p s h; rw [Sem.wp_load] at h ⊢; obtain ⟨o, ho, h⟩ := h; exact ⟨o, ho, ih o h⟩
  | update hd hf _ ih =>
    intro Q E p s h
    rw [Sem.wp_update] at h ⊢
    refine ⟨h.1, ?_⟩
    have := ih () h.2
    refine Sem.wp_mono _ _ _ (fun a p' s' x => ⟨x.1, (DK.update _ _ _ hd hf).trans x.2⟩) (fun a p' s' x => ⟨x.1, (DK.update _ _ _ hd hf).trans x.2⟩) _ _ this
  | alloc _ ih =>
    intro Q E p s h
    rw [Sem.wp_alloc] at h ⊢
    have := ih _ h
    refine Sem.wp_mono _ _ _ (fun a p' s' x => ⟨x.1, (DK.push _ _).trans x.2⟩) (fun a p' s' x => ⟨x.1, (DK.push _ _).trans x.2⟩) _ _ this
  | point _ ih => intro Q E p s h; rw [Sem.wp_point] at h ⊢; exact ih () h
  | stack _ ih => intro Q E p s h; rw [Sem.wp_stack] at h ⊢; exact ih _ h
  | ask _ ih => intro Q E p s h; rw [Sem.wp_ask] at h ⊢; exact ih _ h
  | fresh _ ih => intro Q E p s h; rw [Sem.wp_fresh] at h ⊢; exact ih _ h

theorem Safe.any {α : Type} {M : Model} {A : Around} {t : Sem α} (hs : Safe t) {Q : α → Shared → Prop} {E : Value → Shared → Prop} {s : Shared} (h : wpAny M A t Q E s) :
    wpAny M A t (fun a s' => Q a s' ∧ DK s.heap s'.heap) (fun e s' => E e s' ∧ DK s.heap s'.heap) s :=
  fun Γ p hΓ => hs.wp (h Γ p hΓ)

/-! the trees that handle a raised exception -/
theorem safe_unsupported {α : Type} (w : String) : Safe (unsupported w : Sem α) := .unsupported w
theorem safe_pure {α : Type} (a : α) : Safe (pure a : Sem α) := .pure a
theorem safe_fieldsOf (v : Value) : Safe (fieldsOf v) := by
  unfold fieldsOf
  cases v <;> first | exact .unsupported _ | skip
  refine Safe.bind (.load fun o => .pure o) fun o => ?_
  split
  · exact .pure _
  · exact .unsupported _
theorem safe_field (v : Value) (i : Nat) : Safe (field v i) := by
  unfold field
  refine Safe.bind (safe_fieldsOf v) fun vs => ?_
  split
  · exact .pure _
  · exact .unsupported _
theorem mapFields_dict (f : Array Value → Array Value) (o : Obj) : (Obj.mapFields f o).dict = o.dict := by
  unfold Obj.mapFields
  split <;> rfl
theorem mapFields_freed (f : Array Value → Array Value) (o : Obj) (h : o.isFreed = false) : (Obj.mapFields f o).isFreed = false := by
  unfold Obj.mapFields
  split
  · rfl
  · exact h
theorem safe_setField (v : Value) (i : Nat) (x : Value) : Safe (setField v i x) := by
  unfold setField
  cases v <;> first | exact .unsupported _ | skip
  unfold updateField
  refine Safe.bind (.load fun o => .pure o) fun o => ?_
  split
  · split
    · exact .update (mapFields_dict _) (mapFields_freed _) fun _ => .pure _
    · exact .unsupported _
  · exact .unsupported _
theorem safe_setFlight (e : Value) (f : Option Addr) : Safe (setFlight e f) := by
  unfold setFlight
  refine Safe.bind (safe_field e 1) fun tb => ?_
  split
  · exact safe_setField _ _ _
  · exact .pure _
theorem safe_stack : Safe stack := .stack fun x => .pure x
theorem safe_frameEnvs : Safe frameEnvs := Safe.bind safe_stack fun _ => .pure _
theorem safe_underTheClaimsCaller : Safe underTheClaimsCaller := Safe.bind safe_stack fun _ => .pure _
theorem safe_behindIsImport (env : Env) (outer : List Env) : Safe (behindIsImport env outer) := by
  unfold behindIsImport
  split
  · exact .pure _
  split
  · exact .pure _
  exact Safe.bind (safe_field _ _) fun _ => .pure _
theorem safe_keptBack (env : Env) (b : Bool) (l : List Env) : Safe (keptBack env b l) := by
  unfold keptBack
  split
  · split
    · exact .pure _
    · refine Safe.bind safe_underTheClaimsCaller fun _ => ?_
      exact .pure _
  · exact .pure _
theorem slots_dict (o : Obj) (sl : Array (Option Value)) : ({ o with slots := sl } : Obj).dict = o.dict := rfl
theorem slots_freed (o : Obj) (sl : Array (Option Value)) (h : o.isFreed = false) : ({ o with slots := sl } : Obj).isFreed = false := by
  rw [kts_isFreed]; exact h
theorem safe_readyFrames : ∀ l, Safe (readyFrames l)
  | [] => .pure _
  | env :: outer => by
    unfold readyFrames
    split
    · refine Safe.bind (.load fun o => .pure o) fun o => ?_
      split
      · exact .pure _
      · refine Safe.bind (safe_behindIsImport _ _) fun _ => Safe.bind (safe_keptBack _ _ _) fun _ => ?_
        exact .update (fun _ => rfl) (fun o h => slots_freed o _ h) fun _ => safe_readyFrames outer
    · exact .unsupported _
theorem safe_frameObject (l : List Env) : Safe (frameObject l) := by
  unfold frameObject
  split
  · exact .pure _
  · exact Safe.bind (safe_readyFrames _) fun _ => .pure _
theorem safe_frameOf (env : Env) : Safe (PySem.frameOf env) := by
  unfold PySem.frameOf
  refine Safe.bind safe_frameEnvs fun _ => Safe.bind (safe_frameObject _) fun r => ?_
  split
  · exact .pure _
  · exact .unsupported _
theorem safe_entryPlaceOf (f : Addr) (b : Bool) : Safe (entryPlaceOf f b) := by
  unfold entryPlaceOf
  refine Safe.bind safe_stack fun _ => ?_
  split <;> exact .pure _
theorem safe_newEntry (a b c d e : Value) (l : List Value) : Safe (EntryCells.newEntry a b c d e l) := by
  unfold EntryCells.newEntry newFields newObj newObjAsIs
  dsimp only
  repeat' split
  all_goals first | exact Safe.bind (.unsupported _) fun _ => .alloc fun _ => .pure _ | exact .alloc fun _ => .pure _ | exact .unsupported _
theorem safe_noteFrame (e : Value) (env : Env) : Safe (noteFrame e env) := by
  unfold noteFrame
  split
  · refine Safe.bind (safe_field _ _) fun head => ?_
    have tail : Safe (do setField e 1 (← EntryCells.newEntry head (← PySem.frameOf env) .none (rawInt (‹_› : Addr)) .none (← entryPlaceOf (‹_› : Addr) (head != .none)))) :=
      Safe.bind (safe_frameOf _) fun _ => Safe.bind (safe_entryPlaceOf _ _) fun _ => Safe.bind (safe_newEntry _ _ _ _ _ _) fun _ => safe_setField _ _ _
    split
    · refine Safe.bind (safe_field _ _) fun _ => ?_
      split
      · exact .pure _
      · exact Safe.bind (safe_setField _ _ _) fun _ => tail
    · exact tail
  · exact .unsupported _
theorem safe_leaving (env : Env) (e : Value) : Safe (leaving env e) := Safe.bind (safe_noteFrame _ _) fun _ => safe_setFlight _ _
end Mine
end
section
open PySem PySem.W PyProof.Rows
set_option maxRecDepth 100000
namespace Mine
/-- the state that a caller of one of the text's functions stands in, bundled by hand as premises -/
noncomputable abbrev strE (w : World) (k : Str) (t : Tok) (v : Value) : DictEntry := ⟨PyData.keyHash w.params k, .str k t, v⟩
noncomputable abbrev readerObj (w : World) (k1 k2 k3 : Tok) (l : Addr) (at' : Int) (t2 : Tok) (pl : Int) (t3 : Tok) : Obj :=
  dictOf [strE w (Str.ofString "data") k1 (.ref l), strE w (Str.ofString "at") k2 (.int at' t2), strE w (Str.ofString "place") k3 (.int pl t3)] 3
/-- a fence: the walk stops here -/
structure Fence (P : Prop) : Prop where
  it : P
end Mine
end
section
open PySem PySem.W PyProof.Rows PySem.Calls PySem.Spec
set_option maxRecDepth 100000
namespace Mine

/-- the exception object before it has a dict of its own -/
noncomputable abbrev excObj (C t : Addr) : Obj := { cls := .ref C, data := .fields #[.ref t, .none, .none, .none, .bool false, .none] }
noncomputable abbrev excObjD (C t dx : Addr) : Obj := { cls := .ref C, dict := some dx, data := .fields #[.ref t, .none, .none, .none, .bool false, .none] }
noncomputable abbrev tupObj (vs : List Value) : Obj := { cls := .type "tuple", data := .seq vs.toArray }

section
variable {prog : Program} {w : World} {A : Around} {E : Value → Shared → Prop} {h : Heap} {g : Array GenState} {d : Drawn} {t : Nat} {os : OsState}
variable {nm q : Str} {C N : Addr} {bs bm bmB : List Value} {hdct : Bool} {sn : List Str} {sub : List Value} {ab : Bool} {col : Option Bool} {dd : Option Addr} {k0 k1 k2 k3 k5 : Option Value} {B newId initId : String}

theorem fe_type_call (F : ExcBaseFacts B newId initId bmB) (T : OwnTail h bmB bm) {f : Addr} {rest : List Value} {Q : PySem.Fin → Shared → Prop}
    (hC : h.get? C = some (excClassObj nm q C N bs bm hdct sn sub ab col dd k0 k1 k2 k3 k5 newId))
    (hi : Looks (model prog w) h (typeLookup (.ref C) "__init__") (some (.ref f))) (hb : ∀ self, Looks (model prog w) h (bindSpecial (.ref f) self) (.ref f, [self]))
    (hq : codeAny (model prog w) A (.call (.ref f) ⟨.ref (h.objs.size + 1) :: rest, []⟩)
      (fun r s' => match r with | .ok (.ret v) => v = .none ∧ Q (.done (.ret (.ref (h.objs.size + 1)))) s' | .ok _ => False | .error e => E e s')
      ⟨(h.push (tupObj rest)).push (excObj C h.objs.size), g, d, t, os⟩)
    (hrest : rest.length ≤ sizeLine) :
    wpAny (model prog w) A (Builtin.«type.__call__» ⟨.ref C :: rest, []⟩) Q E ⟨h, g, d, t, os⟩ := by
  repeat (first | with_reducible refine wpAny_loadPart_at hC ?_ | with_reducible refine wpAny_madeBy_exc hC ?_ | wp_step)
  refine codeAny_call_builtin_code (Code.quiet_builtin _ F.quiet) (wpAny_check_new_subT F T hC ?_)
  refine codeAny_exc_new_subT F T hC ?_ hrest
  show wpAny _ _ _ _ _ _
  have hk : ∀ b o, h.get? b = some o → ((h.push (tupObj rest)).push (excObj C h.objs.size)).get? b = some o := fun b o e => Heap.get?_push_of_some _ (Heap.get?_push_of_some _ e)
  have hC₁ := hk _ _ hC
  have hget : ((h.push (tupObj rest)).push (excObj C h.objs.size)).get? (h.objs.size + 1) = some (excObj C h.objs.size) := by heap_get
  have hcC : (Value.ref C :: bm).contains (.ref C) = true := by simp
  have hi' := hi.keeps hk
  have hb' := (hb (.ref (h.objs.size + 1))).keeps hk
  unfold isInstance
  repeat (first | with_reducible refine wpAny_loadPart_at hget ?_ | (with_reducible refine wpAny_isSubtype_exc hC₁ ?_; rw [hcC]) | wp_step)
  refine hi'.here ?_
  refine wpAny_holding (wpAny_bind (hb'.here ?_))
  refine wpAny_bind (wpAny_call (codeAny_mono hq fun r s' z => ?_))
  rcases r with e | (v | _ | _ | _) <;> first | exact z | exact z.elim | skip
  obtain ⟨rfl, z⟩ := z
  exact wpAny_pure (wpAny_pure z)
end
end Mine
end
section
open PySem PySem.W PyProof.Rows PySem.Calls PySem.Spec
set_option maxRecDepth 100000
namespace Mine
/-- what the written part says of a class of exceptions with an __init__ of its own -/
theorem six {α : Type} : ∀ {l : List α}, l.length = 6 → ∃ a b c d e f, l = [a, b, c, d, e, f]
  | [a, b, c, d, e, f], _ => ⟨a, b, c, d, e, f, rfl⟩
noncomputable def feData (P : ClassData → Bool) : Data → Bool
  | .cls cd => P cd
  | _ => false
theorem feData_cls {P : ClassData → Bool} {d : Data} (e : feData P d = true) : ∃ cd, d = .cls cd ∧ P cd = true := by
  cases d <;> first | exact ⟨_, rfl, e⟩ | exact absurd e Bool.false_ne_true
/-- what of a class object the contract needs, read off by projections (a deep match costs much room) -/
noncomputable def feIn (K : Frag) (C : Addr) (bmB : List Value) (newId : String) (f : Addr) : Bool := match K.lookup C with
  | some o => o.cls == .type "type" && feData (fun cd => o.slots.toList.length == 6 && o.slots.toList[4]? == some (some (.builtin newId)) && cd.mro == .ref C :: cd.mro.tail && !cd.hasDel && tailIn K bmB cd.mro.tail && findIn K (.ref C) "__init__" == some (some (.ref f)) && typeIn K (.ref f) == some (.type "function") && cd.hasDict) o.data
  | none => false
/-- all of it in one constructor: taken apart in one step, a great goal is copied once alone -/
inductive FeCls (K : Frag) (h : Heap) (C f : Addr) (bmB : List Value) (newId : String) : Prop
  | mk (nm q : Str) (N : Addr) (bs bm : List Value) (sn : List Str) (sub : List Value) (ab : Bool) (col : Option Bool) (dd : Option Addr) (k0 k1 k2 k3 k5 : Option Value)
    (hC : h.get? C = some (excClassObj nm q C N bs bm true sn sub ab col dd k0 k1 k2 k3 k5 newId)) (T : OwnTail h bmB bm)
    (hi : findIn K (.ref C) "__init__" = some (some (.ref f))) (hf : typeIn K (.ref f) = some (.type "function")) : FeCls K h C f bmB newId
inductive KtsCls (h : Heap) (C : Addr) (T : String) : Prop
  | mk (nm q : Str) (N : Addr) (bs bm : List Value) (hdct : Bool) (sn : List Str) (sub : List Value) (ab : Bool) (col : Option Bool) (dd : Option Addr) (k0 k1 k2 k3 k5 : Option Value) (newId : String)
    (hC : h.get? C = some (excClassObj nm q C N bs bm hdct sn sub ab col dd k0 k1 k2 k3 k5 newId)) (hb : bm.contains (.type "BaseException") = true) (hT : bm.contains (.type T) = true) : KtsCls h C T
theorem kts_clsI {K : Frag} {h : Heap} {C : Addr} {T : String} (X : K.In h) (q : ktsIn K C T = true) : KtsCls h C T := by
  obtain ⟨nm, q', N, bs, bm, hdct, sn, sub, ab, col, dd, k0, k1, k2, k3, k5, newId, hC, hb, hT⟩ := kts_cls X q
  exact .mk nm q' N bs bm hdct sn sub ab col dd k0 k1 k2 k3 k5 newId hC hb hT
theorem fe_cls_of {K : Frag} {h : Heap} {C f : Addr} {bmB : List Value} {newId : String} (X : K.In h) (e : feIn K C bmB newId f = true) : FeCls K h C f bmB newId := by
  unfold feIn at e
  cases ho : K.lookup C with
  | none =>
    rw [ho] at e
    cases e
  | some o =>
    rw [ho] at e
    obtain ⟨cls, dd, data, sl⟩ := o
    replace e := Bool.and_eq_true_iff.mp e
    obtain ⟨e0, e1⟩ := e
    obtain rfl : cls = .type "type" := eq_of_beq e0
    replace e1 := feData_cls e1
    obtain ⟨cd, rfl, e2⟩ := e1
    simp only [Bool.and_eq_true, beq_iff_eq, Bool.not_eq_true'] at e2
    obtain ⟨⟨⟨⟨⟨⟨⟨h6, h4⟩, hm⟩, hdel⟩, ht⟩, hi⟩, hf⟩, hh⟩ := e2
    obtain ⟨k0, k1, k2, k3, k4, k5, hs⟩ := six h6
    rw [hs] at h4
    obtain rfl : k4 = some (.builtin newId) := Option.some.inj h4
    have hsl : sl = #[k0, k1, k2, k3, some (.builtin newId), k5] := congrArg List.toArray hs
    subst hsl
    have hcd : cd = ({ cd with mro := .ref C :: cd.mro.tail, hasDict := true, hasDel := false } : ClassData) := by
      obtain ⟨nm, bs, mro, ns, qn, hd, sn, sub, ab, col, del⟩ := cd
      dsimp only at hm hdel hh ⊢
      rw [← hm, hdel, hh]
    refine .mk cd.name cd.qualname cd.ns cd.bases cd.mro.tail cd.slotNames cd.subclasses cd.abstract cd.collection dd k0 k1 k2 k3 k5 ?_ (tail_of_in X ht) hi hf
    rw [X _ _ ho, hcd]
    rfl

section
variable {prog : Program} {w : World} {A : Around} {E : Value → Shared → Prop} {s : Shared} {K : Frag} {C L fI : Addr} {h₀ : Heap} {m : Str → Option Value} {news : List (Addr × Obj)} {Q : Value → Shared → Prop} {B newId initId : String} {bmB : List Value}
theorem fe_cls {pos : List Value} (F : Fr h₀ L s.heap m) (X₀ : K.In h₀) (N : News h₀ L s.heap news) (EF : ExcBaseFacts B newId initId bmB) (e : feIn K C bmB newId fI = true) (hlen : pos.length ≤ sizeLine)
    (h : ∀ x t h', Fr h₀ L h' m → News h₀ L h' ((x, excObj C t) :: (t, tupObj pos) :: news) → (∀ p ∈ news, p.1 < t) → t < x →
      codeAny (model prog w) (A.under (.builtin "type.__call__" ⟨.ref C :: pos, []⟩)) (.call (.ref fI) ⟨.ref x :: pos, []⟩) (InitBack x fun r s' => match r with | .ok (.ret v) => Q v s' | .ok _ => False | .error e => E e s') { s with heap := h' }) :
    wpAny (model prog w) A (call (.ref C) pos []) Q E s := by
  have X : K.In s.heap := X₀.keeps F.keep
  obtain ⟨nm, q, N', bs, bm, sn, sub, ab, col, dd, k0, k1, k2, k3, k5, hC, T, hi, hf⟩ := fe_cls_of X e
  have z := h (s.heap.objs.size + 1) s.heap.objs.size _ ((F.push (tupObj pos)).push (excObj C s.heap.objs.size)) (by
    have := (N.push F (tupObj pos)).push (F.push _) (excObj C s.heap.objs.size)
    rwa [Heap.size_push] at this) (fun p hp => Heap.lt_size (N p hp).1) (Nat.lt_succ_self _)
  obtain ⟨hp, g, d, tk, os⟩ := s
  have f1 := tc_lookup
  have f2 := tc_bind (.ref C)
  have hT : (⟨hp, g, d, tk, os⟩ : Shared).TypeIs (.ref C) "type" := ⟨_, hC, rfl⟩
  refine wpAny_call (codeAny_of_tree ?_)
  show wpAny _ _ (callAny (.ref C) _) _ _ _
  repeat (any_goals (first | assumption | with_reducible refine wpAny_loadPart_at hC ?_ | wp_step))
  refine ⟨rfl, ?_⟩
  refine codeAny_call_builtin_at (Code.quiet_builtin _ (by decide +kernel)) entry_typeCall (wpAny_check_type_call_sub hC (fe_type_call EF T hC (looks_findIn X hi) (fun self => bind_fn X self hf) (codeAny_mono z fun r s' y => ?_) hlen))
  rcases r with e' | (v | _ | _ | _) <;> first | exact y | exact y.elim
end
end Mine
end
section
open PySem PySem.W PyProof.Rows PySem.Calls PySem.Spec Builtin Builtin.ObjectAttr
set_option maxRecDepth 100000
namespace Mine
noncomputable abbrev feMro : List Value := [.ref 51, .ref 31, .type "Exception", .type "BaseException", .type "object"]
theorem feMro_is (P : Params) : (clsIn (hd.heap_39 P) 51).map (·.mro) = some feMro := by rfl
theorem feHas_is (P : Params) : (clsIn (hd.heap_39 P) 51).map (·.hasDict) = some true := by rfl
theorem fe_refuse (self : Value) : refuseLoop self "__setattr__" feMro = pure () := by
  rw [refuseLoop_ref, refuseLoop_ref]
  kernel_rfl
end Mine
end
section
open PySem PySem.W PyProof.Rows PySem.Calls PySem.Spec Builtin Builtin.ObjectAttr
set_option maxRecDepth 100000
namespace Mine
section
variable {prog : Program} {w : World} {A : Around} {E : Value → Shared → Prop} {s : Shared} {L x t dx : Addr} {h₀ : Heap} {m : Str → Option Value} {rest : List (Addr × Obj)} {R : Result → Shared → Prop} {ox : Obj} {od : Option Obj} {name : Str} {tk : Tok} {v : Value}
theorem fe_osa_open (X : (hd.heap_39 w.params).In s.heap) (I : InstAt s.heap x ox 51 od) (ht : takerIn (hd.heap_39 w.params) 51 name = some none)
    (h : ∀ b, wpAny (model prog w) A.in1 (storeInOwnDict (.ref x) (.ref 51) (.str name tk) name v b)
      (fun fin s' => match fin with | .done f => R (.ok f) s' | .again c' => c'.quiet = true ∧ codeAny (model prog w) A c' R s') (fun e s' => R (.error e) s') s) :
    codeAny (model prog w) A (.call (.builtin "object.__setattr__") ⟨[.ref x, .str name tk, v], []⟩) R s := by
  have SF := PySem.F.store_object
  obtain ⟨cd, hc, ho⟩ := Option.map_eq_some_iff.mp (feMro_is w.params)
  have hm : Looks (model prog w) s.heap (mroOf (.ref 51)) feMro := by rw [← ho]; exact (looks_clsIn X hc).andThen .now
  have sub : Looks (model prog w) s.heap (isInstance (.ref x) (.type "object")) true := I.type.andThen (looks_mroIn X (by unfold mroIn; rw [hc, Option.bind_some, ho]; rfl))
  refine codeAny_call_builtin SF.slot.plain SF.entry (@check_slot (model prog w) _ _ s "object.__setattr__" "object" "__setattr__" (.ref x) [.str name tk, v] [] _ SF.kind SF.split sub (SF.args (.ref x) (.str name tk) v) ?_)
  obtain ⟨attr, ha, hr⟩ := Option.bind_eq_some_iff.mp ht
  have L3 : Looks (model prog w) s.heap (storeTaker? attr) none := by
    cases attr with
    | none => exact .now
    | some a =>
      obtain ⟨b, hb, e⟩ := Option.map_eq_some_iff.mp hr
      refine (looks_takesIn X hb).andThen ?_
      cases b with
      | false => exact .now
      | true => cases e
  rw [osa_eq, refuse_eq]
  refine wpAny_bind (wpAny_bind (I.type.here (wpAny_bind (hm.here ?_))))
  rw [fe_refuse]
  refine wpAny_pure (wpAny_bind (I.type.here (wpAny_bind ((looks_findIn X ha).here (wpAny_bind (L3.here ?_))))))
  exact h _

theorem fe_hasDict {M : Model} (X : (hd.heap_39 w.params).In s.heap) : ∃ cd, Looks M s.heap (classData 51) cd ∧ cd.hasDict = true := by
  obtain ⟨cd, hc, ho⟩ := Option.map_eq_some_iff.mp (feHas_is w.params)
  exact ⟨cd, looks_clsIn X hc, ho⟩

/-- the first store into an exception: its dict is made -/
theorem fe_set1 {Q : Unit → Shared → Prop} (F : Fr h₀ L s.heap m) (X₀ : (hd.heap_39 w.params).In h₀) (N : News h₀ L s.heap ((x, excObj 51 t) :: rest)) (hr : ∀ p ∈ rest, p.1 ≠ x)
    (hs : findIn (hd.heap_39 w.params) (.ref 51) "__setattr__" = some (some (.builtin "object.__setattr__"))) (ht : takerIn (hd.heap_39 w.params) 51 name = some none)
    (h : ∀ dx h', Fr h₀ L h' m → News h₀ L h' ((dx, dictOf [⟨PyData.keyHash w.params name, .str name (s.toks + 1), v⟩] 1) :: (x, excObjD 51 t dx) :: rest) → (∀ p ∈ (x, excObj 51 t) :: rest, p.1 < dx) →
      Q () { s with heap := h', toks := s.toks + 2 }) :
    wpAny (model prog w) A (setAttr (.ref x) name v) Q E s := by
  have X : (hd.heap_39 w.params).In s.heap := X₀.keeps F.keep
  have hx := (N _ (.head _)).1
  have I : InstAt s.heap x (excObj 51 t) 51 none := ⟨hx, rfl, rfl, trivial⟩
  refine set_plain X I hs (fe_osa_open (s := { s with toks := s.toks + 1 }) X I ht fun b => ?_)
  obtain ⟨cd, Lc, hh⟩ := fe_hasDict (M := model prog w) X
  have F1 := F.push emptyDict
  have N1 := N.push F emptyDict
  have hlt : ∀ p ∈ (x, excObj 51 t) :: rest, p.1 < s.heap.objs.size := fun p hp => Heap.lt_size (N p hp).1
  obtain ⟨F2, N2⟩ := news_upd (pre := [(s.heap.objs.size, emptyDict)]) (post := rest) (d := x) (o := excObj 51 t) (o' := excObjD 51 t s.heap.objs.size) (f := fun o => { o with dict := some s.heap.objs.size }) F1 N1
    (fun p hp => by rw [List.mem_singleton.mp hp]; exact Nat.ne_of_gt (hlt _ (.head _))) hr rfl rfl
  obtain ⟨F3, N3⟩ := news_upd (pre := []) (post := (x, excObjD 51 t s.heap.objs.size) :: rest) (d := s.heap.objs.size) (o := emptyDict) (o' := dictOf [⟨PyData.keyHash w.params name, .str name (s.toks + 1), v⟩] 1)
    (f := Obj.putName name (PyData.keyHash w.params name) (.str name (s.toks + 1)) v) F2 N2 (fun p hp => nomatch hp)
    (fun p hp => by rcases List.mem_cons.mp hp with rfl | hp
                    · exact Nat.ne_of_lt (hlt (x, excObj 51 t) (.head _))
                    · exact Nat.ne_of_lt (hlt _ (.tail _ hp))) (putName_dict _ _ _ _ [] 0) rfl
  have z := h _ _ F3 N3 hlt
  refine wpAny_bind (wpAny_pure (wpAny_bind (wpAny_bind (wpAny_loadPart hx (wpAny_bind (Lc.at ?_))))))
  rw [hh]
  refine wpAny_bind (wpAny_alloc (wpAny_bind (wpAny_updatePart (N1 _ (.tail _ (.head _))).1 ?_)))
  refine wpAny_pure (wpAny_bind (wpAny_pure (wpAny_bind ?_)))
  unfold nsSet
  have D := (N2 (_, emptyDict) (.head _)).1
  refine wpAny_bind (wpAny_bind (wpAny_askSetting (wpAny_pure (wpAny_bind (wpAny_mkText (wpAny_bind (wpAny_loadPart D ?_)))))))
  dsimp only
  have c : aRefKeyMayBeTheName name (#[] : Array DictEntry) = false := rfl
  rw [c]
  refine wpAny_updatePart D ?_
  refine wpAny_bind (wpAny_lookBehind (N3 (_, dictOf _ _) (.head _)).1 rfl ?_)
  exact wpAny_pure z
end
end Mine
end
section
open PySem PySem.W PyProof.Rows PySem.Calls PySem.Spec Builtin Builtin.ObjectAttr
set_option maxRecDepth 100000
namespace Mine
section
variable {prog : Program} {w : World} {A : Around} {E : Value → Shared → Prop} {s : Shared} {L x t dx : Addr} {h₀ : Heap} {m : Str → Option Value} {rest : List (Addr × Obj)} {R : Result → Shared → Prop} {ox : Obj} {od : Option Obj} {name : Str} {tk : Tok} {v : Value} {es es' : List DictEntry} {n n' : Nat}
/-- a later store into an exception that has its dict -/
theorem fe_set2 {Q : Unit → Shared → Prop} (F : Fr h₀ L s.heap m) (X₀ : (hd.heap_39 w.params).In h₀) (N : News h₀ L s.heap ((dx, dictOf es n) :: (x, excObjD 51 t dx) :: rest)) (hr : ∀ p ∈ rest, p.1 ≠ dx) (hxd : x ≠ dx)
    (hs : findIn (hd.heap_39 w.params) (.ref 51) "__setattr__" = some (some (.builtin "object.__setattr__"))) (ht : takerIn (hd.heap_39 w.params) 51 name = some none) (hl : (getL name es).isSome = true)
    (e : (putL name (PyData.keyHash w.params name) (.str name (s.toks + 1)) v es, putN name es n) = (es', n')) (hz : es'.length ≤ 1000)
    (h : ∀ h', Fr h₀ L h' m → News h₀ L h' ((dx, dictOf es' n') :: (x, excObjD 51 t dx) :: rest) → Q () { s with heap := h', toks := s.toks + 2 }) :
    wpAny (model prog w) A (setAttr (.ref x) name v) Q E s := by
  have X : (hd.heap_39 w.params).In s.heap := X₀.keeps F.keep
  have hx := (N _ (.tail _ (.head _))).1
  have D := (N _ (.head _)).1
  have I : InstAt s.heap x (excObjD 51 t dx) 51 (some (dictOf es n)) := ⟨hx, rfl, rfl, D⟩
  refine set_plain X I hs (fe_osa_open (s := { s with toks := s.toks + 1 }) X I ht fun b => ?_)
  obtain ⟨cd, Lc, hh⟩ := fe_hasDict (M := model prog w) X
  obtain ⟨e1, e2⟩ := Prod.mk.inj e
  have eo : Obj.putName name (PyData.keyHash w.params name) (.str name (s.toks + 1)) v (dictOf es n) = dictOf es' n' := by rw [putName_dict, e1, e2]
  obtain ⟨F3, N3⟩ := news_upd (pre := []) (post := (x, excObjD 51 t dx) :: rest) (d := dx) (o := dictOf es n) (o' := dictOf es' n')
    (f := Obj.putName name (PyData.keyHash w.params name) (.str name (s.toks + 1)) v) F N (fun p hp => nomatch hp)
    (fun p hp => by rcases List.mem_cons.mp hp with rfl | hp
                    · exact hxd
                    · exact hr p hp) eo rfl
  have z := h _ F3 N3
  refine wpAny_bind (wpAny_pure (wpAny_bind (wpAny_bind (wpAny_loadPart hx (wpAny_bind (Lc.at ?_))))))
  rw [hh]
  refine wpAny_pure (a := some dx) (wpAny_bind (wpAny_pure (wpAny_bind ?_)))
  unfold nsSet
  refine wpAny_bind (wpAny_bind (wpAny_askSetting (wpAny_pure (wpAny_bind (wpAny_mkText (wpAny_bind (wpAny_loadPart D ?_)))))))
  dsimp only
  have c : aRefKeyMayBeTheName name (es.toArray) = false := by
    rw [aRefKeyMayBeTheName_at, ← Array.any_toList, ← Array.any_toList]
    unfold getL at hl
    simp only at hl ⊢
    split at hl
    · rename_i en he
      rw [List.any_eq_true.mpr ⟨en, List.mem_of_find?_eq_some he, List.find?_some he⟩]; rfl
    · split at hl
      · cases hl
      · rename_i z; rw [Bool.not_eq_true] at z; rw [z, Bool.and_false]
  rw [c]
  refine wpAny_updatePart D ?_
  refine wpAny_bind (wpAny_lookBehind (N3 (_, dictOf _ _) (.head _)).1 (pastItsLine_dict (by rw [List.size_toArray, sizeLine_eq]; omega)) ?_)
  exact wpAny_pure z
end

/-! the raise of such an exception -/
noncomputable def RaisableF (w : World) (E : Value → Shared → Prop) (v : Value) (s₁ : Shared) : Prop :=
  ∃ a ob vs, v = .ref a ∧ (hd.heap_39 w.params).In s₁.heap ∧ s₁.heap.get? a = some ob ∧ ob.cls = .ref 51 ∧ ob.data = .fields vs ∧ vs[1]? = some .none ∧ E (.ref a) s₁
theorem feMroE_is (P : Params) : feIn (hd.heap_39 P) 51 [.type "Exception", .type "BaseException", .type "object"] "Exception.__new__" 48 = true := by kernel_rfl
theorem Raise_fe {prog : Program} {w : World} {A : Around} {E : Value → Shared → Prop} {s : Shared} {env : Env} {e : PySem.Expr} {pos : Pos} {Q : Flow → Shared → Prop} (hh : A.handled = none)
    (h : wpAny (model prog w) A (eval e env) (RaisableF w E) E s) : wpAny (model prog w) A (exec (.Raise (some e) none pos) env) Q E s := by
  show wpAny (model prog w) A (do standAt pos; raiseStmt env (some (do let v ← eval e env; standAt pos; pure v)) none) Q E s
  refine wpAny_bind (wpAny_standAt ?_)
  unfold raiseStmt
  dsimp only
  refine wpAny_bind (wpAny_bind (wpAny_mono h (fun v s₁ h₁ => wpAny_bind (wpAny_standAt (wpAny_pure ?_))) fun _ _ x => x))
  obtain ⟨a, ob, vs, rfl, X, he, hcls, hd', h1, hE⟩ := h₁
  obtain ⟨nm, q, N', bs, bm, sn, sub, ab, col, dd, k0, k1, k2, k3, k5, hC, T, hi, hf⟩ := fe_cls_of X (feMroE_is w.params)
  have hcB : (Value.ref 51 :: bm).contains (.type "BaseException") = true := by rw [List.contains_cons, T.hasType (X := "BaseException") (b := true) (by decide)]; rfl
  obtain ⟨hp, g, d, tk, os⟩ := s₁
  obtain ⟨oc, odi, oda, osl⟩ := ob
  dsimp only at hcls hd'
  subst hcls hd'
  repeat (first | with_reducible refine wpAny_loadPart_at he ?_ | with_reducible refine wpAny_loadPart_at hC ?_ | (with_reducible refine wpAny_isSubtype_exc hC ?_; rw [hcB]) | wp_step)
  rw [h1]
  refine wpAny_pure ?_
  rw [if_neg (by decide)]
  refine wpAny_pure ?_
  exact wpAny_raiseNew_none hh hE
end Mine
end
section
open PySem PySem.W PyProof.Rows PySem.Calls PySem.Spec
set_option maxRecDepth 100000
namespace Mine
/-- an exception with a dict of its own flies -/
noncomputable def RaisedD (base G : Heap) (l : List Env) (e t dx : Addr) (vs : List Value) (news : List (Addr × Obj)) (h : Heap) : Prop :=
  RaisedS base G l e (.ref 51) t vs news h ∧ ∃ o, h.get? e = some o ∧ o.dict = some dx
section
variable {M : Model} {A : Around} {E : Value → Shared → Prop} {s' : Shared} {base g g₂ : Heap} {outer : List Env} {L a e t dx : Addr} {m : Str → Option Value} {name : Str} {scope : Scope} {cd : Value} {Q : Unit → Shared → Prop} {news : List (Addr × Obj)} {vs : List Value} {od : Obj}
theorem fe_leave1 (K : Below A base outer g) (F : Fr g L s'.heap m) (N : News g L s'.heap ((dx, od) :: (e, excObjD 51 t dx) :: (t, tupObj vs) :: news)) (hte : t ≠ e) (hde : dx ≠ e) (hdt : dx ≠ t) (hn : ∀ q ∈ news, q.1 ≠ e ∧ q.1 ≠ t)
    (hQ : ∀ h', RaisedD base g outer e t dx vs ((dx, od) :: news) h' → g.UpToSlots h' → Q () { s' with heap := h' }) (hk : scope.kind = .function := by rfl) :
    wpAny M (A.deeper (envOf name scope L a cd)) (leaving (envOf name scope L a cd) (.ref e)) Q E s' := by
  have K' := K.push (name := name) (a := a) (cd := cd) F hk
  have he := (N _ (.tail _ (.head _)))
  have ht := (N _ (.tail _ (.tail _ (.head _))))
  let fs := (envOf name scope L a cd :: outer).filterMap (·.frame)
  let as := e :: t :: fs
  have hin : ∀ env ∈ (envOf name scope L a cd :: outer), ∀ b, env.frame = some b → b ∈ as := fun env h1 b hb => .tail _ (.tail _ (List.mem_filterMap.mpr ⟨env, h1, hb⟩))
  have st : base.StaysIn (hideAll s'.heap as) := fun b o q => hideAll_get _ (K'.stays b o q) fun hm => by
    rcases List.mem_cons.mp hm with rfl | hm
    · have := fresh_of_stays K.stays he.2.2; rw [q] at this; cases this
    rcases List.mem_cons.mp hm with rfl | hm
    · have := fresh_of_stays K.stays ht.2.2; rw [q] at this; cases this
    · rw [(K'.frames.mem hm).1] at q; cases q
  have sg : ∀ b o, g.get? b = some o → b ∉ outer.filterMap (·.frame) → (hideAll s'.heap as).get? b = some o := fun b o q nm => hideAll_get _ (F.keep b o q) fun hm => by
    rcases List.mem_cons.mp hm with rfl | hm
    · rw [he.2.2] at q; cases q
    rcases List.mem_cons.mp hm with rfl | hm
    · rw [ht.2.2] at q; cases q
    rcases kts_mem hm with z | z
    · rw [z, kts_self F] at q
      cases q
    · exact nm z
  have hl : ∀ q ∈ (dx, od) :: news, (hideAll s'.heap as).get? q.1 = some q.2 ∧ g.get? q.1 = none ∧ base.get? q.1 = none := fun q hq => by
    have hq' : q ∈ (dx, od) :: (e, excObjD 51 t dx) :: (t, tupObj vs) :: news := by
      rcases List.mem_cons.mp hq with rfl | hq
      · exact .head _
      · exact .tail _ (.tail _ (.tail _ hq))
    have hne : q.1 ≠ e ∧ q.1 ≠ t := by
      rcases List.mem_cons.mp hq with rfl | hq
      · exact ⟨hde, hdt⟩
      · exact hn q hq
    refine ⟨hideAll_get _ (N q hq').1 fun hm => ?_, (N q hq').2.2, fresh_of_stays K.stays (N q hq').2.2⟩
    rcases List.mem_cons.mp hm with z | hm
    · exact hne.1 z
    rcases List.mem_cons.mp hm with z | hm
    · exact hne.2 z
    obtain ⟨env, h1, hf⟩ := List.mem_filterMap.mp hm
    rcases List.mem_cons.mp h1 with rfl | h1
    · exact (N q hq').2.1 (Option.some.inj hf).symm
    · obtain ⟨o, ho, _⟩ := (K.frames.mem (List.mem_filterMap.mpr ⟨env, h1, hf⟩)).2
      rw [(N q hq').2.2] at ho; cases ho
  have main : wpAny M (A.deeper (envOf name scope L a cd)) (leaving (envOf name scope L a cd) (.ref e)) (fun _ s2 => ∃ h', s2 = { s' with heap := h' } ∧ RaisedS base g outer e (.ref 51) t vs ((dx, od) :: news) h' ∧ g.UpToSlots h') E s' := by
    refine wpAny_leaving_firstW (base := hideAll s'.heap as) K'.stack (funFrames_hide K'.frames hin) rfl he.1 (fun b o q => of_hideAll _ q) (hideAll_none _ (.head _)) rfl rfl rfl fun h' hL => ?_
    obtain ⟨k1, ⟨_, _, k2⟩, k3, k4⟩ := hL
    refine ⟨h', rfl, ⟨⟨_, st, sg, hl, ⟨k1, hideAll_none _ (.head _), k2, k3⟩, hideAll_none _ (.tail _ (.head _))⟩, ?_⟩, (Heap.UpToSlots.of_keeps F.keep).trans k4⟩
    obtain ⟨sl, hs⟩ := k4 t _ ht.1 (fun ws q => by cases q)
    exact ⟨_, _, hs, rfl, rfl⟩
  refine wpAny_mono ((safe_leaving _ _).any main) (fun _ s2 h2 => ?_) fun _ _ h2 => h2.1
  obtain ⟨⟨h', rfl, R, U⟩, D⟩ := h2
  obtain ⟨o', ho', hd'⟩ := D e _ he.1
  exact hQ h' ⟨R, o', ho', hd'⟩ U

theorem fe_leave2 (K : Below A base outer g) (F : Fr g L g₂ m) (R : RaisedD base g₂ (envOf name scope L a cd :: outer) e t dx vs news s'.heap) (hsm : g₂.UpToSlots s'.heap)
    (hQ : ∀ h', RaisedD base g outer e t dx vs news h' → g.UpToSlots h' → Q () { s' with heap := h' }) :
    wpAny M (A.deeper (envOf name scope L a cd)) (leaving (envOf name scope L a cd) (.ref e)) Q E s' := by
  obtain ⟨R, o, ho, hd⟩ := R
  have main : wpAny M (A.deeper (envOf name scope L a cd)) (leaving (envOf name scope L a cd) (.ref e)) (fun _ s2 => ∃ h', s2 = { s' with heap := h' } ∧ RaisedS base g outer e (.ref 51) t vs news h' ∧ g.UpToSlots h') E s' :=
    leave_onS K F R hsm fun h' R _ U => ⟨h', rfl, R, U⟩
  refine wpAny_mono ((safe_leaving _ _).any main) (fun _ s2 h2 => ?_) fun _ _ h2 => h2.1
  obtain ⟨⟨h', rfl, R, U⟩, D⟩ := h2
  obtain ⟨o', ho', hd'⟩ := D e _ ho
  exact hQ h' ⟨R, o', ho', hd'.trans hd⟩ U
end
end Mine
end
section
open PySem PySem.W PyProof.Rows PySem.Calls PySem.Spec
set_option maxRecDepth 100000
namespace Mine
theorem feKts_is (P : Params) : ktsIn (hd.heap_39 P) 51 "BaseException" = true := by kernel_rfl
theorem feName_is (P : Params) : nsIn (hd.heap_39 P) mainGlobals (Str.ofString "FormatError") = some (some (.ref 51)) := by kernel_rfl
section
variable {prog : Program} {w : World} {A₀ : Around} {E : Value → Shared → Prop} {s' : Shared} {base g G : Heap} {outer : List Env} {L a e t dx : Addr} {m : Str → Option Value} {name : Str} {scope : Scope} {cd : Value}
  {vs : List Value} {n : Str} {b₀ : Stmt} {suite : List Stmt} {pos np : Pos} {rest : List ExceptHandler} {Q : Flow → Shared → Prop} {news : List (Addr × Obj)}
  {p : Program} {loose : List Str} {mean : ExcName → Option Value} {mg mb : Str → Option Value}
theorem any_heap {M : Model} {A : Around} {Q : Unit → Shared → Prop} {E : Value → Shared → Prop} {t : Sem Unit} {s : Shared} (P : Heap → Prop) (hs : Safe t) (main : wpAny M A t (fun _ s2 => ∃ h', s2 = { s with heap := h' } ∧ P h') E s)
    (k : ∀ h', P h' → DK s.heap h' → Q () { s with heap := h' }) : wpAny M A t Q E s :=
  wpAny_mono (hs.any main) (fun _ s2 h2 => by
    obtain ⟨⟨h', rfl, p⟩, D⟩ := h2
    exact k h' p D) fun _ _ h2 => h2.1
inductive RaisedI (base G : Heap) (l : List Env) (e t dx : Addr) (vs : List Value) (news : List (Addr × Obj)) (h : Heap) : Prop
  | mk (B : Heap) (o : Obj) (hB : base.StaysIn B) (hBG : ∀ b o, G.get? b = some o → b ∉ l.filterMap (·.frame) → B.get? b = some o) (hl : ∀ q ∈ news, B.get? q.1 = some q.2 ∧ G.get? q.1 = none ∧ base.get? q.1 = none)
    (hfl : Heap.FlyingW B l e (.ref 51) (.ref t) h) (he : h.get? e = some o) (hd : o.dict = some dx) : RaisedI base G l e t dx vs news h
theorem RaisedD.toI {base G : Heap} {l : List Env} {e t dx : Addr} {vs : List Value} {news : List (Addr × Obj)} {h : Heap} (R : RaisedD base G l e t dx vs news h) : RaisedI base G l e t dx vs news h := by
  obtain ⟨⟨⟨B, hB, hBG, hl, hfl, _⟩, _⟩, o, he, hd⟩ := R
  exact .mk B o hB hBG hl hfl he hd
theorem fe_caught (R : RaisedD base G (envOf name scope L a cd :: outer) e t dx vs news s'.heap) (F : Fr g L G m) (K : Below A₀ base outer g) (hsm : G.UpToSlots s'.heap) (XB : (hd.heap_39 w.params).In base) (TB : Top p loose mean mg mb base)
    (D : KtsDicts (outer.filterMap (·.frame)) g)
    (k : ∀ h' g' oe tk, KtsTurn (outer.filterMap (·.frame)) g g' → Fr g' L h' (fun y => if y = n then some (.ref e) else m y) → News g' L h' ((e, oe) :: news) → oe.cls = .ref 51 → oe.dict = some dx → notCls oe = true →
      Below A₀ base outer g' → (hd.heap_39 w.params).In g' → Top p loose mean mg mb g' → KtsDicts (outer.filterMap (·.frame)) g' →
      wpAny (model prog w) ((A₀.deeper (envOf name scope L a cd)).mark (some (.ref e))) (execs (b₀ :: suite) (envOf name scope L a cd))
        (fun f s₄ => wpAny (model prog w) (A₀.deeper (envOf name scope L a cd)) (do bindName (envOf name scope L a cd) n .none; unbindBehindTheSuite (envOf name scope L a cd) n pos) (fun _ s₅ => Q f s₅) E s₄)
        (AsSuiteRaised (model prog w) ((A₀.deeper (envOf name scope L a cd)).mark (some (.ref e))) (envOf name scope L a cd) n pos (notedBy (model prog w) ((A₀.deeper (envOf name scope L a cd)).mark (some (.ref e))) (envOf name scope L a cd) (cameBackBy (model prog w) (A₀.deeper (envOf name scope L a cd)) (envOf name scope L a cd) E)))
        { s' with heap := h', toks := tk })
    (hk : scope.kind = .function := by rfl) (hlo : (envOf name scope L a cd).kindOf n = some .local := by rfl) (hx : (envOf name scope L a cd).kindOf (Str.ofString "FormatError") = some .globalImplicit := by rfl) :
    wpAny (model prog w) (A₀.deeper (envOf name scope L a cd)) (noteFrame (.ref e) (envOf name scope L a cd))
      (fun _ s₂ => wpAny (model prog w) (A₀.deeper (envOf name scope L a cd)) (setFlight (.ref e) none) (fun _ s₃ =>
        wpAny (model prog w) (A₀.deeper (envOf name scope L a cd)) (handleBy (.ref e) (envOf name scope L a cd) (.ExceptHandler (some (.Name (Str.ofString "FormatError") np)) (some n) (b₀ :: suite) pos :: rest)) Q E s₃) E s₂) E s' := by
  obtain ⟨B, oe0, hB, hBG, hl, hfl, he0, hd0⟩ := R.toI
  have hL : B.get? L = none := by
    obtain ⟨_, ⟨L', _, hf, hn', _⟩, _⟩ := hfl.2.2.1
    obtain rfl : L = L' := Option.some.inj hf
    exact hn'
  -- the exception is noted at this frame
  refine any_heap (fun h' => Heap.HeldW B (envOf name scope L a cd :: outer) e (.ref 51) (.ref t) L h' ∧ s'.heap.UpToSlots h') (safe_noteFrame _ _)
    (wpAny_looks_onW (Around.frames_deeper K.stack) rfl hfl fun h₄ H U => ⟨h₄, rfl, H, U⟩) fun h₄ H4 D1 => ?_
  have hheld₄ := H4.1
  have hsm₄ := H4.2
  obtain ⟨oe1, he1, hd1⟩ := D1 e _ he0
  -- it lands
  refine any_heap (fun h' => Heap.FlyingW B (envOf name scope L a cd :: outer) e (.ref 51) (.ref t) h' ∧ h₄.UpToSlots h') (safe_setFlight _ _)
    (wpAny_landsW hheld₄ fun h₅ H U => ⟨h₅, rfl, H, U⟩) fun h₅ H5 D2 => ?_
  have hheld := H5.1
  have hsm₅' := H5.2
  obtain ⟨oe2, he2, hd2⟩ := D2 e _ he1
  have hsm₅ := hsm₄.trans hsm₅'
  obtain ⟨g₅, T₅, F₅, K₅⟩ := kts_ground K F hBG hheld.1 (hsm.trans hsm₅)
  have X₅ : (hd.heap_39 w.params).In g₅ := XB.keeps K₅.stays
  have P₅ : TopRead p loose mg mb g₅ := topRead_of (TB.keeps K₅.stays)
  obtain ⟨ob, hob, hobc⟩ := hheld.there
  obtain ⟨nm, q', N, bs, bm, hdct, sn, sub, ab, col, dd, k0, k1, k2, k3, k5, newId, hC, hbase, hbT⟩ := kts_clsI X₅ (feKts_is w.params)
  have hC₅ := F₅.keep _ _ hC
  refine wpAny_handleBy_cons (codeAny_handlers_test (name_K F₅ X₅ P₅ (feName_is w.params) ?_ hk hx rfl)) (by intro q; cases q)
  refine wpAny_excMatches_sub_self hC₅ hob hobc hbase (codeAny_handlers_suite_as ?_)
  -- it is bound to its name
  refine any_heap (fun h' => Heap.FlyingW B (envOf name scope L a cd :: outer) e (.ref 51) (.ref t) h' ∧ h₅.UpToSlots h') (safe_setFlight _ _)
    (lands_againW hheld fun h₆ H U => ⟨h₆, rfl, H, U⟩) fun h₆ H6 D3 => ?_
  have hfl₆ := H6.1
  have hsm₆ := H6.2
  obtain ⟨oe3, he3, hd3⟩ := D3 e _ he2
  obtain ⟨g₆, T₆, F₆, K₆⟩ := kts_ground K F hBG hfl₆.1 ((hsm.trans hsm₅).trans hsm₆)
  obtain ⟨oe, ws, hoe, hoec, hoed, hoe0⟩ := hfl₆.first
  have eo : oe = oe3 := Option.some.inj (hoe.symm.trans he3)
  have hdx : oe.dict = some dx := by rw [eo, hd3, hd2, hd1, hd0]
  have ne₆ : g₆.get? e = none := T₆.none_ _ (kts_fresh F hBG hfl₆.2.1 fun o ho mm => by
    obtain ⟨_, o', ho', hd'⟩ := K.frames.mem mm
    rw [ho] at ho'
    cases ho'
    obtain ⟨sl, hs⟩ := ((hsm.trans hsm₅).trans hsm₆) _ _ (F.keep _ _ ho) hd'
    rw [hoe] at hs
    cases hs
    exact hd' _ hoed)
  have Nl : News g₆ L h₆ news := fun q hq => ⟨hfl₆.1 _ _ (hl q hq).1, (fun z => by have := (hl q hq).1; rw [z, hL] at this; cases this), T₆.none_ _ (kts_none F.keep (hl q hq).2.1)⟩
  have X₆ : (hd.heap_39 w.params).In g₆ := XB.keeps K₆.stays
  have P₆ : Top p loose mean mg mb g₆ := TB.keeps K₆.stays
  have D₆ : KtsDicts (outer.filterMap (·.frame)) g₆ := D.turn T₆
  have N₆ := News.more F₆ Nl hoe (fun es n q => by rw [hoed] at q; cases q) ne₆
  refine stN F₆ N₆ (fun h₇ F₇ N₇ => ?_) hk hlo
  refine k h₇ g₆ oe _ T₆ F₇ N₇ hoec hdx ?_ K₆ X₆ P₆ D₆
  unfold notCls
  rw [hoed]
end
end Mine
end
section
open PySem PySem.W PyProof.Rows PySem.Calls PySem.Spec Builtin Builtin.ObjectAttr
set_option maxRecDepth 100000
namespace Mine
theorem feGa_is (P : Params) : findIn (hd.heap_39 P) (.ref 51) "__getattribute__" = some (some (.builtin "BaseException.__getattribute__")) := by kernel_rfl
theorem feGh_is (P : Params) : findIn (hd.heap_39 P) (.ref 51) "__getattr__" = some none := by kernel_rfl
section
variable {prog : Program} {w : World} {A : Around} {E : Value → Shared → Prop} {s : Shared} {x : Addr} {ox : Obj} {od : Option Obj} {name : Str} {expr : Bool} {Q : Value → Shared → Prop} {v : Value}
theorem fe_get (X : (hd.heap_39 w.params).In s.heap) (I : InstAt s.heap x ox 51 od) (hf : findObj (hd.heap_39 w.params) 51 od name = some (.value v)) (hh : handedIn v = true) (h : Q v { s with toks := s.toks + 1 }) :
    wpAny (model prog w) A (getAttr (.ref x) name expr) Q E s := by
  obtain ⟨hp, g, d, t, os⟩ := s
  have G := PySem.F.attr_Exception.ga
  have hk : builtinKind "BaseException.__getattribute__" = some .slot := by decide +kernel
  have hsplit : splitId "BaseException.__getattribute__" = some ("BaseException", "__getattribute__") := by decide +kernel
  have L0 := I.type (M := model prog w)
  have L1 := looks_findIn (M := model prog w) X (feGa_is w.params)
  have L2 := looks_findIn (M := model prog w) X (feGh_is w.params)
  have L3 := looks_find (M := model prog w) X I hf
  obtain ⟨cd, hc, ho⟩ := Option.map_eq_some_iff.mp (feMro_is w.params)
  have sub : Looks (model prog w) hp (isInstance (.ref x) (.type "BaseException")) true := L0.andThen (looks_mroIn X (by unfold mroIn; rw [hc, Option.bind_some, ho]; rfl))
  have hx2 : (Value.builtin "BaseException.__getattribute__" == Value.builtin "object.__getattribute__") = false := by decide +kernel
  have hx0 : (expr && onTheHeap (Value.builtin "BaseException.__getattribute__")) = false := by cases expr <;> rfl
  unfold getAttr getAttrBy
  refine wpAny_bind (wpAny_mkText (wpAny_holding (wpAny_bind (L0.at (wpAny_bind (L1.at ?_))))))
  dsimp only
  rw [show (onTheHeap (Value.ref 51) && Value.builtin "BaseException.__getattribute__" == Value.builtin "object.__getattribute__") = false from by rw [hx2]; rfl]
  rw [if_neg (by decide)]
  unfold getAttrByItsOwn hookBefore
  rw [if_pos (show onTheHeap (Value.ref 51) = true from rfl)]
  refine wpAny_bind (L2.at ?_)
  refine wpAny_bind (wpAny_attempt (wpAny_holding ?_))
  unfold callGetattribute
  rw [hx0, if_neg (by decide)]
  unfold boundAndCalled
  rw [G.bind]
  refine wpAny_bind (wpAny_pure ?_)
  refine wpAny_call (codeAny_call_builtin G.plain F.entry_bexc_ga (@check_slot (model prog w) _ _ ⟨hp, g, d, t + 1, os⟩ "BaseException.__getattribute__" "BaseException" "__getattribute__" (.ref x) [.str name t] [] _ hk hsplit sub (F.args_bexc_ga _ _) ?_))
  unfold Builtin.«object.__getattribute__»
  refine wpAny_bind (wpAny_pure (wpAny_bind (wpAny_pure (wpAny_bind (L0.at (wpAny_bind (L3.at ?_)))))))
  refine wpAny_pure ?_
  show wpAny _ _ (handedOut v) _ _ _
  rw [handedOut_of hh]
  exact wpAny_pure h
end
end Mine
end
section
open PySem PySem.W PyProof.Rows PySem.Calls PySem.Spec
set_option maxRecDepth 100000
namespace Mine
theorem topOff1 : True := by
  w_top off
  trivial
noncomputable abbrev feDict (w : World) (k1 : Tok) (v1 : Value) (k2 : Tok) (v2 : Value) : Obj :=
  dictOf [strE w (Str.ofString "what") k1 v1, strE w (Str.ofString "at") k2 v2] 2
theorem allNe_of_lt {x : Addr} {l : List (Addr × Obj)} (h : AllLt x l) : ∀ p ∈ l, p.1 ≠ x := fun p hp => Nat.ne_of_lt (ktn_ltOf h p hp)
local macro_rules | `(tactic| walk_at "setAttr ref") => `(tactic| (k_here; refine Fence.it ?_))
set_option maxHeartbeats 4000000 in
theorem fe_make {prog : Program} {w : World} {p : Program} {loose : List Str} {mean : ExcName → Option Value} {mg mb : Str → Option Value}
    (dp un : Nat) (gd : Option (List Code)) (cn : Str) (cs : Scope) (a : Addr) (ccd : Value) (cl : List (Str × Addr)) (outer : List Env) (A₀ : Around) (base h₀ : Heap) (L : Addr) (m : Str → Option Value) (s : Shared) (Q E : Value → Shared → Prop)
    (v1 v2 : Value) (news : List (Addr × Obj))
    (B : Below A₀ base outer h₀) (F : Fr h₀ L s.heap m) (X : (hd.heap_39 w.params).In h₀) (N : News h₀ L s.heap news)
    (T : Top p loose mean mg mb h₀) (hk : cs.kind = .function) (hd : dp + 2 < recursionLimit) (hu : un + 8 < cLine)
    (ret : ∀ x t dx k1 k2 h' tk', Fr h₀ L h' m → News h₀ L h' ((dx, feDict w k1 v1 k2 v2) :: (x, excObjD 51 t dx) :: (t, tupObj [v1, v2]) :: news) → (∀ p ∈ news, p.1 < t) → t < x → x < dx →
      Q (.ref x) { s with heap := h', toks := tk' }) :
    wpAny (model prog w) (ktrTop dp un gd cn cs L a ccd cl outer) (call (.ref 51) [v1, v2]) Q E s := by
  refine fe_cls F X N PySem.F.excBase_Exception (feMroE_is w.params) (by size_fits) fun x t h1 F1 N1 l1 l2 => ?_
  have hx : ∀ p ∈ ((t, tupObj [v1, v2]) :: news), p.1 ≠ x := fun p hp => by
    rcases List.mem_cons.mp hp with rfl | hp
    · exact Nat.ne_of_lt l2
    · exact Nat.ne_of_lt (Nat.lt_trans (l1 p hp) l2)
  clear F N
  k_dflt cell_enter
  k_steps
  refine ⟨?_⟩
  k_dflt (refine' fe_set1 ?k1 ?k2 ?k3 ?k4 ?k5 ?k6 ?_)
  (case k1 => k_asm)
  (case k2 => k_asm)
  (case k3 => k_asm)
  (case k4 => (first | assumption | k_all))
  (case k5 => k_is)
  (case k6 => k_is)
  intro _ _ _ _ l1'
  (try k_lt l1')
  (try k_sweep)
  k_steps
  refine ⟨?_⟩
  k_dflt (refine' fe_set2 ?k1 ?k2 ?k3 ?k4 ?k4b ?k5 ?k6 ?k7 ?k8 ?k9 ?_)
  (case k1 => k_asm)
  (case k2 => k_asm)
  (case k3 => k_asm)
  (case k4 => k_all)
  (case k4b => k_ne)
  (case k5 => k_is)
  (case k6 => k_is)
  (case k7 => k_get)
  (case k8 => k_put)
  (case k9 => exact Nat.le_of_ble_eq_true rfl)
  intro _ _ _
  (try k_sweep)
  k_steps
  rename_i kF kN _ _
  exact ret _ t _ _ _ _ _ kF kN l1 l2 (ltN (by omega))
end Mine
end
namespace Mine
section
open PySem PySem.W PyProof.Rows PySem.Calls PySem.Spec
local macro_rules | `(tactic| walk_at "exec Raise some none") => `(tactic| (k_here; refine Raise_fe rfl ?_))
local macro_rules | `(tactic| walk_at "call ref") => `(tactic| (k_here; refine Fence.it ?_))
section
open PySem PySem.W PyProof.Rows PySem.Calls PySem.Spec
set_option maxRecDepth 100000
theorem topOff2 : True := by
  w_top off
  trivial
/-- what a caller is owed when a FormatError leaves one of its callees -/
noncomputable abbrev ExcTo (w : World) (base h₀ : Heap) (L : Addr) (m : Str → Option Value) (l : List Env) (s : Shared) (E : Value → Shared → Prop) (what : Str) (news : List (Addr × Obj)) : Prop :=
  ∀ e t dx vs k1 k2 t1 v2 G h' tk', Fr h₀ L G m → RaisedD base G l e t dx vs ((dx, feDict w k1 (.str what t1) k2 v2) :: news) h' → G.UpToSlots h' → E (.ref e) { s with heap := h', toks := tk' }
theorem bit_val (v : Int) (k : Nat) : (v.fdiv (2 ^ k)).fmod 2 = v / 2 ^ k % 2 := by
  rw [Int.fdiv_eq_ediv_of_nonneg _ (Int.le_of_lt (Int.pow_pos (by decide))), Int.fmod_eq_emod_of_nonneg _ (by decide)]
section
set_option maxHeartbeats 4000000 in
theorem bit_K {prog : Program} {w : World} {p : Program} {loose : List Str} {mean : ExcName → Option Value} {mg mb : Str → Option Value}
    (dp un : Nat) (gd : Option (List Code)) (cn : Str) (cs : Scope) (a : Addr) (ccd : Value) (cl : List (Str × Addr)) (outer : List Env) (A₀ : Around) (base h₀ : Heap) (L : Addr) (m : Str → Option Value) (s : Shared) (Q E : Value → Shared → Prop)
    (x dx l : Addr) (vs : List Value) (ns : List Int) (nn : Nat) (k1 k2 k3 t2 t3 : Tok) (at' pl : Int) (rest : List (Addr × Obj))
    (B : Below A₀ base outer h₀) (F : Fr h₀ L s.heap m) (X : (hd.heap_39 w.params).In h₀)
    (N : News h₀ L s.heap ((x, instObj 91 dx) :: (dx, readerObj w k1 k2 k3 l at' t2 pl t3) :: (l, listOf vs.toArray nn) :: rest))
    (T : Top p loose mean mg mb h₀) (hk : cs.kind = .function)
    (hoff : OwnOff rest [x, dx, l]) (hxd : x ≠ dx) (hld : l ≠ dx) (hi : IntsAre vs ns) (hns : ns.length ≤ 3) (hb : ∀ v ∈ ns, 0 ≤ v ∧ v < 256)
    (ha : 0 ≤ at') (hal : at' ≤ ns.length) (hp : 0 ≤ pl) (hp8 : pl < 8)
    (hd : dp + 4 < recursionLimit) (hu : un + 20 < cLine)
    (ret : at' < ns.length → ∀ t t2' t3' h' tk', Fr h₀ L h' m → 
      News h₀ L h' ((x, instObj 91 dx) :: (dx, readerObj w k1 k2 k3 l (if pl = 7 then at' + 1 else at') t2' (if pl = 7 then 0 else pl + 1) t3') :: (l, listOf vs.toArray nn) :: rest) →
      Q (.int ((ns.getD at'.toNat 0) / 2 ^ (7 - pl).toNat % 2) t) { s with heap := h', toks := tk' })
    (exc : ns.length ≤ at' → ExcTo w base h₀ L m (envX cn cs L a ccd cl :: outer) s E (Str.ofString "cut_off") ((x, instObj 91 dx) :: (dx, readerObj w k1 k2 k3 l at' t2 pl t3) :: (l, listOf vs.toArray nn) :: rest)) :
    wpAny (model prog w) (ktrTop dp un gd cn cs L a ccd cl outer) (call (.ref 74) [.ref x]) Q E s := by
  by_cases hlt : at' < ns.length
  · have hv : 0 ≤ ns.getD at'.toNat 0 ∧ ns.getD at'.toNat 0 < 256 := by
      have h1 : at'.toNat < ns.length := by omega
      have : ns.getD at'.toNat 0 = ns[at'.toNat] := by simp [h1]
      rw [this]
      exact hb _ (List.getElem_mem h1)
    obtain ⟨hv0, hv1⟩ := hv
    replace ret := ret hlt
    clear exc
    refine wpAny_call ?_
    k_dflt cell_enter
    k_steps
    · rename_i kF kN _ _
      have hpl : pl = 7 := by omega
      rw [if_pos hpl, if_pos hpl] at ret
      rw [bit_val]
      exact ret _ _ _ _ _ kF kN
    · rename_i kF kN _ _
      have hpl : ¬ pl = 7 := by omega
      rw [if_neg hpl, if_neg hpl] at ret
      rw [bit_val]
      exact ret _ _ _ _ _ kF kN
  · replace exc := exc (by omega)
    clear ret
    refine wpAny_call ?_
    k_dflt cell_enter
    k_steps
    refine ⟨?_⟩
    k_dflt (refine' fe_make _ _ _ _ _ _ _ _ _ _ _ _ _ _ _ _ _ _ _ _ ?k1 ?k2 ?k3 ?k4 ?k5 ?k6 ?k7 ?k8 ?_)
    (case k1 => k_asm)
    (case k2 => k_asm)
    (case k3 => k_asm)
    (case k4 => k_asm)
    (case k5 => k_asm)
    (case k6 => first | exact rfl | assumption)
    (case k7 => ktr_room)
    (case k8 => ktr_units)
    intro x' t' dx' k1' k2' h' tk' F9 N9 l1 l2 l3
    refine ⟨x', _, _, rfl, Frag.In.keeps (by assumption) F9.keep, (N9 _ (.tail _ (.head _))).1, rfl, rfl, rfl, ?_⟩
    k_steps
    refine fe_leave1 (by assumption) F9 N9 (Nat.ne_of_lt l2) (Nat.ne_of_gt l3) (Nat.ne_of_gt (Nat.lt_trans l2 l3)) (fun q hq => ?_) fun h' R U => ?_
    · have h1 := l1 q hq
      exact ⟨Nat.ne_of_lt (Nat.lt_trans h1 l2), Nat.ne_of_lt h1⟩
    · exact exc _ _ _ _ _ _ _ _ _ _ _ (by assumption) R U
end
end
section
open PySem PySem.W PyProof.Rows PySem.Calls PySem.Spec PyProof.Rows.LCg PyProof.Rows.LCt
set_option maxRecDepth 100000
section
variable {prog : Program} {w : World} {A : Around} {h₀ : Heap} {L : Addr} {m : Str → Option Value} {env : Env} {ct elt : PySem.Expr} {x : Str} {scope : Scope} {cl : List (Str × Addr)} {s : Shared} {S : List (Addr × Obj) → Prop} {P : Nat → Value → Prop} {Fin : List Value → List (Addr × Obj) → Prop}
theorem compEnd_mono {s₁ s₂ : Shared} {I C D : Addr} {oI oC oD : Obj} {R R' : Value → List (Addr × Obj) → Prop} {y : Value} (h : CompEnd h₀ L m s₁ I oI C oC D oD S R y s₂) (k : ∀ y nw, R y nw → R' y nw) : CompEnd h₀ L m s₁ I oI C oC D oD S R' y s₂ := by
  obtain ⟨h', tk, nw, e, F, N, o, hS, r⟩ := h
  exact ⟨h', tk, nw, e, F, N, o, hS, k _ _ r⟩
/-- a comprehension with one test, by an invariant over what it has made so far -/
theorem restT_ind (n : Nat) (nw₀ : List (Addr × Obj)) (Inv : Nat → List Value → List (Addr × Obj) → Prop)
    (start : Inv 0 [] nw₀)
    (step : ∀ i ys nw, i < n → Inv i ys nw → ∀ v I oI C oC D m₂ h tk (E' : Value → Shared → Prop), P i v → NsObj oC m₂ → m₂ x = some v → Fr h₀ L h m → News h₀ L h ((I, oI) :: (C, oC) :: (D, lst ys) :: nw) → Off3 I C D nw → ((@Ne Nat I C) ∧ (@Ne Nat I D) ∧ (@Ne Nat C D)) →
      wpAny (model prog w) A (isTrue ct (compEnvC scope cl C env) (eval ct (compEnvC scope cl C env))) (fun ok s' => if ok = true then
        wpAny (model prog w) A (eval elt (compEnvC scope cl C env)) (CompEnd h₀ L m { s with heap := h, toks := tk } I oI C oC D (lst ys) S (fun y news' => Inv (i + 1) (ys ++ [y]) news')) E' s'
        else CompEnd h₀ L m { s with heap := h, toks := tk } I oI C oC D (lst ys) S (fun _ news' => Inv (i + 1) ys news') Value.none s') E' { s with heap := h, toks := tk })
    (done : ∀ ys nw, Inv n ys nw → Fin ys nw) :
    CompRestT prog w A h₀ L m env ct elt x scope cl s S P Fin n 0 [] nw₀ := by
  have all : ∀ k i ys nw, i + k = n → Inv i ys nw → CompRestT prog w A h₀ L m env ct elt x scope cl s S P Fin k i ys nw := by
    intro k
    induction k with
    | zero =>
      intro i ys nw e hI
      have : i = n := by omega
      subst this
      exact .zero (done _ _ hI)
    | succ k ih =>
      intro i ys nw e hI
      refine .succ fun v I oI C oC D m₂ h tk E' h1 h2 h3 h4 h5 h6 h7 => ?_
      refine wpAny_mono (step i ys nw (by omega) hI v I oI C oC D m₂ h tk E' h1 h2 h3 h4 h5 h6 h7) (fun ok s' z => ?_) fun _ _ z => z
      cases ok with
      | true =>
        simp only [if_true] at z ⊢
        exact wpAny_mono z (fun y s2 q => compEnd_mono q fun y nw' r => ih _ _ _ (by omega) r) fun _ _ q => q
      | false =>
        simp only [Bool.false_eq_true, if_false] at z ⊢
        exact compEnd_mono z fun y nw' r => ih _ _ _ (by omega) r
  exact all n 0 [] nw₀ (by omega) start
end
theorem off3_app {I C D : Addr} {l1 l2 : List (Addr × Obj)} (h1 : ∀ p ∈ l1, p.1 ≠ I ∧ p.1 ≠ C ∧ p.1 ≠ D) (h2 : Off3 I C D l2) : Off3 I C D (l1 ++ l2) :=
  Off3.of fun p hp => (List.mem_append.mp hp).elim (h1 p) (h2.mem p)
end
section
open PySem PySem.W PyProof.Rows
/-! the model's sort, as a tree of questions, under a strict total order -/
noncomputable def okT {α : Type} (lt : Nat → Nat → Bool) (n : Nat) : KasT α → (α → Prop) → Prop
  | .ret a, Q => Q a
  | .ask i j k, Q => i < n ∧ j < n ∧ okT lt n (k (lt i j)) Q
theorem okT_bind {α β : Type} {lt : Nat → Nat → Bool} {n : Nat} {f : α → KasT β} {Q : β → Prop} : ∀ (t : KasT α), okT lt n t (fun a => okT lt n (f a) Q) → okT lt n (t.bind f) Q
  | .ret _, h => h
  | .ask i j k, h => ⟨h.1, h.2.1, okT_bind (k (lt i j)) h.2.2⟩
structure TotalOn (lt : Nat → Nat → Bool) (n : Nat) : Prop where
  trans : ∀ a b c, lt a b = true → lt b c = true → lt a c = true
  total : ∀ a b, a < n → b < n → a ≠ b → lt a b = false → lt b a = true
  asymm : ∀ a b, lt a b = true → lt b a = false
structure PP (n : Nat) (p : Array Nat) : Prop where
  size : p.size = n
  perm : p.toList.Perm (List.range n)
noncomputable abbrev at0 (p : Array Nat) (i : Nat) : Nat := p.getD i 0
theorem at0_eq {p : Array Nat} {i : Nat} (h : i < p.size) : at0 p i = p[i] := by simp [Array.getD, h]
theorem at0_some {p : Array Nat} {i : Nat} (h : i < p.size) : p[i]? = some (at0 p i) := by rw [at0_eq h]; simp [h]
theorem at0_of {p q : Array Nat} {i j : Nat} (hj : j < q.size) (h : p[i]? = q[j]?) : at0 p i = at0 q j := by
  have : p[i]? = some (at0 q j) := by rw [h, at0_some hj]
  obtain ⟨hi, e⟩ := Array.getElem?_eq_some_iff.mp this
  rw [at0_eq hi, e]
theorem PP.lt {n : Nat} {p : Array Nat} (h : PP n p) {i : Nat} (hi : i < n) : at0 p i < n := by
  have hi' : i < p.size := h.size ▸ hi
  rw [at0_eq hi']
  have : p[i] ∈ p.toList := by simp
  have := h.perm.mem_iff.mp this
  simpa using this
theorem PP.ne {n : Nat} {p : Array Nat} (h : PP n p) {i j : Nat} (hi : i < n) (hj : j < n) (hij : i ≠ j) : at0 p i ≠ at0 p j := by
  have nd : p.toList.Nodup := h.perm.nodup_iff.mpr List.nodup_range
  have hi' : i < p.toList.length := by rw [Array.length_toList, h.size]; exact hi
  have hj' : j < p.toList.length := by rw [Array.length_toList, h.size]; exact hj
  rw [at0_eq (by rw [h.size]; exact hi), at0_eq (by rw [h.size]; exact hj)]
  intro e
  have e' : p.toList[i] = p.toList[j] := by simpa using e
  have key := List.pairwise_iff_getElem.mp nd
  rcases Nat.lt_or_gt_of_ne hij with q | q
  · exact key i j hi' hj' q e'
  · exact key j i hj' hi' q e'.symm
theorem PP.of {n : Nat} {p q : Array Nat} (h : PP n p) (hq : q.Perm p) : PP n q :=
  ⟨hq.size_eq.trans h.size, (Array.perm_iff_toList_perm.mp hq).trans h.perm⟩
noncomputable def Asc (lt : Nat → Nat → Bool) (p : Array Nat) (k : Nat) : Prop := ∀ i j, i < j → j < k → lt (at0 p i) (at0 p j) = true
noncomputable def Desc (lt : Nat → Nat → Bool) (p : Array Nat) (k : Nat) : Prop := ∀ i j, i < j → j < k → lt (at0 p j) (at0 p i) = true
section
variable {lt : Nat → Nat → Bool} {n : Nat} (O : TotalOn lt n)
include O
theorem asc_step {p : Array Nat} (P : PP n p) {k : Nat} (h1 : 1 ≤ k) (hk : k < n) (A : Asc lt p k) (h : lt (at0 p k) (at0 p (k - 1)) = false) : Asc lt p (k + 1) := by
  have last : lt (at0 p (k - 1)) (at0 p k) = true := O.total _ _ (P.lt hk) (P.lt (by omega)) (P.ne hk (by omega) (by omega)) h
  intro i j hij hj
  by_cases hjk : j = k
  · subst hjk
    by_cases hi : i = j - 1
    · rw [hi]; exact last
    · exact O.trans _ _ _ (A i (j - 1) (by omega) (by omega)) last
  · exact A i j hij (by omega)
theorem desc_step {p : Array Nat} {k : Nat} (h1 : 1 ≤ k) (A : Desc lt p k) (h : lt (at0 p k) (at0 p (k - 1)) = true) : Desc lt p (k + 1) := by
  intro i j hij hj
  by_cases hjk : j = k
  · subst hjk
    by_cases hi : i = j - 1
    · rw [hi]; exact h
    · exact O.trans _ _ _ h (A i (j - 1) (by omega) (by omega))
  · exact A i j hij (by omega)
theorem okT_asc {p : Array Nat} (P : PP n p) : ∀ (f m : Nat) (Q : Nat → Prop), 1 ≤ m → m + f ≤ n → Asc lt p m →
    (∀ r, m ≤ r → r ≤ m + f → Asc lt p r → (r < m + f → lt (at0 p r) (at0 p (r - 1)) = true) → Q r) → okT lt n (kas_asc p f m) Q
  | 0, m, Q, _, _, A, h => h m (Nat.le_refl _) (Nat.le_refl _) A (fun x => absurd x (Nat.lt_irrefl _))
  | f + 1, m, Q, h1, hf, A, h => by
    refine ⟨P.lt (by omega), P.lt (by omega), ?_⟩
    by_cases c : lt (at0 p m) (at0 p (m - 1)) = true
    · show okT lt n (if lt (at0 p m) (at0 p (m - 1)) = true then KasT.ret m else kas_asc p f (m + 1)) Q
      rw [if_pos c]
      exact h m (Nat.le_refl _) (by omega) A fun _ => c
    · show okT lt n (if lt (at0 p m) (at0 p (m - 1)) = true then KasT.ret m else kas_asc p f (m + 1)) Q
      rw [if_neg c]
      exact okT_asc P f (m + 1) Q (by omega) (by omega) (asc_step O P h1 (by omega) A (by simpa using c)) fun r h1 h2 => h r (by omega) (by omega) |> fun z a b => z a (fun h3 => b (by omega))
theorem okT_desc {p : Array Nat} (P : PP n p) : ∀ (f m : Nat) (Q : Array Nat × Nat × Nat → Prop), 1 ≤ m → m + f ≤ n → Desc lt p m →
    (∀ r, m ≤ r → r ≤ m + f → Desc lt p r → Q (p, r, 0)) → okT lt n (kas_desc f p m 0) Q
  | 0, m, Q, _, _, A, h => h m (Nat.le_refl _) (Nat.le_refl _) A
  | f + 1, m, Q, h1, hf, A, h => by
    refine ⟨P.lt (by omega), P.lt (by omega), ?_⟩
    by_cases c : lt (at0 p m) (at0 p (m - 1)) = true
    · show okT lt n (if lt (at0 p m) (at0 p (m - 1)) = true then _ else _) Q
      rw [if_pos c, if_neg (by omega)]
      exact okT_desc P f (m + 1) Q (by omega) (by omega) (desc_step O h1 A c) fun r h1 h2 => h r (by omega) (by omega)
    · show okT lt n (if lt (at0 p m) (at0 p (m - 1)) = true then _ else _) Q
      rw [if_neg c]
      have d : lt (at0 p (m - 1)) (at0 p m) = true := O.total _ _ (P.lt (by omega)) (P.lt (by omega)) (P.ne (by omega) (by omega) (by omega)) (by simpa using c)
      refine ⟨P.lt (by omega), P.lt (by omega), ?_⟩
      show okT lt n (if lt (at0 p (m - 1)) (at0 p m) = true then _ else _) Q
      rw [if_pos d]
      exact h m (Nat.le_refl _) (by omega) A
omit O in
theorem rev_asc {p : Array Nat} (P : PP n p) {m : Nat} (hm : m ≤ n) (D : Desc lt p m) : Asc lt (kas_rev p 0 m) m := by
  intro i j hij hj
  have g : ∀ k, k < m → at0 (kas_rev p 0 m) k = at0 p (m - 1 - k) := fun k hk => by
    refine at0_of (by rw [P.size]; omega) ?_
    show (mirror p 0 m ((m - 0) / 2))[k]? = _
    rw [getElem?_mirror_all (by rw [P.size]; exact hm), if_pos ⟨by omega, hk⟩]
    congr 1; omega
  rw [g i (by omega), g j hj]
  exact D _ _ (by omega) (by omega)
noncomputable def Counted (lt : Nat → Nat → Bool) (n : Nat) (r : Nat × Array Nat) : Prop := PP n r.2 ∧ 1 ≤ r.1 ∧ r.1 ≤ n ∧ Asc lt r.2 r.1
theorem okT_tail3 {p : Array Nat} (P : PP n p) {m : Nat} (h1 : 1 ≤ m) (hm : m ≤ n) (D : Desc lt p m) : okT lt n (kas_tail3 m n p) (Counted lt n) := by
  have P' : PP n (kas_rev p 0 m) := P.of (mirror_perm _ _ _ _)
  refine okT_bind _ (okT_asc O P' (n - m) m _ h1 (by omega) (rev_asc P hm D) fun r h2 h3 A _ => ?_)
  exact ⟨P', by omega, by omega, A⟩
theorem okT_descPart {p : Array Nat} (P : PP n p) {m : Nat} (h1 : 1 ≤ m) (hm : m < n) (D : Desc lt p (m + 1)) : okT lt n (kas_descPart m n p) (Counted lt n) := by
  refine okT_bind _ (okT_desc O P (n - (m + 1)) (m + 1) _ (by omega) (by omega) D fun r h2 h3 A => ?_)
  show okT lt n (if 0 > 0 then _ else kas_tail3 r n p) _
  rw [if_neg (by omega)]
  exact okT_tail3 O P (by omega) (by omega) A
theorem okT_count {p : Array Nat} (P : PP n p) (hn : 1 ≤ n) : okT lt n (kas_count n p) (Counted lt n) := by
  refine okT_bind _ (okT_asc O P (n - 1) 1 _ (Nat.le_refl _) (by omega) (fun i j h1 h2 => by omega) fun r h2 h3 A h4 => ?_)
  by_cases e : r = n
  · subst e
    rw [if_pos (by simp)]
    exact ⟨P, h2, Nat.le_refl _, A⟩
  · rw [if_neg (by simpa using e)]
    by_cases g : r > 1
    · rw [if_pos g]
      refine ⟨P.lt (by omega), P.lt (by omega), ?_⟩
      have c : lt (at0 p 0) (at0 p (r - 1)) = true := A 0 (r - 1) (by omega) (by omega)
      show okT lt n (if lt (at0 p 0) (at0 p (r - 1)) = true then _ else _) _
      rw [if_pos c]
      exact ⟨P, h2, by omega, A⟩
    · rw [if_neg g]
      have hr : r = 1 := by omega
      subst hr
      refine okT_descPart O P (Nat.le_refl _) (by omega) ?_
      have := h4 (by omega)
      intro i j hij hj
      have : i = 0 := by omega
      have : j = 1 := by omega
      subst i j
      exact h4 (by omega)
theorem okT_place {p : Array Nat} (P : PP n p) {k : Nat} (hk : k < n) : ∀ (f l r : Nat) (Q : Nat → Prop), l ≤ r → r ≤ k → r - l ≤ f → Asc lt p k → (∀ i, i < l → lt (at0 p i) (at0 p k) = true) → (∀ i, r ≤ i → i < k → lt (at0 p k) (at0 p i) = true) →
    (∀ x, x ≤ k → (∀ i, i < x → lt (at0 p i) (at0 p k) = true) → (∀ i, x ≤ i → i < k → lt (at0 p k) (at0 p i) = true) → Q x) → okT lt n (kas_place p k f l r) Q
  | 0, l, r, Q, h1, h2, h3, A, a, b, h => by
    have : l = r := by omega
    subst this
    exact h l h2 a b
  | f + 1, l, r, Q, h1, h2, h3, A, a, b, h => by
    show okT lt n (if l ≥ r then _ else _) Q
    by_cases e : l ≥ r
    · rw [if_pos e]
      have : l = r := by omega
      subst this
      exact h l h2 a b
    · rw [if_neg e]
      refine ⟨P.lt (by omega), P.lt (by omega), ?_⟩
      by_cases c : lt (at0 p k) (at0 p ((l + r) / 2)) = true
      · show okT lt n (if lt (at0 p k) (at0 p ((l + r) / 2)) = true then _ else _) Q
        rw [if_pos c]
        refine okT_place P hk f l ((l + r) / 2) Q (by omega) (by omega) (by omega) A a (fun i hi hik => ?_) h
        by_cases q : i = (l + r) / 2
        · rw [q]; exact c
        · exact O.trans _ _ _ c (A _ _ (by omega) hik)
      · show okT lt n (if lt (at0 p k) (at0 p ((l + r) / 2)) = true then _ else _) Q
        rw [if_neg c]
        have d : lt (at0 p ((l + r) / 2)) (at0 p k) = true := O.total _ _ (P.lt (by omega)) (P.lt (by omega)) (P.ne (by omega) (by omega) (by omega)) (by simpa using c)
        refine okT_place P hk f ((l + r) / 2 + 1) r Q (by omega) (by omega) (by omega) A (fun i hi => ?_) b h
        by_cases q : i = (l + r) / 2
        · rw [q]; exact d
        · exact O.trans _ _ _ (A i ((l + r) / 2) (by omega) (by omega)) d
theorem okT_bin : ∀ (f k : Nat) (p : Array Nat), PP n p → k + f = n → Asc lt p k → okT lt n (kas_bin f p k) (fun q => PP n q ∧ Asc lt q n)
  | 0, k, p, P, h, A => by
    have : k = n := by omega
    subst this
    exact ⟨P, A⟩
  | f + 1, k, p, P, h, A => by
    refine okT_bind _ (okT_place O P (k := k) (by omega) k 0 k _ (by omega) (Nat.le_refl _) (by omega) A (fun i hi => by omega) (fun i h1 h2 => by omega) fun x hx a b => ?_)
    have P' : PP n (bubble p k (k - x)) := P.of (bubble_perm _ _ _)
    refine okT_bin f (k + 1) _ P' (by omega) ?_
    have hs : k < p.size := by rw [P.size]; omega
    have g : ∀ j, j ≤ k → at0 (bubble p k (k - x)) j = if j = x then at0 p k else if x < j then at0 p (j - 1) else at0 p j := fun j hj => by
      have e := getElem?_bubble hs (k - x) (by omega) j
      have ex : k - (k - x) = x := by omega
      rw [ex] at e
      by_cases h1 : j = x
      · rw [if_pos h1] at e ⊢; exact at0_of hs e
      · rw [if_neg h1] at e ⊢
        by_cases h2 : x < j
        · rw [if_pos ⟨h2, hj⟩] at e; rw [if_pos h2]; exact at0_of (by rw [P.size]; omega) e
        · rw [if_neg (by omega)] at e; rw [if_neg h2]; exact at0_of (by rw [P.size]; omega) e
    intro i j hij hj
    rw [g i (by omega), g j (by omega)]
    by_cases h1 : i = x
    · rw [if_pos h1, if_neg (by omega), if_pos (by omega)]
      exact b _ (by omega) (by omega)
    · rw [if_neg h1]
      by_cases h2 : x < i
      · rw [if_pos h2, if_neg (by omega), if_pos (by omega)]
        exact A _ _ (by omega) (by omega)
      · rw [if_neg h2]
        by_cases h3 : j = x
        · rw [if_pos h3]; exact a _ (by omega)
        · rw [if_neg h3]
          by_cases h4 : x < j
          · rw [if_pos h4]
            by_cases h5 : i = j - 1
            · omega
            · exact A _ _ (by omega) (by omega)
          · rw [if_neg h4]; exact A _ _ hij (by omega)
theorem okT_sort (hn : 1 ≤ n) : okT lt n (kas_sort n) (fun q => PP n q ∧ Asc lt q n) := by
  have P : PP n (List.toArray (List.range n)) := ⟨by simp, by simp⟩
  refine okT_bind _ ?_
  have h := okT_count O P hn
  revert h
  generalize kas_count n (List.toArray (List.range n)) = t
  have mono : ∀ (t : KasT (Nat × Array Nat)) (Q Q' : Nat × Array Nat → Prop), (∀ a, Q a → Q' a) → okT lt n t Q → okT lt n t Q' := by
    intro t
    induction t with
    | ret a => intro Q Q' k h; exact k _ h
    | ask i j k ih => intro Q Q' q h; exact ⟨h.1, h.2.1, ih _ Q Q' q h.2.2⟩
  refine mono t _ _ fun r h => ?_
  obtain ⟨r, p⟩ := r
  obtain ⟨P, h1, h2, A⟩ := h
  dsimp only at P h1 h2 A
  show okT lt n (if r < n then kas_bin (n - max r 1) p (max r 1) else KasT.ret p) _
  by_cases e : r < n
  · rw [if_pos e]
    have : max r 1 = r := by omega
    rw [this]
    exact okT_bin O _ _ _ P (by omega) A
  · rw [if_neg e]
    have : r = n := by omega
    subst this
    exact ⟨P, A⟩
end
end
section
open PySem PySem.W PyProof.Rows PySem.Calls PySem.Spec
set_option maxRecDepth 100000
noncomputable abbrev pairD (p : Int × Int) : Dat := Dat.tuple [Dat.int p.1, Dat.int p.2]
noncomputable def lexlt (p q : Int × Int) : Bool := decide (p.1 < q.1) || (decide (p.1 = q.1) && decide (p.2 < q.2))
theorem dats_cons {news : List (Addr × Obj)} {vs : List Value} {d : Dat} {ds : List Dat} (h : DatAll news vs (d :: ds)) : ∃ v ws, vs = v :: ws ∧ DatIn news v d ∧ DatAll news ws ds := by
  cases h with
  | cons h1 r => exact ⟨_, _, rfl, h1, r⟩
theorem dats_nil {news : List (Addr × Obj)} {vs : List Value} (h : DatAll news vs []) : vs = [] := by
  cases h
  rfl
theorem dat_int {news : List (Addr × Obj)} {v : Value} {n : Int} (h : DatIn news v (Dat.int n)) : ∃ t, v = .int n t := by
  cases h
  exact ⟨_, rfl⟩
theorem dat_tuple {news : List (Addr × Obj)} {v : Value} {ds : List Dat} (h : DatIn news v (Dat.tuple ds)) : ∃ a vs n, v = .ref a ∧ (a, ({ cls := .type "tuple", data := .seq vs.toArray n } : Obj)) ∈ news ∧ DatAll news vs ds := by
  cases h with
  | tuple hm r => exact ⟨_, _, _, rfl, hm, r⟩
theorem datIn_pair {news : List (Addr × Obj)} {v : Value} {p : Int × Int} (h : DatIn news v (pairD p)) : ∃ a t1 t2 n, v = .ref a ∧ (a, ({ cls := .type "tuple", data := .seq [.int p.1 t1, .int p.2 t2].toArray n } : Obj)) ∈ news := by
  obtain ⟨a, vs, n, rfl, hm, r⟩ := dat_tuple h
  obtain ⟨v1, w1, rfl, h1, r1⟩ := dats_cons r
  obtain ⟨v2, w2, rfl, h2, r2⟩ := dats_cons r1
  obtain rfl := dats_nil r2
  obtain ⟨t1, rfl⟩ := dat_int h1
  obtain ⟨t2, rfl⟩ := dat_int h2
  exact ⟨a, t1, t2, n, rfl, hm⟩
section
variable {prog : Program} {w : World} {A : Around} {E : Value → Shared → Prop} {s : Shared} {h₀ : Heap} {L l : Addr} {m : Str → Option Value} {news : List (Addr × Obj)} {vs : List Value}
theorem keyLt_pair {x y : Addr} {p q : Int × Int} {t1 t2 u1 u2 : Tok} {n k : Nat} {Q : Bool → Shared → Prop} (hx : s.heap.get? x = some { cls := .type "tuple", data := .seq [.int p.1 t1, .int p.2 t2].toArray n })
    (hy : s.heap.get? y = some { cls := .type "tuple", data := .seq [.int q.1 u1, .int q.2 u2].toArray k }) (h : Q (lexlt p q) s) : wpAny (model prog w) A (keyLt' (tuples' true) (.ref x) (.ref y)) Q E s := by
  refine kat_lt hx rfl hy rfl ?_
  show KatLex prog w A true (decide (2 < 2)) Q [(.int p.1 t1, .int q.1 u1), (.int p.2 t2, .int q.2 u2)] 0 s
  refine kat_cons (wpAny_eqBool_int ?_)
  unfold lexlt at h
  by_cases e : p.1 = q.1
  · rw [show (p.1 == q.1) = true by simpa using e]
    refine kat_yes (kat_cons (wpAny_eqBool_int ?_))
    simp only [e, Int.lt_irrefl, decide_false, decide_true, Bool.false_or, Bool.true_and] at h
    by_cases e2 : p.2 = q.2
    · rw [show (p.2 == q.2) = true by simpa using e2]
      refine kat_yes (kat_nil ?_)
      rw [e2] at h
      simpa using h
    · rw [show (p.2 == q.2) = false by simpa using e2]
      refine kat_no ?_
      show wpAny (model prog w) A (oneLt' false _ _) Q (fun _ _ => False) s
      exact kat_one _ _ (PyProof.Rows.lt_int h)
  · rw [show (p.1 == q.1) = false by simpa using e]
    refine kat_no ?_
    show wpAny (model prog w) A (oneLt' true _ _) Q (fun _ _ => False) s
    refine oneLt_int ?_
    simpa [e] using h
theorem kas_pairs {n : Nat} {ps : Nat → Int × Int} (hv : ∀ i, i < n → ∃ a t1 t2 k, vs.getD i Value.none = .ref a ∧ s.heap.get? a = some { cls := .type "tuple", data := .seq [.int (ps i).1 t1, .int (ps i).2 t2].toArray k }) {α : Type} {Q : α → Shared → Prop} :
    ∀ t : KasT α, okT (fun i j => lexlt (ps i) (ps j)) n t (fun a => Q a s) → t.kasWp (kas_ask prog w A (tuples' true) vs) Q s
  | .ret _, h => h
  | .ask i j k, h => by
    obtain ⟨a, t1, t2, k1, e1, h1⟩ := hv i h.1
    obtain ⟨b, u1, u2, k2, e2, h2⟩ := hv j h.2.1
    show wpAny (model prog w) A (keyLt' (tuples' true) (vs.getD i Value.none) (vs.getD j Value.none)) _ _ s
    rw [e1, e2]
    exact keyLt_pair h1 h2 (kas_pairs hv _ h.2.2)
theorem sorted_short {Q : Value → Shared → Prop} (F : Fr h₀ L s.heap m) (N : News h₀ L s.heap news) (hl : s.heap.IsList l vs.toArray) (h2 : vs.length < 2)
    (h : ∀ (h' : Heap) (e : Nat), Fr h₀ L h' m → News h₀ L h' ((s.heap.objs.size + 1, seqObj "list" vs.toArray e) :: news) → Q (.ref (s.heap.objs.size + 1)) { s with heap := h' }) :
    wpAny (model prog w) A (call (.builtin "sorted") [.ref l]) Q E s := by
  have fin : Q (.ref (s.heap.objs.size + 1)) { s with heap := sortedAll s.heap vs vs.toArray } := by
    obtain ⟨e, he⟩ := sortedAll_at s.heap vs vs.toArray
    exact h _ e (F.kept fun _ _ => sortedAll_old) (N.kept_cons F (fun _ _ => sortedAll_old) (Nat.le_succ _) he)
  refine Calls.call_function_entry kind_sorted plain_sorted entry_sorted (args_sorted1 _) ?_
  unfold Builtin.«sorted»
  refine wpAny_bind (m := checkCount "sorted" 1 1 _) (wpAny_pure ?_)
  refine wpAny_bind (collect_list hl ?_ (by rw [sizeLine_eq]; omega))
  refine wpAny_bind (wpAny_newList ?_ (by rw [sizeLine_eq]; omega))
  have hsz : ((s.heap.push (seqObj "list" #[] 0)).update s.heap.objs.size (Obj.mapSeq (· ++ vs.toArray))).objs.size = s.heap.objs.size + 1 := by
    rw [Heap.size_update, size_push']
  have hoL : (((s.heap.push (seqObj "list" #[] 0)).update s.heap.objs.size (Obj.mapSeq (· ++ vs.toArray))).push (seqObj "list" vs.toArray 0)).get? (s.heap.objs.size + 1) = some (seqObj "list" vs.toArray 0) := by
    rw [← hsz]; exact Heap.get?_push_size _ rfl
  show wpAny _ _ _ _ _ { s with heap := ((s.heap.push (seqObj "list" #[] 0)).update s.heap.objs.size (Obj.mapSeq (· ++ vs.toArray))).push (seqObj "list" vs.toArray 0) }
  rw [hsz]
  refine wpAny_bind (wpAny_holding (wpAny_call_entry slot_list_sort ⟨_, hoL, rfl⟩ entry_list_sort ?body (args_list_sort _)))
  case body =>
    generalize hH : ((s.heap.push (seqObj "list" #[] 0)).update s.heap.objs.size (Obj.mapSeq (· ++ vs.toArray))).push (seqObj "list" vs.toArray 0) = H at hoL
    have ha := Heap.lt_size hoL
    rw [list_sort_plain]
    refine wpAny_bind (listItems_at hoL rfl ?_)
    refine wpAny_bind (listUpdate_at hoL rfl ?_ (by rw [List.size_toArray, sizeLine_eq]; omega) (Nat.zero_le _))
    obtain ⟨e1, ho1⟩ : ∃ e1, (H.update (s.heap.objs.size + 1) (Obj.mapSeq fun _ => (#[] : Array Value))).get? (s.heap.objs.size + 1) = some (seqObj "list" #[] e1) := ⟨_, get?_update_seq hoL (fun _ => #[])⟩
    refine wpAny_bind (seqEpoch_at ho1 rfl ?_)
    refine wpAny_bind (wpAny_newTuple ?_ (by show vs.length ≤ _; rw [sizeLine_eq]; omega))
    refine wpAny_bind (wpAny_newList ?_ (Nat.zero_le _))
    refine wpAny_holding ?_
    have ho6 : (((H.update (s.heap.objs.size + 1) (Obj.mapSeq fun _ => (#[] : Array Value))).push (seqObj "tuple" vs.toArray 0)).push (seqObj "list" #[] 0)).get? (s.heap.objs.size + 1) = some (seqObj "list" #[] e1) :=
      Heap.get?_push_of_some _ (Heap.get?_push_of_some _ ho1)
    show wpAny (model prog w) A.in1.in1 _ _ _ { s with heap := ((H.update (s.heap.objs.size + 1) (Obj.mapSeq fun _ => (#[] : Array Value))).push (seqObj "tuple" vs.toArray 0)).push (seqObj "list" #[] 0) }
    dsimp only
    have h3 : vs.toArray.size < 2 := by rw [List.size_toArray]; exact h2
    rw [if_pos h3, if_pos h3]
    refine wpAny_bind (wpAny_pure ?_)
    rw [StateT.run_pure]
    refine wpAny_bind (wpAny_pure ?_)
    dsimp only
    refine wpAny_bind (seqEpoch_at ho6 rfl ?_)
    have eo : (arrOf (SortSt.mk' general' (vs.toArray.zip vs.toArray) #[] 7 none)).map (·.2) = vs.toArray := by
      show (vs.toArray.zip vs.toArray).map (·.2) = vs.toArray
      rw [Array.map_snd_zip] <;> simp
    rw [eo]
    refine wpAny_bind (listUpdate_at ho6 rfl ?_ (Nat.zero_le _) (by rw [List.size_toArray, sizeLine_eq]; omega))
    simp only [bne_self_eq_false, Bool.false_eq_true, if_false]
    refine wpAny_pure ⟨_, rfl, wpAny_pure ⟨_, rfl, ?_⟩⟩
    have e9 : sortedAll s.heap vs vs.toArray = (((H.update (s.heap.objs.size + 1) (Obj.mapSeq fun _ => (#[] : Array Value))).push (seqObj "tuple" vs.toArray 0)).push (seqObj "list" #[] 0)).update (s.heap.objs.size + 1) (Obj.mapSeq fun _ => vs.toArray) := by
      rw [← hH]; rfl
    rw [e9] at fin
    exact fin
end
end
section
open PySem PySem.W PyProof.Rows PySem.Calls PySem.Spec
set_option maxRecDepth 100000
theorem lex_trans {p q r : Int × Int} (h1 : lexlt p q = true) (h2 : lexlt q r = true) : lexlt p r = true := by
  unfold lexlt at *
  simp only [Bool.or_eq_true, Bool.and_eq_true, decide_eq_true_eq] at *
  omega
theorem lex_asymm {p q : Int × Int} (h1 : lexlt p q = true) : lexlt q p = false := by
  unfold lexlt at *
  simp only [Bool.or_eq_true, Bool.and_eq_true, decide_eq_true_eq, Bool.or_eq_false_iff, Bool.and_eq_false_iff, decide_eq_false_iff_not] at *
  omega
theorem lex_total {p q : Int × Int} (hne : p ≠ q) (h1 : lexlt p q = false) : lexlt q p = true := by
  have : p.1 ≠ q.1 ∨ p.2 ≠ q.2 := by
    by_cases e : p.1 = q.1
    · right; intro e2; exact hne (Prod.ext e e2)
    · left; exact e
  unfold lexlt at *
  simp only [Bool.or_eq_true, Bool.and_eq_true, decide_eq_true_eq, Bool.or_eq_false_iff, Bool.and_eq_false_iff, decide_eq_false_iff_not] at *
  omega
noncomputable abbrev plAt (pl : List (Int × Int)) (i : Nat) : Int × Int := pl.getD i (0, 0)
theorem plAt_eq {pl : List (Int × Int)} {i : Nat} (h : i < pl.length) : plAt pl i = pl[i] := by simp [h]
theorem total_pl {pl : List (Int × Int)} (nd : pl.Nodup) : TotalOn (fun i j => lexlt (plAt pl i) (plAt pl j)) pl.length := by
  refine ⟨fun a b c => lex_trans, fun a b ha hb hab h => lex_total ?_ h, fun a b => lex_asymm⟩
  rw [plAt_eq ha, plAt_eq hb]
  have key := List.pairwise_iff_getElem.mp nd
  rcases Nat.lt_or_gt_of_ne hab with q | q
  · exact key a b ha hb q
  · exact fun e => key b a hb ha q e.symm
theorem datAll_getD {news : List (Addr × Obj)} {vs : List Value} {pl : List (Int × Int)} (h : DatAll news vs (pl.map pairD)) {i : Nat} (hi : i < pl.length) : DatIn news (vs.getD i Value.none) (pairD (plAt pl i)) := by
  obtain ⟨v, hv, hD⟩ := h.get (k := i) (by simpa using hi)
  have e1 : vs.getD i Value.none = v := by rw [List.getD_eq_getElem?_getD, hv]; rfl
  rw [e1, plAt_eq hi]
  simpa using hD
theorem datAll_of {news : List (Addr × Obj)} {vs : List Value} {pl : List (Int × Int)} (h : DatAll news vs (pl.map pairD)) : ∀ (is : List Nat), (∀ i ∈ is, i < pl.length) → DatAll news (is.map fun i => vs.getD i Value.none) ((is.map (plAt pl)).map pairD)
  | [], _ => .nil
  | i :: r, hi => .cons (datAll_getD h (hi i (.head _))) (datAll_of h r fun j hj => hi j (.tail _ hj))
theorem katTups_of {h : Heap} {news : List (Addr × Obj)} (hn : ∀ p ∈ news, h.get? p.1 = some p.2) : ∀ {vs : List Value} {pl : List (Int × Int)}, DatAll news vs (pl.map pairD) → ∃ fs : List Value, KatTups h vs fs ∧ fs.length = vs.length ∧ ∀ v ∈ fs, ∃ i t, v = Value.int i t
  | [], [], _ => ⟨[], KatTups.nil, rfl, fun _ h => nomatch h⟩
  | [], _ :: _, h => nomatch h
  | _ :: _, [], h => nomatch h
  | v :: vs, p :: pl, h => by
    cases h with
    | cons h1 r =>
      obtain ⟨a, t1, t2, n, rfl, hm⟩ := datIn_pair h1
      obtain ⟨fs, h2, h3, h4⟩ := katTups_of hn r
      refine ⟨.int p.1 t1 :: fs, KatTups.cons (hn _ hm) rfl rfl rfl h2, by rw [List.length_cons, List.length_cons, h3], fun v hv => ?_⟩
      rcases List.mem_cons.mp hv with rfl | hv
      · exact ⟨_, _, rfl⟩
      · exact h4 v hv
section
variable {prog : Program} {w : World} {A : Around} {E : Value → Shared → Prop} {s : Shared} {h₀ : Heap} {L l : Addr} {m : Str → Option Value} {news : List (Addr × Obj)} {vs : List Value}
theorem perm_lt {n : Nat} {p : Array Nat} (P : PP n p) : ∀ i ∈ p.toList, i < n := fun i hi => by
  have := P.perm.mem_iff.mp hi
  simpa using this
theorem sorted_pairs {pl : List (Int × Int)} {T : List (Addr × Obj)} {Q : Value → Shared → Prop} (F : Fr h₀ L s.heap m) (N : News h₀ L s.heap news) (hl : s.heap.IsList l vs.toArray) (hT : ∀ p ∈ T, p ∈ news) (hD : DatAll T vs (pl.map pairD)) (nd : pl.Nodup) (h64 : pl.length < 64)
    (h : ∀ (D : Addr) (k : Nat) (h' : Heap) (out : List Value) (ql : List (Int × Int)), Fr h₀ L h' m → News h₀ L h' ((D, listOf (List.toArray out) k) :: news) → (∀ q ∈ news, q.1 < D) → DatAll T out (ql.map pairD) → ql.Perm pl → ql.Pairwise (fun p q => lexlt p q = true) → Q (.ref D) { s with heap := h' }) :
    wpAny (model prog w) A (call (.builtin "sorted") [.ref l]) Q E s := by
  have hlen : vs.length = pl.length := by have := hD.length; simpa using this
  by_cases h2 : vs.length < 2
  · refine sorted_short F N hl h2 fun h' e F' N' => h _ e h' vs pl F' N' (fun q hq => Nat.lt_succ_of_lt (Heap.lt_size (N q hq).1)) hD (List.Perm.refl _) ?_
    match pl, hlen with
    | [], _ => exact .nil
    | [p], _ => exact List.pairwise_singleton _ _
    | p :: q :: r, e => simp at e; omega
  · refine kat_sorted F N hl (by omega) (by omega) fun D e1 h' F' N' l1 => ?_
    have Nn : ∀ p ∈ T, h'.get? p.1 = some p.2 := fun p hp => (N' p (.tail _ (hT p hp))).1
    obtain ⟨fs, kt, hfl, hfi⟩ := katTups_of Nn hD
    refine kat_kind (T := .type "int") kt (by omega) (fun v hv => ?_) rfl ?_
    · obtain ⟨i, t, rfl⟩ := hfi v hv
      exact Looks.of_pure rfl
    · show (kas_sort vs.length).kasWp (kas_ask prog w A.in1.in1 (tuples' true) vs) _ { s with heap := h' }
      rw [hlen]
      refine kas_pairs (ps := plAt pl) (n := pl.length) (fun i hi => ?_) _ ?_
      · obtain ⟨a, t1, t2, n, e, hm⟩ := datIn_pair (datAll_getD hD hi)
        exact ⟨a, t1, t2, n, e, Nn _ hm⟩
      · have ok := okT_sort (total_pl nd) (by omega)
        revert ok
        generalize kas_sort pl.length = t
        have mono : ∀ (t : KasT (Array Nat)) (Q Q' : Array Nat → Prop), (∀ a, Q a → Q' a) → okT (fun i j => lexlt (plAt pl i) (plAt pl j)) pl.length t Q → okT (fun i j => lexlt (plAt pl i) (plAt pl j)) pl.length t Q' := by
          intro t
          induction t with
          | ret a => intro Q Q' k h; exact k _ h
          | ask i j k ih => intro Q Q' q h; exact ⟨h.1, h.2.1, ih _ Q Q' q h.2.2⟩
        refine mono t _ _ fun p hp => ?_
        obtain ⟨P, A⟩ := hp
        refine KasFin.intro F' N' (UpdF.head fun p hp => Nat.ne_of_lt (l1 p hp)) fun h2 c F2 N2 => ?_
        refine h D c h2 _ (p.toList.map (plAt pl)) F2 N2 l1 (datAll_of hD p.toList (perm_lt P)) ?_ ?_
        · have e : (List.range pl.length).map (plAt pl) = pl := by
            refine List.ext_getElem (by rw [List.length_map, List.length_range]) fun i h1 h2 => ?_
            rw [List.getElem_map, List.getElem_range, plAt_eq h2]
          have q := P.perm.map (plAt pl)
          rw [e] at q
          exact q
        · rw [List.pairwise_map, List.pairwise_iff_getElem]
          intro i j hi hj hij
          have hi' : i < p.size := by simpa using hi
          have hj' : j < p.size := by simpa using hj
          have := A i j hij (P.size ▸ hj')
          rw [at0_eq hi', at0_eq hj'] at this
          simpa using this
end
end
local macro_rules | `(tactic| k_mem) => `(tactic| kcf_m)
section
open PySem PySem.W PyProof.Rows PySem.Calls PySem.Spec
set_option maxRecDepth 100000
theorem topOff3 : True := by
  w_top off
  trivial
local macro_rules | `(tactic| walk_at "eval ListComp") => `(tactic| (k_here; refine Fence.it ?_))
/-- the pairs (length, symbol) of the first i symbols -/
noncomputable def prsTo (ns : List Int) : Nat → List (Int × Int)
  | 0 => []
  | i+1 => if 0 < ns.getD i 0 then prsTo ns i ++ [(ns.getD i 0, (i : Int))] else prsTo ns i
theorem allLt_mem {d : Nat} : ∀ {l : List (Addr × Obj)}, AllLt d l → ∀ p ∈ l, @LT.lt Nat _ p.1 d
  | [], _, _, h => nomatch h
  | _ :: _, h, _, hp => (List.mem_cons.mp hp).elim (fun e => e ▸ h.1) (fun hp => allLt_mem h.2 _ hp)
theorem prsTo_mem (ns : List Int) : ∀ (i : Nat) (p : Int × Int), p ∈ prsTo ns i → p.2 < i
  | 0, _, h => nomatch h
  | i+1, p, h => by
    rw [prsTo] at h
    split at h
    · rcases List.mem_append.mp h with h | h
      · have := prsTo_mem ns i p h; omega
      · rw [List.mem_singleton.mp h]; show (i:Int) < _; omega
    · have := prsTo_mem ns i p h; omega
theorem prsTo_nodup (ns : List Int) : ∀ (i : Nat), (prsTo ns i).Nodup
  | 0 => .nil
  | i+1 => by
    rw [prsTo]
    split
    · refine List.nodup_append.mpr ⟨prsTo_nodup ns i, List.nodup_cons.mpr ⟨List.not_mem_nil, .nil⟩, fun p hp q hq e => ?_⟩
      rw [List.mem_singleton.mp hq] at e
      have := prsTo_mem ns i p hp
      rw [e] at this
      have : (i:Int) < i := this
      omega
    · exact prsTo_nodup ns i
theorem prsTo_length (ns : List Int) : ∀ (i : Nat), (prsTo ns i).length ≤ i
  | 0 => Nat.le_refl _
  | i+1 => by
    have := prsTo_length ns i
    rw [prsTo]
    split
    · rw [List.length_append, List.length_singleton]; omega
    · omega
set_option maxHeartbeats 2000000 in
theorem ord_K {prog : Program} {w : World} {p : Program} {loose : List Str} {mean : ExcName → Option Value} {mg mb : Str → Option Value}
    (dp un : Nat) (gd : Option (List Code)) (cn : Str) (cs : Scope) (a : Addr) (ccd : Value) (cl : List (Str × Addr)) (outer : List Env) (A₀ : Around) (base h₀ : Heap) (L : Addr) (m : Str → Option Value) (s : Shared) (Q E : Value → Shared → Prop)
    (l : Addr) (vs : List Value) (ns : List Int) (nn : Nat) (rest : List (Addr × Obj))
    (B : Below A₀ base outer h₀) (F : Fr h₀ L s.heap m) (X : (hd.heap_39 w.params).In h₀)
    (N : News h₀ L s.heap ((l, listOf vs.toArray nn) :: rest))
    (T : Top p loose mean mg mb h₀) (hk : cs.kind = .function)
    (hi : IntsAre vs ns) (hns : ns.length ≤ 6)
    (hd : dp + 4 < recursionLimit) (hu : un + 20 < cLine)
    (ret : ∀ (D : Addr) (k : Nat) (h' : Heap) (tk' : Nat) (out : List Value) (ql : List (Int × Int)) (tl : List (Addr × Obj)), Fr h₀ L h' m → News h₀ L h' ((D, listOf out.toArray k) :: (tl ++ (l, listOf vs.toArray nn) :: rest)) →
      (∀ q ∈ (l, listOf vs.toArray nn) :: rest, ∀ p ∈ tl, q.1 < p.1) → (∀ q ∈ tl ++ (l, listOf vs.toArray nn) :: rest, q.1 < D) → DatAll tl out (ql.map pairD) → ql.Perm (prsTo ns ns.length) → ql.Pairwise (fun p q => lexlt p q = true) → Q (.ref D) { s with heap := h', toks := tk' }) :
    wpAny (model prog w) (ktrTop dp un gd cn cs L a ccd cl outer) (call (.ref 100) [.ref l]) Q E s := by
  refine wpAny_call ?_
  k_dflt (refine' code_defC ?k1 ?k2 ?k3 ?k4 ?k5 ?kA ?kF ?kK ?k6 ?k7 ?k8 ?k9 ?kB ?kD ?_ ?c2 ?c3 ?c4)
  (case kA => exact rfl)
  (case kF => exact rfl)
  (case kK => assumption)
  (case k1 => k_asm)
  (case k2 => k_asm)
  (case k3 => k_asm)
  (case k4 => k_asm)
  (case k5 => k_asm)
  (case k6 => k_is)
  (case k7 => k_is)
  (case k8 => ktr_room)
  (case k9 => exact BindsTo.of_eq rfl)
  (case kB => exact rfl)
  (case kD => decide +kernel)
  (case c2 => exact rfl)
  (case c3 => exact rfl)
  (case c4 => exact rfl)
  intro g' L' h'1 tk' cells' FG F1 N1 Y' B1 X1 T1 l1
  (try k_lt l1)
  k_cells Y'
  replace F1 : Fr g' L' h'1 (fun _ => Option.none) := F1
  (try simp only [List.cons_append, List.nil_append] at N1)
  (try dsimp only)
  (try k_lift B1)
  (try k_fold)
  k_steps
  refine ⟨?_⟩
  lct_look
  lcg_calm
  k_dflt (refine LCt.ListComp_T (F₀ := by k_asm) (by with_unfolding_all rfl) (by decide) (by rfl) (by decide) (by rfl) ?_)
  k_steps
  rename_i o' d1 N1 F1 h' tk t₁ u₁ v₁ R1 F2 N2 K2
  replace d1 : o'.data = Data.cell (some (Value.ref l)) := d1
  refine LCt.CompSrcT.range (n := ns.length) (by rfl) (by k_asm) (by k_asm) (by assumption) ?hsm ?hn ?hsz ?_
  case hsm => exact small_one (by omega) (by omega) (by omega) (by omega)
  case hn => rw [rangeSize_nat, Int.sub_zero, Int.toNat_natCast]
  case hsz => simp only [sizeLine]; omega
  intro g2
  have l0 := l1
  clear l1
  refine restT_ind _ _ (fun i ys nw => ∃ tl, nw = tl ++ _ ∧ DatAll tl ys ((prsTo ns i).map pairD) ∧ (∀ q ∈ (L' + 1, o') :: (l, listOf vs.toArray nn) :: rest, ∀ p ∈ tl, q.1 < p.1)) ⟨[], rfl, .nil, fun _ _ _ h => nomatch h⟩ ?_ ?_
  · rintro i ys nw hn ⟨tl, rfl, hD, hO⟩ v I oI C oC D m₂ h tk E' ⟨tv, rfl⟩ h2 h3 h4 h5 h6 h7
    have q1 : (0:Int) + (i:Int) = (i:Int) := Int.zero_add _
    rw [q1] at h3
    have g0 : 0 ≤ (i:Int) := by omega
    have g1 : (i:Int) < ns.length := by omega
    k_steps
    · rename_i hpos t9 D9 h9 F9 N9 l9
      rw [Int.toNat_natCast] at hpos
      obtain ⟨lI, lC, lD, l9⟩ := l9
      refine' LCg.CompEnd.intro F9 N9 _ ?sub ?off trivial ⟨(_, _) :: tl, rfl, ?hd, ?ho⟩
      case sub =>
        intro p hp
        rcases List.mem_cons.mp hp with rfl | hp
        · exact .tail _ (.head _)
        rcases List.mem_cons.mp hp with rfl | hp
        · exact .tail _ (.tail _ (.head _))
        rcases List.mem_cons.mp hp with rfl | hp
        · exact .tail _ (.tail _ (.tail _ (.head _)))
        rcases List.mem_cons.mp hp with rfl | hp
        · exact .head _
        exact .tail _ (.tail _ (.tail _ (.tail _ hp)))
      case off =>
        refine LCg.Off3.of fun p hp => ?_
        rcases List.mem_cons.mp hp with rfl | hp
        · exact ⟨Nat.ne_of_gt lI, Nat.ne_of_gt lC, Nat.ne_of_gt lD⟩
        · exact h6.mem p hp
      case hd =>
        rw [prsTo, if_pos hpos, List.map_append]
        rw [Int.toNat_natCast]
        exact DatAll.append (DatAll.mono (fun p hp => .tail _ hp) hD) (DatAll.one (DatIn.tuple (.head _) (.cons (.int _ _) (.cons (.int _ _) .nil))))
      case ho =>
        intro q hq p hp
        rcases List.mem_cons.mp hp with rfl | hp
        · exact allLt_mem l9 q (List.mem_append.mpr (.inr hq))
        · exact hO q hq p hp
    · rename_i hpos
      rw [Int.toNat_natCast] at hpos
      refine' LCg.CompEnd.intro h4 h5 _ (fun p hp => hp) h6 trivial ⟨tl, rfl, ?_, hO⟩
      rw [prsTo, if_neg hpos]
      exact hD
  · rintro ys nw ⟨tl, rfl, hD, hO⟩
    k_steps
    rename_i D9 h9 tk9 F9 N9 o9
    refine sorted_pairs F9 N9 (N9.isList (.head _)) (fun p hp => .tail _ (List.mem_append.mpr (.inl hp))) hD (prsTo_nodup ns _) (Nat.lt_of_le_of_lt (prsTo_length ns _) (by omega)) fun D1 k1 h1 out ql F1 N1 l1 hD1 hp hs => ?_
    refine leaveK_ (news' := (D1, listOf out.toArray k1) :: (tl ++ (l, listOf vs.toArray nn) :: rest)) F1 (fun p hp => N1 p ?_) fun kF kN => ?_
    · rcases List.mem_cons.mp hp with rfl | hp
      · exact .head _
      refine .tail _ (.tail _ ?_)
      rcases List.mem_append.mp hp with hp | hp
      · exact List.mem_append.mpr (.inl hp)
      · exact List.mem_append.mpr (.inr (.tail _ hp))
    · refine ret D1 k1 h1 tk9 out ql tl kF kN (fun q hq => hO q (.tail _ hq)) (fun q hq => l1 q ?_) hD1 hp hs
      refine .tail _ ?_
      rcases List.mem_append.mp hq with hp | hp
      · exact List.mem_append.mpr (.inl hp)
      · exact List.mem_append.mpr (.inr (.tail _ hp))
end
section
open PySem PySem.W PyProof.Rows PySem.Calls PySem.Spec PyProof.V
set_option maxRecDepth 100000
theorem allObj_mono : ∀ {ws : List (Addr × String)} {k k' : List (Addr × Obj) → Prop}, (∀ its, k its → k' its) → AllObj ws k → AllObj ws k'
  | [], _, _, h, x => h _ x
  | _ :: _, _, _, h, x => fun o ho => allObj_mono (fun _ q => h _ q) (x o ho)
section
variable {prog : Program} {w : World} {A : Around} {E : Value → Shared → Prop} {s : Shared} {env : Env} {h₀ : Heap} {L : Addr} {target : PySem.Expr} {body : List Stmt} {Q : Flow → Shared → Prop}
theorem unrPostW_mono {s₁ s₂ : Shared} {its : List (Addr × Obj)} {R R' : (Str → Option Value) → List (Addr × Obj) → Prop} {f : Flow} (k : ∀ m n, R m n → R' m n) (h : UnrPostW h₀ L s₁ its R Q f s₂) : UnrPostW h₀ L s₁ its R' Q f s₂ := by
  cases f with
  | ret v => exact h
  | brk => exact h
  | next => obtain ⟨h', tk, m', news', e, F, N, o, r⟩ := h; exact ⟨h', tk, m', news', e, F, N, o, k _ _ r⟩
  | cont => obtain ⟨h', tk, m', news', e, F, N, o, r⟩ := h; exact ⟨h', tk, m', news', e, F, N, o, k _ _ r⟩
/-- a loop over written items, by an invariant -/
theorem items_ind {ws : List (Addr × String)} {keep : List (Addr × Obj)} (xs : List Itm) {m₀ : Str → Option Value} {news : List (Addr × Obj)} (Inv : Nat → (Str → Option Value) → List (Addr × Obj) → Prop)
    (start : Inv 0 m₀ news)
    (step : ∀ i m news a, xs[i]? = some a → Inv i m news → ∀ v h tk, a.Is v h → Fr h₀ env.locals h m → AllObj ws (fun its => News h₀ env.locals h (its ++ news) →
      wpAny (model prog w) A (assign target env v) (fun _ s₂ => wpAny (model prog w) A (execs body env) (UnrPostW h₀ env.locals { s with heap := h, toks := tk } its (fun m' n' => SubL keep n' ∧ Inv (i + 1) m' n') Q) E s₂) E { s with heap := h, toks := tk }))
    (done : ∀ m news, Inv xs.length m news → ∀ h tk, Fr h₀ env.locals h m → News h₀ env.locals h news → Q .next { s with heap := h, toks := tk }) :
    ItemsRest prog w A E h₀ env target body Q s ws keep xs m₀ news := by
  have all : ∀ (ys : List Itm) (i : Nat) m news, ys = xs.drop i → i ≤ xs.length → Inv i m news → ItemsRest prog w A E h₀ env target body Q s ws keep ys m news := by
    intro ys
    induction ys with
    | nil =>
      intro i m news e hi hI
      have : i = xs.length := by have := congrArg List.length e; simp at this; omega
      subst this
      exact ItemsRest.zero fun h tk F N => done m news hI h tk F N
    | cons a r ih =>
      intro i m news e hi hI v h tk ha F
      have hlt : i < xs.length := by have := congrArg List.length e; simp at this; omega
      have hd := List.drop_eq_getElem_cons hlt
      rw [← e] at hd
      injection hd with h1 h2
      refine allObj_mono (fun its q N => ?_) (step i m news a (by rw [h1]; simp [hlt]) hI v h tk ha F)
      refine wpAny_mono (q N) (fun _ s₂ z => wpAny_mono z (fun f s₃ z => unrPostW_mono (fun m' n' r => ⟨r.1, ih (i + 1) m' n' h2 hlt r.2⟩) z) fun _ _ z => z) fun _ _ z => z
  exact all xs 0 m₀ news rfl (Nat.zero_le _) start

theorem iter_rangeTurns {x : Str} {px : Pos} {r : Addr} {a₀ b₀ : Int} {t₀ u₀ v₀ : Tok} {n : Nat} {m₀ : Str → Option Value} {news : List (Addr × Obj)}
    (hh : A.handled = none) (hr : IsRange s.heap r a₀ b₀ 1 t₀ u₀ v₀) (hsmall : Builtin.Range.small a₀ b₀ 1 = true) (hn : Builtin.Range.rangeSize a₀ b₀ 1 = (n : Int)) (F : Fr h₀ env.locals s.heap m₀) (N : News h₀ env.locals s.heap news)
    (rest₀ : ∀ I : Addr, (∀ p ∈ news, p.1 < I) → ItemsRest prog w A E h₀ env (.Name x px) body Q s [(I, "range_iterator")] [] ((List.range n).map fun (i : Nat) => Itm.tok (fun t => Value.int (a₀ + (i : Int)) t)) m₀ news) :
    wpAny (model prog w) A (pyIter (.ref r)) (fun it s₂ => TurnsAt prog w A h₀ env (.Name x px) body Q E it s₂) E s := by
  refine wpAny_pyIter_range hr hsmall ?_
  have W : Walks prog w A s.heap.objs.size [s.heap.objs.size] [s.heap.objs.size] n (fun i v => i < n ∧ ∃ t, v = .int (a₀ + i * 1) t)
      (fun i h => IsRangeIter h s.heap.objs.size (a₀ + (i : Nat) * 1) ((n : Int) - (i : Nat)) 1) := (Walks.range hh _ a₀ 1 n).bound
  refine ktu_core (tk0 := s.toks) (keep := []) (KTurns.ofWalks W fun i v s Q E st q => wpAny_pure q) (by simp) (fun i v h hp => ?_) (fun i h st => ?_) (fun b hb => ?_) (fun b hb => by simpa using hb) (fun b hb => ?_) ?_ (fun p hp hI => ?_) ?_ (F.push _) (fun p hp => ⟨Heap.get?_push_of_some _ (N p hp).1, (N p hp).2⟩) trivial (rest₀ _ fun p hp => Heap.lt_size (N p hp).1)
  · obtain ⟨hi, t, rfl⟩ := hp
    refine ⟨.tok fun t => Value.int (a₀ + (i : Int)) t, by simp [hi], t, ?_⟩
    rw [Int.mul_one]
  · have e1 : ∃ o : Obj, h.get? s.heap.objs.size = some o ∧ o.cls = .type "range_iterator" := ⟨_, st, rfl⟩
    obtain ⟨oi, g, c⟩ := e1
    exact ⟨[(s.heap.objs.size, oi)], ⟨⟨rfl, c⟩, trivial⟩, fun p hp => by rw [List.mem_singleton.mp hp]; exact g⟩
  · have hb' : b = s.heap.objs.size := by simpa using hb
    rw [hb']
    exact ⟨List.mem_cons_self .., next_is_new F⟩
  · exact .inl (by simpa using hb)
  · intro hI
    exact absurd F.ns.lt ((List.mem_singleton.mp hI) ▸ Nat.lt_irrefl _)
  · exact absurd (Heap.lt_size (N p hp).1) ((List.mem_singleton.mp hI) ▸ Nat.lt_irrefl _)
  · show IsRangeIter _ _ _ _ _
    rw [hn]
    simpa using Heap.get?_push_size _ rfl
theorem unr_end {s₁ : Shared} {I : Addr} {oI : Obj} {keep news' all : List (Addr × Obj)} {R : (Str → Option Value) → List (Addr × Obj) → Prop} {h' : Heap} {tk : Nat} {m' : Str → Option Value}
    (F : Fr h₀ L h' m') (N : News h₀ L h' all) (hI : (I, oI) ∈ all) (sub : ∀ p ∈ news', p ∈ all) (off : ∀ p ∈ news', p.1 ≠ I) (hk : SubL keep news') (r : R m' news') :
    UnrEndW h₀ L s₁ [(I, oI)] (fun m' n' => SubL keep n' ∧ R m' n') { s₁ with heap := h', toks := tk } :=
  ⟨h', tk, m', news', rfl, F, fun p hp => by
    rcases List.mem_cons.mp hp with rfl | hp
    · exact N _ hI
    · exact N _ (sub p hp), fun p hp q hq => by rw [List.mem_singleton.mp hq]; exact off p hp, hk, r⟩
theorem fr20 {m M : Str → Option Value} {x1 x2 : Str} (k : ∀ y, y ≠ x1 → y ≠ x2 → m y = M y) : ∃ u1 u2, m = fun y => if y = x1 then u1 else if y = x2 then u2 else M y := by
  refine ⟨m x1, m x2, funext fun y => ?_⟩
  by_cases h1 : y = x1
  · rw [if_pos h1, h1]
  rw [if_neg h1]
  by_cases h2 : y = x2
  · rw [if_pos h2, h2]
  rw [if_neg h2]
  exact k y h1 h2
theorem fr21 {m M : Str → Option Value} {x1 x2 x3 : Str} {v3 : Option Value} (e3 : m x3 = v3) (k : ∀ y, y ≠ x1 → y ≠ x2 → y ≠ x3 → m y = M y) : ∃ u1 u2, m = fun y => if y = x1 then u1 else if y = x2 then u2 else if y = x3 then v3 else M y := by
  refine fr20 fun y h1 h2 => ?_
  by_cases h3 : y = x3
  · rw [if_pos h3, h3, e3]
  rw [if_neg h3]
  exact k y h1 h2 h3
theorem fr22 {m M : Str → Option Value} {x1 x2 x3 x4 : Str} {v3 v4 : Option Value} (e3 : m x3 = v3) (e4 : m x4 = v4) (k : ∀ y, y ≠ x1 → y ≠ x2 → y ≠ x3 → y ≠ x4 → m y = M y) : ∃ u1 u2, m = fun y => if y = x1 then u1 else if y = x2 then u2 else if y = x3 then v3 else if y = x4 then v4 else M y := by
  refine fr21 e3 fun y h1 h2 h3 => ?_
  by_cases h4 : y = x4
  · rw [if_pos h4, h4, e4]
  rw [if_neg h4]
  exact k y h1 h2 h3 h4
theorem fr10 {m M : Str → Option Value} {x1 : Str} (k : ∀ y, y ≠ x1 → m y = M y) : ∃ u1, m = fun y => if y = x1 then u1 else M y := by
  refine ⟨m x1, funext fun y => ?_⟩
  by_cases h1 : y = x1
  · rw [if_pos h1, h1]
  rw [if_neg h1]
  exact k y h1
theorem fr11 {m M : Str → Option Value} {x1 x3 : Str} {v3 : Option Value} (e3 : m x3 = v3) (k : ∀ y, y ≠ x1 → y ≠ x3 → m y = M y) : ∃ u1, m = fun y => if y = x1 then u1 else if y = x3 then v3 else M y := by
  refine fr10 fun y h1 => ?_
  by_cases h3 : y = x3
  · rw [if_pos h3, h3, e3]
  rw [if_neg h3]
  exact k y h1 h3
end
end
section
open PySem PySem.W PyProof.Rows PySem.Calls PySem.Spec
set_option maxRecDepth 100000
theorem topOff4 : True := by
  w_top off
  trivial
theorem ord_M {prog : Program} {w : World} {p : Program} {loose : List Str} {mean : ExcName → Option Value} {mg mb : Str → Option Value}
    (dp un : Nat) (gd : Option (List Code)) (cn : Str) (cs : Scope) (a : Addr) (ccd : Value) (cl : List (Str × Addr)) (outer : List Env) (A₀ : Around) (base h₀ : Heap) (L : Addr) (m : Str → Option Value) (s : Shared) (Q E : Value → Shared → Prop)
    (l : Addr) (vs : List Value) (ns : List Int) (nn : Nat) (news : List (Addr × Obj))
    (B : Below A₀ base outer h₀) (F : Fr h₀ L s.heap m) (X : (hd.heap_39 w.params).In h₀)
    (N : News h₀ L s.heap news) (hm : (l, listOf vs.toArray nn) ∈ news)
    (T : Top p loose mean mg mb h₀) (hk : cs.kind = .function)
    (hi : IntsAre vs ns) (hns : ns.length ≤ 6)
    (hd : dp + 4 < recursionLimit) (hu : un + 20 < cLine)
    (ret : ∀ (D : Addr) (k : Nat) (h' : Heap) (tk' : Nat) (out : List Value) (ql : List (Int × Int)) (tl : List (Addr × Obj)), Fr h₀ L h' m → News h₀ L h' ((D, listOf out.toArray k) :: (tl ++ news)) →
      (∀ q ∈ news, ∀ p ∈ tl, q.1 < p.1) → (∀ q ∈ tl ++ news, q.1 < D) → DatAll tl out (ql.map pairD) → ql.Perm (prsTo ns ns.length) → ql.Pairwise (fun p q => lexlt p q = true) → Q (.ref D) { s with heap := h', toks := tk' }) :
    wpAny (model prog w) (ktrTop dp un gd cn cs L a ccd cl outer) (call (.ref 100) [.ref l]) Q E s := by
  refine ord_K dp un gd cn cs a ccd cl outer A₀ base h₀ L m s Q E l vs ns nn news B F X ?_ T hk hi hns hd hu ?_
  · intro q hq
    rcases List.mem_cons.mp hq with rfl | hq
    · exact N _ hm
    · exact N _ hq
  · intro D k h' tk' out ql tl F' N' o1 o2 hD hP hS
    refine ret D k h' tk' out ql tl F' (fun q hq => N' q ?_) (fun q hq => o1 q (.tail _ hq)) (fun q hq => o2 q ?_) hD hP hS
    · rcases List.mem_cons.mp hq with rfl | hq
      · exact .head _
      refine .tail _ ?_
      rcases List.mem_append.mp hq with hq | hq
      · exact List.mem_append.mpr (.inl hq)
      · exact List.mem_append.mpr (.inr (.tail _ hq))
    · rcases List.mem_append.mp hq with hq | hq
      · exact List.mem_append.mpr (.inl hq)
      · exact List.mem_append.mpr (.inr (.tail _ hq))
noncomputable def totTo (ql : List (Int × Int)) : Nat → Int
  | 0 => 0
  | i+1 => totTo ql i + 2 ^ ((plAt ql (ql.length - 1)).1 - (plAt ql i).1).toNat
/-- what is_complete tells of the ordered pairs -/
noncomputable def compB (ql : List (Int × Int)) : Bool := if ql.length < 2 then (ql.length == 1 && (plAt ql 0).1 == 1) else totTo ql ql.length == 2 ^ (plAt ql (ql.length - 1)).1.toNat
theorem lens_le {ql : List (Int × Int)} (hS : ql.Pairwise (fun p q => lexlt p q = true)) {i j : Nat} (hij : i ≤ j) (hj : j < ql.length) : (plAt ql i).1 ≤ (plAt ql j).1 := by
  rcases Nat.eq_or_lt_of_le hij with e | h
  · rw [e]; exact Int.le_refl _
  · rw [plAt_eq hj, plAt_eq (Nat.lt_trans h hj)]
    have := List.pairwise_iff_getElem.mp hS i j (Nat.lt_trans h hj) hj h
    unfold lexlt at this
    simp only [Bool.or_eq_true, Bool.and_eq_true, decide_eq_true_eq] at this
    omega
theorem prsTo_len (ns : List Int) (hb : ∀ v ∈ ns, 0 ≤ v ∧ v < 5) : ∀ (i : Nat), i ≤ ns.length → ∀ p ∈ prsTo ns i, 1 ≤ p.1 ∧ p.1 ≤ 4 ∧ 0 ≤ p.2 ∧ p.2 < i
  | 0, _, _, h => nomatch h
  | i+1, hi, p, h => by
    rw [prsTo] at h
    split at h
    · rename_i hpos
      rcases List.mem_append.mp h with h | h
      · have := prsTo_len ns hb i (by omega) p h; omega
      · have h1 : i < ns.length := by omega
        have e : ns.getD i 0 = ns[i] := by simp [h1]
        rw [e] at h hpos
        have := hb _ (List.getElem_mem h1)
        rw [List.mem_singleton.mp h]
        refine ⟨?_, ?_, ?_, ?_⟩ <;> (try dsimp only) <;> omega
    · have := prsTo_len ns hb i (by omega) p h; omega
section
set_option maxHeartbeats 2000000 in
theorem full_K {prog : Program} {w : World} {p : Program} {loose : List Str} {mean : ExcName → Option Value} {mg mb : Str → Option Value}
    (dp un : Nat) (gd : Option (List Code)) (cn : Str) (cs : Scope) (a : Addr) (ccd : Value) (cl : List (Str × Addr)) (outer : List Env) (A₀ : Around) (base h₀ : Heap) (L : Addr) (m : Str → Option Value) (s : Shared) (Q E : Value → Shared → Prop)
    (l : Addr) (vs : List Value) (ns : List Int) (nn : Nat) (rest : List (Addr × Obj))
    (B : Below A₀ base outer h₀) (F : Fr h₀ L s.heap m) (X : (hd.heap_39 w.params).In h₀)
    (N : News h₀ L s.heap ((l, listOf vs.toArray nn) :: rest))
    (T : Top p loose mean mg mb h₀) (hk : cs.kind = .function)
    (hi : IntsAre vs ns) (hns : ns.length ≤ 6) (hb : ∀ v ∈ ns, 0 ≤ v ∧ v < 5)
    (hd : dp + 6 < recursionLimit) (hu : un + 30 < cLine)
    (ret : ∀ (ql : List (Int × Int)) (h' : Heap) (tk' : Nat), ql.Perm (prsTo ns ns.length) → ql.Pairwise (fun p q => lexlt p q = true) → Fr h₀ L h' m → News h₀ L h' ((l, listOf vs.toArray nn) :: rest) → Q (.bool (compB ql)) { s with heap := h', toks := tk' }) :
    wpAny (model prog w) (ktrTop dp un gd cn cs L a ccd cl outer) (call (.ref 114) [.ref l]) Q E s := by
  refine wpAny_call ?_
  k_dflt cell_enter
  k_steps
  refine ⟨?_⟩
  k_dflt (refine' ord_M _ _ _ _ _ _ _ _ _ _ _ _ _ _ _ _ _ _ _ _ _ _ ?k1 ?k2 ?k3 ?k4 ?km ?k5 ?k6 ?k7 ?kl ?k8 ?k9 ?_)
  (case k1 => k_asm)
  (case k2 => k_asm)
  (case k3 => k_asm)
  (case k4 => k_asm)
  (case km => k_mem)
  (case k5 => k_asm)
  (case k6 => first | exact rfl | assumption)
  (case k7 => assumption)
  (case kl => assumption)
  (case k8 => ktr_room)
  (case k9 => ktr_units)
  intro D k h1 tk1 out ql tl F0' N0' o1 o2 hD hP hS
  k_steps
  rename_i h' F' N'
  have hlen : out.length = ql.length := by simpa using hD.length
  have hb2 : ∀ p ∈ ql, 1 ≤ p.1 ∧ p.1 ≤ 4 ∧ 0 ≤ p.2 ∧ p.2 < ns.length := fun p hp => prsTo_len ns hb _ (Nat.le_refl _) p (hP.mem_iff.mp hp)
  have hl6 : ql.length ≤ 6 := by rw [hP.length_eq]; exact Nat.le_trans (prsTo_length ns _) hns
  refine kd_len N' (.head _) hD (by rw [List.length_map]; omega) ?_
  rw [List.length_map]
  by_cases hl2 : ql.length < 2
  · have hl3 : (ql.length : Int) < 2 := by omega
    cases ql with
    | nil =>
      obtain rfl : out = [] := List.length_eq_zero_iff.mp hlen
      simp only [List.length_nil] at *
      k_steps
      rename_i kF kN _ _
      exact ret _ _ _ hP hS kF fun p hp => kN p (.tail _ (List.mem_append.mpr (.inr hp)))
    | cons p r =>
      obtain rfl : r = [] := by cases r with | nil => rfl | cons _ _ => simp at hl2; omega
      simp only [List.length_cons, List.length_nil] at *
      obtain ⟨v, ws, rfl, hv, hD1⟩ := dats_cons hD
      obtain rfl := dats_nil hD1
      obtain ⟨a1, t1, t2, n1, rfl, hm1⟩ := datIn_pair hv
      clear hD hD1 hlen
      k_steps
      rename_i kF kN _ _
      exact ret _ _ _ hP hS kF fun p hp => kN p (.tail _ (List.mem_append.mpr (.inr hp)))
  · have hl3 : 2 ≤ (ql.length : Int) := by omega
    k_steps
    have hl4 : ql.length - 1 < ql.length := by omega
    have hv := datAll_getD hD hl4
    obtain ⟨a1, t1, t2, n1, hv, hm1⟩ := datIn_pair hv
    have hx : out.toArray[(-1 + (out.toArray.size : Int)).toNat]? = some (Value.ref a1) := by
      rw [← hv, List.size_toArray, hlen]
      have e : (-1 + (ql.length : Int)).toNat = ql.length - 1 := by omega
      rw [e, List.getElem?_toArray, List.getD_eq_getElem?_getD, List.getElem?_eq_getElem (by omega)]
      rfl
    have hlD := N'.isList (.head _)
    refine tail_any hlD.typeIs slot_list_getitem.lookup (wpAny_getItem_list_neg hlD (by decide) (by rw [List.size_toArray]; omega) (by decide) hx ?_) (by with_unfolding_all rfl)
    k_steps
    rename_i ha F9 N9
    obtain ⟨bm, t0, F9⟩ : ∃ (bm : Str → Option Value) (t0 : Tok), Fr _ _ ha (fun y => if y = Str.ofString "total" then some (.int 0 t0) else if y = Str.ofString "longest" then some (.int (plAt ql (ql.length - 1)).fst t1) else if y = Str.ofString "found" then some (.ref D) else bm y) := ⟨_, _, F9⟩
    refine For_turns F9 ?_
    walk1
    refine iter_listTurns (by rfl) F9 N9 (.head _) rfl rfl fun I hI => ?_
    refine items_ind _ (fun i m news => news = (D, listOf out.toArray k) :: (tl ++ (l, listOf vs.toArray nn) :: rest) ∧ (∃ t, m (Str.ofString "total") = some (.int (totTo ql i) t)) ∧ ∀ y, y ≠ Str.ofString "length" → y ≠ Str.ofString "symbol" → y ≠ Str.ofString "total" → m y = if y = Str.ofString "longest" then some (.int (plAt ql (ql.length - 1)).fst t1) else if y = Str.ofString "found" then some (.ref D) else bm y) ⟨rfl, ⟨t0, rfl⟩, ?sm⟩ ?_ ?_
    case sm =>
      intro y h1 h2 h3
      rw [if_neg h3]
    · rintro i m news a hx ⟨rfl, ⟨t, hT⟩, hm⟩ v h tk hIs F1
      obtain ⟨u1, u2, rfl⟩ := fr21 hT hm
      clear hT hm
      rw [List.getElem?_map] at hx
      obtain ⟨v', hv', rfl⟩ := Option.map_eq_some_iff.mp hx
      obtain rfl : v = v' := hIs
      refine AllObj.cons fun oI hcI => AllObj.nil fun N1 => ?_
      replace N1 : News _ _ h ((I, oI) :: (D, listOf out.toArray k) :: (tl ++ (l, listOf vs.toArray nn) :: rest)) := N1
      have hil : i < ql.length := by
        rw [← hlen]
        exact (List.getElem?_eq_some_iff.mp hv').1
      obtain ⟨a2, t3, t4, n2, e2, hm2⟩ := datIn_pair (datAll_getD hD hil)
      have e3 : out.getD i Value.none = v := by rw [List.getD_eq_getElem?_getD, hv']; rfl
      obtain rfl : v = .ref a2 := e3.symm.trans e2
      have hq := hb2 (plAt ql i) (by rw [plAt_eq hil]; exact List.getElem_mem hil)
      have hq2 := hb2 (plAt ql (ql.length - 1)) (by rw [plAt_eq hl4]; exact List.getElem_mem hl4)
      have hle : (plAt ql i).1 ≤ (plAt ql (ql.length - 1)).1 := lens_le hS (by omega) hl4
      obtain ⟨hq0, hq1, -, -⟩ := hq
      obtain ⟨hq20, hq21, -, -⟩ := hq2
      k_steps
      rename_i F9 N9
      have e : totTo ql i + 1 * 2 ^ ((plAt ql (ql.length - 1)).1 - (plAt ql i).1).toNat = totTo ql (i + 1) := by rw [totTo, Int.one_mul]
      refine unr_end F9 N9 (.head _) (fun p hp => .tail _ hp) (fun p hp => Nat.ne_of_lt (hI p hp)) ⟨.head _, trivial⟩ ⟨rfl, ⟨_, (if_pos rfl).trans (congrArg (fun z => some (Value.int z _)) e)⟩, fun y h1 h2 h3 => ?_⟩
      · simp only [if_neg h1, if_neg h2, if_neg h3]
    · rintro m news ⟨rfl, ⟨t, hT⟩, hm⟩ h tk F1 N1
      obtain ⟨u1, u2, rfl⟩ := fr21 hT hm
      clear hT hm
      have hq2 := hb2 (plAt ql (ql.length - 1)) (by rw [plAt_eq hl4]; exact List.getElem_mem hl4)
      obtain ⟨hq20, hq21, -, -⟩ := hq2
      k_steps
      rename_i kF kN _ _
      have e : (totTo ql (out.map Itm.val).length == 1 * 2 ^ (plAt ql (ql.length - 1)).fst.toNat) = compB ql := by
        rw [compB, if_neg hl2, List.length_map, hlen, Int.one_mul]
      rw [e]
      exact ret _ _ _ hP hS kF fun p hp => kN p (.tail _ (List.mem_append.mpr (.inr hp)))
end
end
section
open PySem PySem.W PyProof.Rows PySem.Calls PySem.Spec
set_option maxRecDepth 100000
theorem topOff5 : True := by
  w_top off
  trivial
/-- the code before the i-th pair is reached, the length before it, and the i-th pair's own code -/
noncomputable def bf (ql : List (Int × Int)) : Nat → Int
  | 0 => 0
  | i+1 => (plAt ql i).1
noncomputable def cd (ql : List (Int × Int)) : Nat → Int
  | 0 => 0
  | i+1 => cd ql i * 2 ^ ((plAt ql i).1 - bf ql i).toNat + 1
noncomputable def cdOf (ql : List (Int × Int)) (i : Nat) : Int := cd ql i * 2 ^ ((plAt ql i).1 - bf ql i).toNat
theorem toNat_add3 {a b c : Int} (h1 : a ≤ b) (h2 : b ≤ c) : (b - a).toNat + (c - b).toNat = (c - a).toNat := by
  rw [← Int.toNat_add (Int.sub_nonneg_of_le h1) (Int.sub_nonneg_of_le h2), show b - a + (c - b) = c - a by omega]
theorem four {k : Nat} (h1 : 1 ≤ k) (h4 : k ≤ 4) : k = 1 ∨ k = 2 ∨ k = 3 ∨ k = 4 := by
  rcases Nat.lt_or_eq_of_le h4 with h | rfl
  · rcases Nat.lt_or_eq_of_le (Nat.le_of_lt_succ h) with h | rfl
    · rcases Nat.lt_or_eq_of_le (Nat.le_of_lt_succ h) with h | rfl
      · exact .inl (Nat.le_antisymm (Nat.le_of_lt_succ h) h1)
      · exact .inr (.inl rfl)
    · exact .inr (.inr (.inl rfl))
  · exact .inr (.inr (.inr rfl))
theorem pow_le4 : ∀ n : Nat, n ≤ 4 → (2:Int) ^ n ≤ 2 ^ 4
  | 0, _ => by decide
  | 1, _ => by decide
  | 2, _ => by decide
  | 3, _ => by decide
  | 4, _ => by decide
  | n+5, h => by omega
theorem cd_bound {ql : List (Int × Int)} (hb : ∀ p ∈ ql, 1 ≤ p.1 ∧ p.1 ≤ 4) (hS : ql.Pairwise (fun p q => lexlt p q = true)) : ∀ (i : Nat), i ≤ ql.length → 0 ≤ cd ql i ∧ cd ql i ≤ i * 2 ^ (bf ql i).toNat
  | 0, _ => ⟨Int.le_refl _, by rw [cd]; simp⟩
  | i+1, hi => by
    obtain ⟨h0, h1⟩ := cd_bound hb hS i (by omega)
    have hq := hb (plAt ql i) (by rw [plAt_eq (by omega)]; exact List.getElem_mem _)
    have hle : 0 ≤ bf ql i ∧ bf ql i ≤ (plAt ql i).1 := by
      cases i with
      | zero => exact ⟨Int.le_refl _, by show (0:Int) ≤ _; omega⟩
      | succ j =>
        have := hb (plAt ql j) (by rw [plAt_eq (by omega)]; exact List.getElem_mem _)
        exact ⟨by show 0 ≤ (plAt ql j).1; omega, lens_le hS (Nat.le_succ j) (by omega)⟩
    rw [cd, bf]
    have hp : (0:Int) < 2 ^ ((plAt ql i).1 - bf ql i).toNat := Int.pow_pos (by decide)
    have hp2 : (0:Int) < 2 ^ ((plAt ql i).1).toNat := Int.pow_pos (by decide)
    have e : (2:Int) ^ (bf ql i).toNat * 2 ^ ((plAt ql i).1 - bf ql i).toNat = 2 ^ ((plAt ql i).1).toNat := by
      rw [← Int.pow_add]
      congr 1
      have z := toNat_add3 hle.1 hle.2
      rwa [Int.sub_zero, Int.sub_zero] at z
    have h2 : 0 ≤ cd ql i * 2 ^ ((plAt ql i).1 - bf ql i).toNat := Int.mul_nonneg h0 (Int.le_of_lt hp)
    have h3 : cd ql i * 2 ^ ((plAt ql i).1 - bf ql i).toNat ≤ i * 2 ^ ((plAt ql i).1).toNat := by
      rw [← e, ← Int.mul_assoc]
      exact Int.mul_le_mul_of_nonneg_right h1 (Int.le_of_lt hp)
    refine ⟨by omega, ?_⟩
    have h4 : ((i + 1 : Nat) : Int) * 2 ^ ((plAt ql i).1).toNat = i * 2 ^ ((plAt ql i).1).toNat + 2 ^ ((plAt ql i).1).toNat := by
      rw [Int.natCast_add, Int.add_mul, Int.natCast_one, Int.one_mul]
    rw [h4]
    omega
theorem take_plAt {ql : List (Int × Int)} {i : Nat} (hil : i < ql.length) : ql.take (i + 1) = ql.take i ++ [plAt ql i] := by
  rw [List.take_add_one, List.getElem?_eq_getElem hil, plAt_eq hil]
  rfl
theorem prsTo_snds (ns : List Int) : ∀ (i : Nat), ((prsTo ns i).map (·.2)).Nodup
  | 0 => .nil
  | i+1 => by
    rw [prsTo]
    split
    · rw [List.map_append]
      refine List.nodup_append.mpr ⟨prsTo_snds ns i, List.nodup_cons.mpr ⟨List.not_mem_nil, .nil⟩, fun p hp q hq e => ?_⟩
      obtain ⟨r, hr, rfl⟩ := List.mem_map.mp hp
      have h2 : q = (i : Int) := by simpa using hq
      have := prsTo_mem ns i r hr
      omega
    · exact prsTo_snds ns i
theorem snds_nodup {ql : List (Int × Int)} {ns : List Int} {n : Nat} (hP : ql.Perm (prsTo ns n)) : (ql.map (·.2)).Nodup := (hP.map _).nodup_iff.mpr (prsTo_snds ns n)
theorem snd_fresh {ql : List (Int × Int)} (nd : (ql.map (·.2)).Nodup) {i : Nat} (hi : i < ql.length) (h : (plAt ql i).2 ∈ (ql.take i).map (·.2)) : False := by
  obtain ⟨r, hr, e⟩ := List.mem_map.mp h
  obtain ⟨j, hj, rfl⟩ := List.mem_iff_getElem.mp hr
  have hj' : j < i := by rw [List.length_take] at hj; omega
  have hjl : j < ql.length := by omega
  have := List.pairwise_iff_getElem.mp nd j i (by rw [List.length_map]; exact hjl) (by rw [List.length_map]; exact hi) hj'
  rw [List.getElem_map, List.getElem_map] at this
  rw [List.getElem_take, plAt_eq hi] at e
  exact this e
section
set_option maxHeartbeats 2000000 in
theorem codes_K {prog : Program} {w : World} {p : Program} {loose : List Str} {mean : ExcName → Option Value} {mg mb : Str → Option Value}
    (dp un : Nat) (gd : Option (List Code)) (cn : Str) (cs : Scope) (a : Addr) (ccd : Value) (cl : List (Str × Addr)) (outer : List Env) (A₀ : Around) (base h₀ : Heap) (L : Addr) (m : Str → Option Value) (s : Shared) (Q E : Value → Shared → Prop)
    (l : Addr) (vs : List Value) (ns : List Int) (nn : Nat) (rest : List (Addr × Obj))
    (B : Below A₀ base outer h₀) (F : Fr h₀ L s.heap m) (X : (hd.heap_39 w.params).In h₀)
    (N : News h₀ L s.heap ((l, listOf vs.toArray nn) :: rest))
    (T : Top p loose mean mg mb h₀) (hk : cs.kind = .function)
    (hi : IntsAre vs ns) (hns : ns.length ≤ 6) (hb : ∀ v ∈ ns, 0 ≤ v ∧ v < 5)
    (hd : dp + 6 < recursionLimit) (hu : un + 30 < cLine)
    (ret : ∀ (d : Addr) (od : Obj) (kvs : List (Int × Value)) (ql : List (Int × Int)) (TT : List (Addr × Obj)) (h' : Heap) (tk' : Nat), Fr h₀ L h' m → News h₀ L h' ((d, od) :: (TT ++ (l, listOf vs.toArray nn) :: rest)) → od.IsDictOf (intKind prog w) kvs →
      kvs.map (·.1) = ql.map (·.2) → DatAll TT (kvs.map (·.2)) ((List.range ql.length).map fun j => pairD (cdOf ql j, (plAt ql j).1)) → (∀ q ∈ (l, listOf vs.toArray nn) :: rest, q.1 < d) → (∀ p ∈ TT, d < p.1) → (d == sysModules) = false →
      ql.Perm (prsTo ns ns.length) → ql.Pairwise (fun p q => lexlt p q = true) → Q (.ref d) { s with heap := h', toks := tk' }) :
    wpAny (model prog w) (ktrTop dp un gd cn cs L a ccd cl outer) (call (.ref 107) [.ref l]) Q E s := by
  refine wpAny_call ?_
  k_dflt cell_enter
  k_steps
  rename_i d h1 od lo hs fs hI0 fi l1 h2 h3 h4 F9 N9
  clear hs fs fi
  refine For_turns F9 ?_
  k_steps
  refine ⟨?_⟩
  k_dflt (refine' ord_M _ _ _ _ _ _ _ _ _ _ _ _ _ _ _ _ _ _ _ _ _ _ ?k1 ?k2 ?k3 ?k4 ?km ?k5 ?k6 ?k7 ?kl ?k8 ?k9 ?_)
  (case k1 => k_asm)
  (case k2 => k_asm)
  (case k3 => k_asm)
  (case k4 => k_asm)
  (case km => k_mem)
  (case k5 => k_asm)
  (case k6 => first | exact rfl | assumption)
  (case k7 => assumption)
  (case kl => assumption)
  (case k8 => ktr_room)
  (case k9 => ktr_units)
  intro D k h5 tk5 out ql tl F5 N5 o1 o2 hD hP hS
  k_steps
  obtain ⟨bm, t8, t9, F8⟩ : ∃ (bm : Str → Option Value) (t8 t9 : Tok), Fr _ _ h5 (fun y => if y = Str.ofString "before" then some (.int 0 t8) else if y = Str.ofString "code" then some (.int 0 t9) else if y = Str.ofString "codes" then some (.ref d) else bm y) := ⟨_, _, _, F5⟩
  clear F5
  have hlen : out.length = ql.length := by simpa using hD.length
  have hb2 : ∀ p ∈ ql, 1 ≤ p.1 ∧ p.1 ≤ 4 ∧ 0 ≤ p.2 ∧ p.2 < ns.length := fun p hp => prsTo_len ns hb _ (Nat.le_refl _) p (hP.mem_iff.mp hp)
  have hl6 : ql.length ≤ 6 := by rw [hP.length_eq]; exact Nat.le_trans (prsTo_length ns _) hns
  have hbl : ∀ q ∈ (l, listOf vs.toArray nn) :: rest, q.1 < d := fun q hq => (List.mem_cons.mp hq).elim (fun e => e ▸ l1.1) (fun hq => allLt_mem l1.2 q hq)
  have N6 : News _ _ h5 ((d, od) :: ([] ++ ((D, listOf out.toArray k) :: (tl ++ (l, listOf vs.toArray nn) :: rest)))) := fun p hp => N5 p (by
    rcases List.mem_cons.mp hp with rfl | hp
    · exact .tail _ (List.mem_append.mpr (.inr (.head _)))
    rcases List.mem_cons.mp hp with rfl | hp
    · exact .head _
    rcases List.mem_append.mp hp with hp | hp
    · exact .tail _ (List.mem_append.mpr (.inl hp))
    · exact .tail _ (List.mem_append.mpr (.inr (.tail _ hp))))
  refine iter_listTurns (by rfl) F8 N6 (.tail _ (.head _)) rfl rfl fun I hI => ?_
  refine items_ind _ (fun i m news => ∃ odi kvs TT, news = (d, odi) :: (TT ++ ((D, listOf out.toArray k) :: (tl ++ (l, listOf vs.toArray nn) :: rest))) ∧ odi.IsDictOf (intKind prog w) kvs ∧ kvs.map (·.1) = (ql.take i).map (·.2) ∧ DatAll TT (kvs.map (·.2)) ((List.range i).map fun j => pairD (cdOf ql j, (plAt ql j).1)) ∧ (∀ p ∈ TT, d < p.1) ∧ (∀ p ∈ news, p.1 ≠ I) ∧ (∃ t, m (Str.ofString "code") = some (.int (cd ql i) t)) ∧ (∃ t, m (Str.ofString "before") = some (.int (bf ql i) t)) ∧ ∀ y, y ≠ Str.ofString "length" → y ≠ Str.ofString "symbol" → y ≠ Str.ofString "code" → y ≠ Str.ofString "before" → m y = if y = Str.ofString "codes" then some (.ref d) else bm y)
    ?start ?step ?done
  case start =>
    refine ⟨od, [], [], rfl, hI0, rfl, .nil, (fun _ h => nomatch h), (fun p hp => Nat.ne_of_lt (hI p hp)), ⟨_, rfl⟩, ⟨_, rfl⟩, fun y h1 h2 h3 h4 => ?_⟩
    simp only [if_neg h3, if_neg h4]
  case step =>
    rintro i m news a hx ⟨odi, kvs, TT, rfl, hod, hk1, hk2, hT, hI2, ⟨tc, hc⟩, ⟨tb, hbf⟩, hm⟩ v h tk hIs F1
    obtain ⟨u1, u2, rfl⟩ := fr22 hc hbf hm
    clear hc hbf hm
    rw [List.getElem?_map] at hx
    obtain ⟨v', hv', rfl⟩ := Option.map_eq_some_iff.mp hx
    obtain rfl : v = v' := hIs
    refine AllObj.cons fun oI hcI => AllObj.nil fun N1 => ?_
    replace N1 : News _ _ h ((I, oI) :: (d, odi) :: (TT ++ ((D, listOf out.toArray k) :: (tl ++ (l, listOf vs.toArray nn) :: rest)))) := N1
    have hil : i < ql.length := by
      rw [← hlen]
      exact (List.getElem?_eq_some_iff.mp hv').1
    obtain ⟨a2, t3, t4, n2, e2, hm2⟩ := datIn_pair (datAll_getD hD hil)
    have e3 : out.getD i Value.none = v := by rw [List.getD_eq_getElem?_getD, hv']; rfl
    obtain rfl : v = .ref a2 := e3.symm.trans e2
    have hq := hb2 (plAt ql i) (by rw [plAt_eq hil]; exact List.getElem_mem hil)
    have hle : bf ql i ≤ (plAt ql i).1 := by
      cases i with
      | zero => show (0:Int) ≤ _; omega
      | succ j => exact lens_le hS (Nat.le_succ j) hil
    have hbf0 : 0 ≤ bf ql i := by
      cases i with
      | zero => exact Int.le_refl _
      | succ j => exact Int.le_trans (by decide) (hb2 (plAt ql j) (by rw [plAt_eq (by omega)]; exact List.getElem_mem _)).1
    obtain ⟨hq0, hq1, hq2, hq3⟩ := hq
    obtain ⟨hc0, hc1⟩ := cd_bound (fun p hp => ⟨(hb2 p hp).1, (hb2 p hp).2.1⟩) hS i (Nat.le_of_lt hil)
    replace hc1 : cd ql i ≤ 96 := by
      refine Int.le_trans hc1 ?_
      have h2 : (2:Int) ^ (bf ql i).toNat ≤ 2 ^ 4 := pow_le4 _ (by omega)
      have h3 : (i : Int) * 2 ^ (bf ql i).toNat ≤ 6 * 2 ^ 4 := Int.mul_le_mul (by omega) h2 (Int.le_of_lt (Int.pow_pos (by decide))) (by decide)
      exact h3
    k_steps
    rename_i a9 h9 F9 N9 l9
    obtain ⟨t9', n9', o9, ho9, N9'⟩ : ∃ (t : Tok) (n : Nat) (o9 : Obj), o9 = ({ cls := .type "tuple", data := .seq [Value.int (cdOf ql i) t, Value.int (plAt ql i).1 t3].toArray n } : Obj) ∧ News _ _ h9 ((a9, o9) :: (I, oI) :: (d, odi) :: (TT ++ ((D, listOf out.toArray k) :: (tl ++ (l, listOf vs.toArray nn) :: rest)))) := ⟨_, _, _, rfl, N9⟩
    clear N9
    have hkl : kvs.length = i := by
      have := congrArg List.length hk1
      rw [List.length_map, List.length_map, List.length_take, Nat.min_eq_left (Nat.le_of_lt hil)] at this
      exact this
    have hnew : stored kvs (plAt ql i).2 (Value.ref a9) = kvs ++ [((plAt ql i).2, Value.ref a9)] := by
      rw [stored, if_neg]
      intro q
      obtain ⟨kv, hkv, e⟩ := List.any_eq_true.mp q
      have e : kv.1 = (plAt ql i).2 := by simpa using e
      have hmem : (plAt ql i).2 ∈ (ql.take i).map (·.2) := by rw [← hk1, ← e]; exact List.mem_map_of_mem hkv
      exact snd_fresh (snds_nodup hP) hil hmem
    refine kda_set (knd := intKind prog w) F9 N9' (UpdF.tail (Nat.ne_of_gt l9.2.1) (UpdF.tail (Nat.ne_of_gt (hI (d, od) (.head _))) (UpdF.head ?hoff))) hod (intKind_is _ _ _ _) (by rw [hkl, sizeLine_eq]; omega) fun h10 od' F10 N10 hod' => ?_
    case hoff =>
      intro p hp
      rcases List.mem_append.mp hp with hp | hp
      · exact Nat.ne_of_gt (hT p hp)
      rcases List.mem_cons.mp hp with rfl | hp
      · exact Nat.ne_of_gt (o2 _ (List.mem_append.mpr (.inr (.head _))))
      rcases List.mem_append.mp hp with hp | hp
      · exact Nat.ne_of_gt (o1 _ (.head _) p hp)
      · exact Nat.ne_of_lt (hbl p hp)
    rw [hnew] at hod'
    k_steps
    rename_i F11 N11
    refine unr_end (news' := (d, od') :: (((a9, o9) :: TT) ++ ((D, listOf out.toArray k) :: (tl ++ (l, listOf vs.toArray nn) :: rest)))) F11 N11 (.tail _ (.head _)) (fun p hp => ?_) (fun p hp => ?_) ⟨?_, trivial⟩ ⟨od', _, (a9, o9) :: TT, rfl, hod', ?_, ?_, ?_, ?_, ⟨_, rfl⟩, ⟨_, rfl⟩, fun y h1 h2 h3 h4 => ?_⟩
    · rcases List.mem_cons.mp hp with rfl | hp
      · exact .tail _ (.tail _ (.head _))
      rcases List.mem_cons.mp hp with rfl | hp
      · exact .head _
      · exact .tail _ (.tail _ (.tail _ hp))
    · rcases List.mem_cons.mp hp with rfl | hp
      · exact hI2 (d, odi) (.head _)
      rcases List.mem_cons.mp hp with rfl | hp
      · exact Nat.ne_of_gt l9.1
      · exact hI2 p (.tail _ hp)
    · exact .tail _ (List.mem_append.mpr (.inr (.head _)))
    · rw [List.map_append, hk1, take_plAt hil, List.map_append]
      rfl
    · subst ho9
      rw [List.map_append, List.range_succ, List.map_append]
      exact DatAll.append (DatAll.mono (fun p hp => .tail _ hp) hk2) (DatAll.one (DatIn.tuple (.head _) (.cons (.int _ _) (.cons (.int _ _) .nil))))
    · intro p hp
      rcases List.mem_cons.mp hp with rfl | hp
      · exact l9.2.1
      · exact hT p hp
    · intro p hp
      rcases List.mem_cons.mp hp with rfl | hp
      · exact hI2 (d, odi) (.head _)
      rcases List.mem_cons.mp hp with rfl | hp
      · exact Nat.ne_of_gt l9.1
      · exact hI2 p (.tail _ hp)
    · simp only [if_neg h1, if_neg h2, if_neg h3, if_neg h4]
  case done =>
    rintro m news ⟨odi, kvs, TT, rfl, hod, hk1, hk2, hT, hI2, ⟨tc, hc⟩, ⟨tb, hbf⟩, hm⟩ h tk F1 N1
    obtain ⟨u1, u2, rfl⟩ := fr22 hc hbf hm
    clear hc hbf hm
    rw [List.length_map, hlen] at hk1 hk2
    rw [List.take_length] at hk1
    k_steps
    rename_i kF kN _ _
    refine ret d odi kvs ql TT _ _ kF (fun p hp => kN p ?_) hod hk1 hk2 hbl hT lo hP hS
    rcases List.mem_cons.mp hp with rfl | hp
    · exact .head _
    rcases List.mem_append.mp hp with hp | hp
    · exact .tail _ (List.mem_append.mpr (.inl hp))
    · exact .tail _ (List.mem_append.mpr (.inr (.tail _ (List.mem_append.mpr (.inr hp)))))
end
end
section
open PySem PySem.W PyProof.Rows PySem.Calls PySem.Spec
set_option maxRecDepth 100000
theorem cdOf_ge {ql : List (Int × Int)} (hb : ∀ p ∈ ql, 1 ≤ p.1 ∧ p.1 ≤ 4) (hS : ql.Pairwise (fun p q => lexlt p q = true)) (i : Nat) (hi : i ≤ ql.length) : cd ql i ≤ cdOf ql i := by
  have h0 := (cd_bound hb hS i hi).1
  have hp : (0:Int) < 2 ^ ((plAt ql i).1 - bf ql i).toNat := Int.pow_pos (by decide)
  have : cd ql i * 1 ≤ cd ql i * 2 ^ ((plAt ql i).1 - bf ql i).toNat := Int.mul_le_mul_of_nonneg_left (by omega) h0
  rw [Int.mul_one] at this
  exact this
theorem cdOf_inc {ql : List (Int × Int)} (hb : ∀ p ∈ ql, 1 ≤ p.1 ∧ p.1 ≤ 4) (hS : ql.Pairwise (fun p q => lexlt p q = true)) {i : Nat} : ∀ {j : Nat}, i < j → j < ql.length → cdOf ql i < cdOf ql j
  | 0, h, _ => absurd h (Nat.not_lt_zero _)
  | j+1, h, hj => by
    have h1 := cdOf_ge hb hS (j+1) (Nat.le_of_lt hj)
    have e : cd ql (j+1) = cdOf ql j + 1 := rfl
    rcases Nat.lt_or_eq_of_le (Nat.le_of_lt_succ h) with q | q
    · have := cdOf_inc hb hS q (Nat.lt_of_succ_lt hj)
      omega
    · subst q; omega
noncomputable abbrev keyK (ql : List (Int × Int)) (j : Nat) : List Int := [cdOf ql j, (plAt ql j).1]
noncomputable abbrev tup2 (x : Int) (t1 : Tok) (y : Int) (t2 : Tok) (n : Nat) : Obj := { cls := .type "tuple", data := .seq [Value.int x t1, Value.int y t2].toArray n }
/-- the table of the first i codes, its keys written in TT -/
noncomputable def KTab (prog : Program) (w : World) (TT : List (Addr × Obj)) (so : Obj) (ql : List (Int × Int)) (i : Nat) : Prop :=
  so.ExactDict ∧ ∃ (es : Array DictEntry) (ep : Nat) (xs : List (List Int × Addr × Value)), so.data = .dict es ep ∧ es.toList = xs.map (entryOfKey (tupleKind (intKind prog w))) ∧ xs.length = i ∧
    ∀ j, j < i → ∃ a t t1 t2 n, xs[j]? = some (keyK ql j, a, Value.int (plAt ql j).2 t) ∧ (a, tup2 (cdOf ql j) t1 (plAt ql j).1 t2 n) ∈ TT
section
variable {prog : Program} {w : World} {A : Around} {E : Value → Shared → Prop} {s : Shared} {h₀ h : Heap} {L : Addr} {m : Str → Option Value} {news TT : List (Addr × Obj)} {ql : List (Int × Int)} {so : Obj} {sd : Addr} {i : Nat}
theorem tup2_key {x y : Int} {t1 t2 : Tok} {n : Nat} {a : Addr} (e : h.get? a = some (tup2 x t1 y t2 n)) : IsTupleKey (intKind prog w) h [x, y] a :=
  ⟨_, _, _, e, rfl, rfl, .cons (intKind_is _ _ _ _) (.cons (intKind_is _ _ _ _) .nil)⟩
theorem ktab_dict {es : Array DictEntry} {ep : Nat} {xs : List (List Int × Addr × Value)} (hb : ∀ p ∈ ql, 1 ≤ p.1 ∧ p.1 ≤ 4) (hS : ql.Pairwise (fun p q => lexlt p q = true)) (hi : i ≤ ql.length) (hg : h.get? sd = some so) (hT : ∀ p ∈ TT, h.get? p.1 = some p.2)
    (hc : so.ExactDict) (hd : so.data = .dict es ep) (he : es.toList = xs.map (entryOfKey (tupleKind (intKind prog w)))) (hl : xs.length = i)
    (hx : ∀ j, j < i → ∃ a t t1 t2 n, xs[j]? = some (keyK ql j, a, Value.int (plAt ql j).2 t) ∧ (a, tup2 (cdOf ql j) t1 (plAt ql j).1 t2 n) ∈ TT) :
    h.DictOfH (tupleKind (intKind prog w)) sd xs := by
  refine ⟨so, es, ep, hg, hc, hd, he, fun x hxm => ?_, ?_⟩
  · obtain ⟨j, hj, rfl⟩ := List.mem_iff_getElem.mp hxm
    obtain ⟨a, t, t1, t2, n, e, hm2⟩ := hx j (hl ▸ hj)
    rw [List.getElem?_eq_getElem hj] at e
    rw [Option.some.inj e]
    exact tup2_key (hT _ hm2)
  · refine List.pairwise_iff_getElem.mpr fun j k hj hk hjk q => ?_
    rw [List.length_map] at hj hk
    obtain ⟨a, t, t1, t2, n, e, _⟩ := hx j (hl ▸ hj)
    obtain ⟨a', t', t1', t2', n', e', _⟩ := hx k (hl ▸ hk)
    rw [List.getElem?_eq_getElem hj] at e
    rw [List.getElem?_eq_getElem hk] at e'
    rw [List.getElem_map, List.getElem_map, Option.some.inj e, Option.some.inj e'] at q
    exact absurd (List.cons.inj q).1 (Int.ne_of_lt (cdOf_inc hb hS hjk (Nat.lt_of_lt_of_le (hl ▸ hk) hi)))
theorem KTab.at (hb : ∀ p ∈ ql, 1 ≤ p.1 ∧ p.1 ≤ 4) (hS : ql.Pairwise (fun p q => lexlt p q = true)) (K : KTab prog w TT so ql i) (hi : i ≤ ql.length) (N : News h₀ L h news) (hm : (sd, so) ∈ news) (hT : ∀ p ∈ TT, p ∈ news) :
    ∃ xs, h.DictOfH (tupleKind (intKind prog w)) sd xs ∧ xs.length = i ∧ ∀ j, j < i → ∃ a t, xs[j]? = some (keyK ql j, a, Value.int (plAt ql j).2 t) := by
  obtain ⟨hc, es, ep, xs, hd, he, hl, hx⟩ := K
  refine ⟨xs, ktab_dict hb hS hi (N.get hm) (fun p hp => N.get (hT p hp)) hc hd he hl hx, hl, fun j hj => ?_⟩
  obtain ⟨a, t, _, _, _, e, _⟩ := hx j hj
  exact ⟨a, t, e⟩
theorem ktab_empty {o : Obj} (hd : o.IsDictOf (intKind prog w) []) : KTab prog w TT o ql 0 := by
  obtain ⟨es, ep, hc, hdat, _, hp, _⟩ := hd
  have he : es.toList = [] := List.length_eq_zero_iff.mp hp.length
  exact ⟨hc, es, ep, [], hdat, he, rfl, fun j hj => absurd hj (Nat.not_lt_zero _)⟩
theorem ktab_set {Q : Unit → Shared → Prop} {g : Obj → List (Addr × Obj)} {a : Addr} {t1 t2 tv : Tok} {n : Nat} (hb : ∀ p ∈ ql, 1 ≤ p.1 ∧ p.1 ≤ 4) (hS : ql.Pairwise (fun p q => lexlt p q = true)) (h6 : ql.length ≤ 6)
    (hu : A.units + 1 < cLine) (F : Fr h₀ L s.heap m) (N : News h₀ L s.heap news) (U : UpdF sd so news g) (hm : (sd, so) ∈ news) (K : KTab prog w TT so ql i) (hi : i < ql.length) (hT : ∀ p ∈ TT, p ∈ news)
    (ha : (a, tup2 (cdOf ql i) t1 (plAt ql i).1 t2 n) ∈ TT)
    (h : ∀ h' so', Fr h₀ L h' m → News h₀ L h' (g so') → KTab prog w TT so' ql (i + 1) → Q () { s with heap := h', toks := s.toks + 3 }) :
    wpAny (model prog w) A (setItem (.ref sd) (.ref a) (.int (plAt ql i).2 tv)) Q E s := by
  obtain ⟨hc, es, ep, xs, hd, he, hl, hx⟩ := K
  have hD : s.heap.DictOfH (tupleKind (intKind prog w)) sd xs := ktab_dict hb hS (Nat.le_of_lt hi) (N.get hm) (fun p hp => N.get (hT p hp)) hc hd he hl hx
  have hnone : atKey xs (keyK ql i) = none := by
    rw [atKey, Option.map_eq_none_iff]
    refine List.find?_eq_none.mpr fun x hxm q => ?_
    obtain ⟨j, hj, rfl⟩ := List.mem_iff_getElem.mp hxm
    obtain ⟨a, t, t1, t2, n, e, hm2⟩ := hx j (hl ▸ hj)
    rw [List.getElem?_eq_getElem hj] at e
    rw [Option.some.inj e] at q
    have q : keyK ql j = keyK ql i := of_decide_eq_true q
    have h1 : cdOf ql j = cdOf ql i := (List.cons.inj q).1
    have h2 := cdOf_inc hb hS (hl ▸ hj) hi
    omega
  obtain ⟨pre, post, rfl, hg, o1, o2⟩ := U.split
  have hmm := N (sd, so) hm
  refine wpAny_setItem_heap (hsz := by rw [hl, sizeLine_eq]; omega) (knd := tupleKind (intKind prog w)) (tupleKind_room_in1 hu) (tup2_key (N.get (hT _ ha))) hD fun h' hm' hs => ?_
  obtain ⟨o', es', ep', ho', hc', hd', he', _, _⟩ := hm'
  rw [storedH_new hnone] at he'
  refine h h' o' (F.change hs hmm.2.1 hmm.2.2) (hg o' ▸ N.setIn o1 o2 hs ho') ⟨hc', es', ep', _, hd', he', by rw [List.length_append, hl]; rfl, fun j hj => ?_⟩
  by_cases q : j < i
  · obtain ⟨a', t, t1', t2', n', e, hm2⟩ := hx j q
    exact ⟨a', t, t1', t2', n', by rw [List.getElem?_append_left (hl ▸ q)]; exact e, hm2⟩
  · obtain rfl : j = i := by omega
    refine ⟨a, tv, t1, t2, n, ?_, ha⟩
    rw [List.getElem?_append_right (by rw [hl]; exact Nat.le_refl _), hl, Nat.sub_self]
    rfl
end
end
section
open PySem PySem.W PyProof.Rows PySem.Calls PySem.Spec
set_option maxRecDepth 100000
/-- the p-th bit of the bytes, the highest of each first -/
noncomputable def bitAt (ds : List Int) (p : Nat) : Int := ds.getD (p / 8) 0 / 2 ^ (7 - p % 8) % 2
noncomputable abbrev rdObj (w : World) (k1 k2 k3 : Tok) (l : Addr) (p : Nat) (t2 t3 : Tok) : Obj := readerObj w k1 k2 k3 l ((p / 8 : Nat) : Int) t2 ((p % 8 : Nat) : Int) t3
theorem bit_P {prog : Program} {w : World} {p : Program} {loose : List Str} {mean : ExcName → Option Value} {mg mb : Str → Option Value}
    (dp un : Nat) (gd : Option (List Code)) (cn : Str) (cs : Scope) (a : Addr) (ccd : Value) (cl : List (Str × Addr)) (outer : List Env) (A₀ : Around) (base h₀ : Heap) (L : Addr) (m : Str → Option Value) (s : Shared) (Q E : Value → Shared → Prop)
    (x dx l : Addr) (vs : List Value) (ns : List Int) (nn : Nat) (k1 k2 k3 t2 t3 : Tok) (pos : Nat) (rest : List (Addr × Obj))
    (B : Below A₀ base outer h₀) (F : Fr h₀ L s.heap m) (X : (hd.heap_39 w.params).In h₀)
    (N : News h₀ L s.heap ((x, instObj 91 dx) :: (dx, rdObj w k1 k2 k3 l pos t2 t3) :: (l, listOf vs.toArray nn) :: rest))
    (T : Top p loose mean mg mb h₀) (hk : cs.kind = .function)
    (hoff : OwnOff rest [x, dx, l]) (hxd : x ≠ dx) (hld : l ≠ dx) (hi : IntsAre vs ns) (hns : ns.length ≤ 3) (hb : ∀ v ∈ ns, 0 ≤ v ∧ v < 256)
    (hp : pos ≤ 8 * ns.length)
    (hd : dp + 4 < recursionLimit) (hu : un + 20 < cLine)
    (ret : pos < 8 * ns.length → ∀ t t2' t3' h' tk', Fr h₀ L h' m →
      News h₀ L h' ((x, instObj 91 dx) :: (dx, rdObj w k1 k2 k3 l (pos + 1) t2' t3') :: (l, listOf vs.toArray nn) :: rest) →
      Q (.int (bitAt ns pos) t) { s with heap := h', toks := tk' })
    (exc : 8 * ns.length ≤ pos → ExcTo w base h₀ L m (envX cn cs L a ccd cl :: outer) s E (Str.ofString "cut_off") ((x, instObj 91 dx) :: (dx, rdObj w k1 k2 k3 l pos t2 t3) :: (l, listOf vs.toArray nn) :: rest)) :
    wpAny (model prog w) (ktrTop dp un gd cn cs L a ccd cl outer) (call (.ref 74) [.ref x]) Q E s := by
  refine bit_K dp un gd cn cs a ccd cl outer A₀ base h₀ L m s Q E x dx l vs ns nn k1 k2 k3 t2 t3 _ _ rest B F X N T hk hoff hxd hld hi hns hb (by omega) (by omega) (by omega) (by omega) hd hu ?_ ?_
  · intro hlt t t2' t3' h' tk' F' N'
    have e1 : (if ((pos % 8 : Nat) : Int) = 7 then ((pos / 8 : Nat) : Int) + 1 else ((pos / 8 : Nat) : Int)) = (((pos + 1) / 8 : Nat) : Int) := by split <;> omega
    have e2 : (if ((pos % 8 : Nat) : Int) = 7 then (0 : Int) else ((pos % 8 : Nat) : Int) + 1) = (((pos + 1) % 8 : Nat) : Int) := by split <;> omega
    rw [e1, e2] at N'
    have e3 : (7 - ((pos % 8 : Nat) : Int)).toNat = 7 - pos % 8 := Int.toNat_sub 7 (pos % 8)
    rw [e3, Int.toNat_natCast]
    exact ret (by omega) t t2' t3' h' tk' F' N'
  · intro hge
    exact exc (by omega)
section
variable {prog : Program} {w : World} {A : Around} {E : Value → Shared → Prop} {s : Shared} {h₀ h : Heap} {L : Addr} {m : Str → Option Value} {news TT : List (Addr × Obj)} {ql : List (Int × Int)} {so : Obj} {sd : Addr} {i : Nat}
theorem atKey_hit {xs : List (List Int × Addr × Value)} (hb : ∀ p ∈ ql, 1 ≤ p.1 ∧ p.1 ≤ 4) (hS : ql.Pairwise (fun p q => lexlt p q = true)) (hl : xs.length = ql.length) (hx : ∀ j, j < ql.length → ∃ a t, xs[j]? = some (keyK ql j, a, Value.int (plAt ql j).2 t))
    {j : Nat} (hj : j < ql.length) : ∃ a t, atKey xs (keyK ql j) = some (a, Value.int (plAt ql j).2 t) := by
  obtain ⟨a, t, e⟩ := hx j hj
  have hne : ((xs.find? fun x => decide (x.1 = keyK ql j))).isSome := by
    rw [List.find?_isSome]
    exact ⟨_, List.mem_of_getElem? e, by simp⟩
  obtain ⟨y, hy⟩ := Option.isSome_iff_exists.mp hne
  have hym := List.mem_of_find?_eq_some hy
  have hyk : y.1 = keyK ql j := by simpa using List.find?_some hy
  obtain ⟨k, hk, rfl⟩ := List.mem_iff_getElem.mp hym
  obtain ⟨a', t', e'⟩ := hx k (hl ▸ hk)
  rw [List.getElem?_eq_getElem hk] at e'
  have e'' := Option.some.inj e'
  rw [e''] at hyk
  have h1 : cdOf ql k = cdOf ql j := (List.cons.inj hyk).1
  have hkj : k = j := by
    rcases Nat.lt_trichotomy k j with q | q | q
    · have := cdOf_inc hb hS q hj; omega
    · exact q
    · have := cdOf_inc hb hS q (hl ▸ hk); omega
  subst hkj
  exact ⟨a', t', by rw [atKey, hy, e'']; rfl⟩
theorem atKey_miss {xs : List (List Int × Addr × Value)} (hl : xs.length = ql.length) (hx : ∀ j, j < ql.length → ∃ a t, xs[j]? = some (keyK ql j, a, Value.int (plAt ql j).2 t))
    {c n : Int} (hj : ∀ j, j < ql.length → ¬ (cdOf ql j = c ∧ (plAt ql j).1 = n)) : atKey xs [c, n] = none := by
  rw [atKey, Option.map_eq_none_iff]
  refine List.find?_eq_none.mpr fun x hxm q => ?_
  obtain ⟨k, hk, rfl⟩ := List.mem_iff_getElem.mp hxm
  obtain ⟨a, t, e⟩ := hx k (hl ▸ hk)
  rw [List.getElem?_eq_getElem hk] at e
  rw [Option.some.inj e] at q
  have q : keyK ql k = [c, n] := of_decide_eq_true q
  exact hj k (hl ▸ hk) ⟨(List.cons.inj q).1, (List.cons.inj (List.cons.inj q).2).1⟩
theorem ktab_in_yes {Q : Value → Shared → Prop} {a : Addr} {t1 t2 : Tok} {n : Nat} (hb : ∀ p ∈ ql, 1 ≤ p.1 ∧ p.1 ≤ 4) (hS : ql.Pairwise (fun p q => lexlt p q = true)) (hu : A.units + 1 < cLine) (N : News h₀ L s.heap news) (hm : (sd, so) ∈ news) (K : KTab prog w TT so ql ql.length) (hT : ∀ p ∈ TT, p ∈ news) (lo : (sd == sysModules) = false)
    {c ln : Int} (ha : (a, tup2 c t1 ln t2 n) ∈ news) {j : Nat} (hj : j < ql.length) (e1 : cdOf ql j = c) (e2 : (plAt ql j).1 = ln) (h : Q (.bool true) { s with toks := s.toks + 3 }) :
    wpAny (model prog w) A (compareOp .In (.ref a) (.ref sd)) Q E s := by
  subst e1 e2
  obtain ⟨xs, hD, hl, hx⟩ := K.at hb hS (Nat.le_refl _) N hm hT
  obtain ⟨a', t', e⟩ := atKey_hit hb hS hl hx hj
  refine wpAny_in_heap (knd := tupleKind (intKind prog w)) (tupleKind_room_in1 hu) (tup2_key (N.get ha)) lo hD ?_
  rw [e]
  exact h
theorem ktab_in_no {Q : Value → Shared → Prop} {a : Addr} {t1 t2 : Tok} {n : Nat} (hb : ∀ p ∈ ql, 1 ≤ p.1 ∧ p.1 ≤ 4) (hS : ql.Pairwise (fun p q => lexlt p q = true)) (hu : A.units + 1 < cLine) (N : News h₀ L s.heap news) (hm : (sd, so) ∈ news) (K : KTab prog w TT so ql ql.length) (hT : ∀ p ∈ TT, p ∈ news) (lo : (sd == sysModules) = false)
    {c ln : Int} (ha : (a, tup2 c t1 ln t2 n) ∈ news) (hj : ∀ j, j < ql.length → ¬ (cdOf ql j = c ∧ (plAt ql j).1 = ln)) (h : Q (.bool false) { s with toks := s.toks + 3 }) :
    wpAny (model prog w) A (compareOp .In (.ref a) (.ref sd)) Q E s := by
  obtain ⟨xs, hD, hl, hx⟩ := K.at hb hS (Nat.le_refl _) N hm hT
  refine wpAny_in_heap (knd := tupleKind (intKind prog w)) (tupleKind_room_in1 hu) (tup2_key (N.get ha)) lo hD ?_
  rw [atKey_miss hl hx hj]
  exact h
theorem ktab_item {Q : Value → Shared → Prop} {value slice : PySem.Expr} {a : Addr} {t1 t2 : Tok} {n : Nat} (hb : ∀ p ∈ ql, 1 ≤ p.1 ∧ p.1 ≤ 4) (hS : ql.Pairwise (fun p q => lexlt p q = true)) (hu : A.units + 1 < cLine) (N : News h₀ L s.heap news) (hm : (sd, so) ∈ news) (K : KTab prog w TT so ql ql.length) (hT : ∀ p ∈ TT, p ∈ news)
    {c ln : Int} (ha : (a, tup2 c t1 ln t2 n) ∈ news) {j : Nat} (hj : j < ql.length) (e1 : cdOf ql j = c) (e2 : (plAt ql j).1 = ln) (h : ∀ t, Q (.int (plAt ql j).2 t) { s with toks := s.toks + 3 })
    (hs : subscripted slice false (.ref sd) (.ref a) = operate [.ref sd, .ref a] (getItem (.ref sd) (.ref a)) := by with_unfolding_all rfl) (hg : ∀ r, letTemporaryGo value (.ref sd) r = pure () := by intro _; with_unfolding_all rfl) :
    wpAny (model prog w) A (subscriptTail value slice (.ref sd) (.ref a)) Q E s := by
  subst e1 e2
  obtain ⟨xs, hD, hl, hx⟩ := K.at hb hS (Nat.le_refl _) N hm hT
  obtain ⟨a', t', e⟩ := atKey_hit hb hS hl hx hj
  exact subscriptTail_builtin hD.typeIs slot_dict_getitem.lookup (wpAny_getItem_heap (knd := tupleKind (intKind prog w)) (tupleKind_room_in1 hu) (tup2_key (N.get ha)) hD e (h t')) hs hg
end
end
section
open PySem PySem.W PyProof.Rows PySem.Calls PySem.Spec
set_option maxRecDepth 100000
theorem topOff6 : True := by
  w_top off
  trivial
theorem sorted_uniq : ∀ {l1 l2 : List (Int × Int)}, l1.Perm l2 → l1.Pairwise (fun p q => lexlt p q = true) → l2.Pairwise (fun p q => lexlt p q = true) → l1 = l2
  | [], _, h, _, _ => (List.Perm.nil_eq h)
  | a :: r1, [], h, _, _ => absurd h.length_eq (by simp)
  | a :: r1, b :: r2, h, h1, h2 => by
    have h1' := List.pairwise_cons.mp h1
    have h2' := List.pairwise_cons.mp h2
    have e : a = b := by
      by_cases e : a = b
      · exact e
      · exfalso
        have ha : a ∈ r2 := (List.mem_cons.mp (h.mem_iff.mp (.head _))).resolve_left e
        have hb : b ∈ r1 := (List.mem_cons.mp (h.mem_iff.mpr (.head _))).resolve_left (Ne.symm e)
        have := lex_asymm (h1'.1 b hb)
        rw [h2'.1 a ha] at this
        exact absurd this (by decide)
    subst e
    rw [sorted_uniq (List.Perm.cons_inv h) h1'.2 h2'.2]
theorem full_M {prog : Program} {w : World} {p : Program} {loose : List Str} {mean : ExcName → Option Value} {mg mb : Str → Option Value}
    (dp un : Nat) (gd : Option (List Code)) (cn : Str) (cs : Scope) (a : Addr) (ccd : Value) (cl : List (Str × Addr)) (outer : List Env) (A₀ : Around) (base h₀ : Heap) (L : Addr) (m : Str → Option Value) (s : Shared) (Q E : Value → Shared → Prop)
    (l : Addr) (vs : List Value) (ns : List Int) (nn : Nat) (news : List (Addr × Obj))
    (B : Below A₀ base outer h₀) (F : Fr h₀ L s.heap m) (X : (hd.heap_39 w.params).In h₀)
    (N : News h₀ L s.heap news) (hm : (l, listOf vs.toArray nn) ∈ news)
    (T : Top p loose mean mg mb h₀) (hk : cs.kind = .function)
    (hi : IntsAre vs ns) (hns : ns.length ≤ 6) (hb : ∀ v ∈ ns, 0 ≤ v ∧ v < 5)
    (hd : dp + 6 < recursionLimit) (hu : un + 30 < cLine)
    (ret : ∀ (ql : List (Int × Int)) (h' : Heap) (tk' : Nat), ql.Perm (prsTo ns ns.length) → ql.Pairwise (fun p q => lexlt p q = true) → Fr h₀ L h' m → News h₀ L h' news → Q (.bool (compB ql)) { s with heap := h', toks := tk' }) :
    wpAny (model prog w) (ktrTop dp un gd cn cs L a ccd cl outer) (call (.ref 114) [.ref l]) Q E s := by
  refine full_K dp un gd cn cs a ccd cl outer A₀ base h₀ L m s Q E l vs ns nn news B F X ?_ T hk hi hns hb hd hu ?_
  · intro q hq
    rcases List.mem_cons.mp hq with rfl | hq
    · exact N _ hm
    · exact N _ hq
  · exact fun ql h' tk' hP hS F' N' => ret ql h' tk' hP hS F' fun q hq => N' q (.tail _ hq)
theorem codes_M {prog : Program} {w : World} {p : Program} {loose : List Str} {mean : ExcName → Option Value} {mg mb : Str → Option Value}
    (dp un : Nat) (gd : Option (List Code)) (cn : Str) (cs : Scope) (a : Addr) (ccd : Value) (cl : List (Str × Addr)) (outer : List Env) (A₀ : Around) (base h₀ : Heap) (L : Addr) (m : Str → Option Value) (s : Shared) (Q E : Value → Shared → Prop)
    (l : Addr) (vs : List Value) (ns : List Int) (nn : Nat) (news : List (Addr × Obj))
    (B : Below A₀ base outer h₀) (F : Fr h₀ L s.heap m) (X : (hd.heap_39 w.params).In h₀)
    (N : News h₀ L s.heap news) (hm : (l, listOf vs.toArray nn) ∈ news)
    (T : Top p loose mean mg mb h₀) (hk : cs.kind = .function)
    (hi : IntsAre vs ns) (hns : ns.length ≤ 6) (hb : ∀ v ∈ ns, 0 ≤ v ∧ v < 5)
    (hd : dp + 6 < recursionLimit) (hu : un + 30 < cLine)
    (ret : ∀ (d : Addr) (od : Obj) (kvs : List (Int × Value)) (ql : List (Int × Int)) (TT : List (Addr × Obj)) (h' : Heap) (tk' : Nat), Fr h₀ L h' m → News h₀ L h' ((d, od) :: (TT ++ news)) → od.IsDictOf (intKind prog w) kvs →
      kvs.map (·.1) = ql.map (·.2) → DatAll TT (kvs.map (·.2)) ((List.range ql.length).map fun j => pairD (cdOf ql j, (plAt ql j).1)) → (∀ q ∈ news, q.1 < d) → (∀ p ∈ TT, d < p.1) → (d == sysModules) = false →
      ql.Perm (prsTo ns ns.length) → ql.Pairwise (fun p q => lexlt p q = true) → Q (.ref d) { s with heap := h', toks := tk' }) :
    wpAny (model prog w) (ktrTop dp un gd cn cs L a ccd cl outer) (call (.ref 107) [.ref l]) Q E s := by
  refine codes_K dp un gd cn cs a ccd cl outer A₀ base h₀ L m s Q E l vs ns nn news B F X ?_ T hk hi hns hb hd hu ?_
  · intro q hq
    rcases List.mem_cons.mp hq with rfl | hq
    · exact N _ hm
    · exact N _ hq
  · intro d od kvs ql TT h' tk' F' N' h1 h2 h3 h4 h5 h6 h7 h8
    refine ret d od kvs ql TT h' tk' F' (fun q hq => N' q ?_) h1 h2 h3 (fun q hq => h4 q (.tail _ hq)) h5 h6 h7 h8
    rcases List.mem_cons.mp hq with rfl | hq
    · exact .head _
    rcases List.mem_append.mp hq with hq | hq
    · exact .tail _ (List.mem_append.mpr (.inl hq))
    · exact .tail _ (List.mem_append.mpr (.inr (.tail _ hq)))
noncomputable abbrev decObj (w : World) (k1 k2 : Tok) (sd : Addr) (lg : Int) (t : Tok) : Obj :=
  dictOf [strE w (Str.ofString "symbols") k1 (.ref sd), strE w (Str.ofString "longest") k2 (.int lg t)] 2
theorem fr_self1 {g h : Heap} {L : Addr} {m : Str → Option Value} (F : Fr g L h m) {x : Str} {v : Option Value} (e : m x = v) : ∃ bm : Str → Option Value, Fr g L h (fun y => if y = x then v else bm y) := by
  refine ⟨m, ?_⟩
  have : (fun y => if y = x then v else m y) = m := by
    funext y
    by_cases q : y = x
    · rw [if_pos q, q, e]
    · rw [if_neg q]
  rw [this]
  exact F
section
set_option maxHeartbeats 4000000 in
theorem init_C {prog : Program} {w : World} {p : Program} {loose : List Str} {mean : ExcName → Option Value} {mg mb : Str → Option Value}
    (dp un : Nat) (gd : Option (List Code)) (cn : Str) (cs : Scope) (a : Addr) (ccd : Value) (cl : List (Str × Addr)) (outer : List Env) (A₀ : Around) (base h₀ : Heap) (L : Addr) (m : Str → Option Value) (s : Shared) (RR : Result → Shared → Prop)
    (x dx l : Addr) (vs : List Value) (ns : List Int) (nn : Nat) (rest : List (Addr × Obj))
    (B : Below A₀ base outer h₀) (F : Fr h₀ L s.heap m) (X : (hd.heap_39 w.params).In h₀)
    (N : News h₀ L s.heap ((x, instObj 138 dx) :: (dx, dictOf [] 0) :: (l, listOf vs.toArray nn) :: rest))
    (T : Top p loose mean mg mb h₀) (hk : cs.kind = .function)
    (hoff : OwnOff rest [x, dx]) (hxd : x ≠ dx) (hld : l ≠ dx)
    (hi : IntsAre vs ns) (hns : ns.length ≤ 6) (hb : ∀ v ∈ ns, 0 ≤ v ∧ v < 5)
    (hd : dp + 8 < recursionLimit) (hu : un + 40 < cLine)
    (ret : ∀ (ql : List (Int × Int)) (sd : Addr) (so : Obj) (k1 k2 t : Tok) (TT : List (Addr × Obj)) (h' : Heap) (tk' : Nat), ql.Perm (prsTo ns ns.length) → ql.Pairwise (fun p q => lexlt p q = true) → compB ql = true → KTab prog w TT so ql ql.length → (sd == sysModules) = false → Fr h₀ L h' m →
      News h₀ L h' ((x, instObj 138 dx) :: (dx, decObj w k1 k2 sd (bf ql ql.length) t) :: (sd, so) :: (TT ++ (l, listOf vs.toArray nn) :: rest)) → (∀ q ∈ (x, instObj 138 dx) :: (dx, dictOf [] 0) :: (l, listOf vs.toArray nn) :: rest, q.1 < sd) → (∀ p ∈ TT, sd < p.1) → RR (.ok (.ret .none)) { s with heap := h', toks := tk' })
    (exc : ∀ (ql : List (Int × Int)), ql.Perm (prsTo ns ns.length) → ql.Pairwise (fun p q => lexlt p q = true) → compB ql = false → ExcTo w base h₀ L m (envX cn cs L a ccd cl :: outer) s (fun e s' => RR (.error e) s') (Str.ofString "bad_code") ((x, instObj 138 dx) :: (dx, dictOf [] 0) :: (l, listOf vs.toArray nn) :: rest)) :
    codeAny (model prog w) (ktrTop dp un gd cn cs L a ccd cl outer) (.call (.ref 128) ⟨[.ref x, .ref l], []⟩) RR s := by
  k_dflt cell_enter
  k_steps
  refine ⟨?_⟩
  k_dflt (refine' full_M _ _ _ _ _ _ _ _ _ _ _ _ _ _ _ _ _ _ _ _ _ _ ?k1 ?k2 ?k3 ?k4 ?km ?k5 ?k6 ?k7 ?kl ?kb ?k8 ?k9 ?_)
  (case k1 => k_asm)
  (case k2 => k_asm)
  (case k3 => k_asm)
  (case k4 => k_asm)
  (case km => k_mem)
  (case k5 => k_asm)
  (case k6 => first | exact rfl | assumption)
  (case k7 => assumption)
  (case kl => assumption)
  (case kb => assumption)
  (case k8 => ktr_room)
  (case k9 => ktr_units)
  intro ql0 h0' tk0 hP0 hS0 F0 N0
  rcases Bool.eq_false_or_eq_true (compB ql0) with hB0 | hB0
  all_goals rw [hB0]
  all_goals k_steps
  · rename_i sd h1 so lo hs fs hI0 fi l1 h2 h3 F9 N9
    clear hs fs fi
    refine For_turns F9 ?_
    k_steps
    refine ⟨?_⟩
    k_dflt (refine' codes_M _ _ _ _ _ _ _ _ _ _ _ _ _ _ _ _ _ _ _ _ _ _ ?k1 ?k2 ?k3 ?k4 ?km ?k5 ?k6 ?k7 ?kl ?kb ?k8 ?k9 ?_)
    (case k1 => k_asm)
    (case k2 => k_asm)
    (case k3 => k_asm)
    (case k4 => k_asm)
    (case km => k_mem)
    (case k5 => k_asm)
    (case k6 => first | exact rfl | assumption)
    (case k7 => assumption)
    (case kl => assumption)
    (case kb => assumption)
    (case k8 => ktr_room)
    (case k9 => ktr_units)
    intro c cod kvs ql TT h4 tk4 F4 N4 hcd hk1 hk2 hbl hT cl0 hP hS
    k_steps
    rename_i vw h5 F5 N5 l5
    have hb1 : ∀ p ∈ ql, 1 ≤ p.1 ∧ p.1 ≤ 4 ∧ 0 ≤ p.2 ∧ p.2 < ns.length := fun p hp => prsTo_len ns hb _ (Nat.le_refl _) p (hP.mem_iff.mp hp)
    have hb2 : ∀ p ∈ ql, 1 ≤ p.1 ∧ p.1 ≤ 4 := fun p hp => ⟨(hb1 p hp).1, (hb1 p hp).2.1⟩
    have hl6 : ql.length ≤ 6 := by rw [hP.length_eq]; exact Nat.le_trans (prsTo_length ns _) hns
    obtain ⟨ov, k1, k2, t0, hov1, hov2, N6⟩ : ∃ (ov : Obj) (k1 k2 t0 : Tok), ov.cls = .type "dict_items" ∧ ov.data = .fields #[.ref c] ∧ News _ _ h5 ((vw, ov) :: (c, cod) :: (TT ++ ((sd, so) :: (x, instObj 138 dx) :: (dx, decObj w k1 k2 sd 0 t0) :: (l, listOf vs.toArray nn) :: rest))) := ⟨_, _, _, _, rfl, rfl, N5⟩
    obtain ⟨bm, F6⟩ : ∃ bm : Str → Option Value, Fr _ _ h5 (fun y => if y = Str.ofString "self" then some (Value.ref x) else bm y) := fr_self1 F5 rfl
    obtain ⟨R, hR, N7⟩ : ∃ R : List (Addr × Obj), (∀ p, p ∈ R ↔ p ∈ TT ∨ p ∈ rest) ∧ News _ _ h5 ((c, cod) :: (sd, so) :: (x, instObj 138 dx) :: (dx, decObj w k1 k2 sd 0 t0) :: (l, listOf vs.toArray nn) :: R) := by
      refine ⟨TT ++ rest, fun p => List.mem_append, fun p hp => N6 p (.tail _ ?_)⟩
      rcases List.mem_cons.mp hp with rfl | hp
      · exact .head _
      rcases List.mem_cons.mp hp with rfl | hp
      · exact .tail _ (List.mem_append.mpr (.inr (.head _)))
      rcases List.mem_cons.mp hp with rfl | hp
      · exact .tail _ (List.mem_append.mpr (.inr (.tail _ (.head _))))
      rcases List.mem_cons.mp hp with rfl | hp
      · exact .tail _ (List.mem_append.mpr (.inr (.tail _ (.tail _ (.head _)))))
      rcases List.mem_cons.mp hp with rfl | hp
      · exact .tail _ (List.mem_append.mpr (.inr (.tail _ (.tail _ (.tail _ (.head _))))))
      rcases List.mem_append.mp hp with hp | hp
      · exact .tail _ (List.mem_append.mpr (.inl hp))
      · exact .tail _ (List.mem_append.mpr (.inr (.tail _ (.tail _ (.tail _ (.tail _ hp))))))
    have hvw := (N6 _ (.head _)).1
    obtain ⟨lx, ldx, ll, lr⟩ := l1
    have csd : @LT.lt Nat _ sd c := hbl _ (.head _)
    have cx : @LT.lt Nat _ x c := hbl _ (.tail _ (.head _))
    have cdx : @LT.lt Nat _ dx c := hbl _ (.tail _ (.tail _ (.head _)))
    have cll : @LT.lt Nat _ l c := hbl _ (.tail _ (.tail _ (.tail _ (.head _))))
    have hoR : OwnOff R [c, sd, x, dx] := by
      intro p hp b hbm
      rcases (hR p).mp hp with hp | hp
      · have h1 : @LT.lt Nat _ c p.1 := hT p hp
        have h2 : b ≤ c := by
          rcases List.mem_cons.mp hbm with rfl | hbm
          · exact Nat.le_refl _
          rcases List.mem_cons.mp hbm with rfl | hbm
          · exact Nat.le_of_lt csd
          rcases List.mem_cons.mp hbm with rfl | hbm
          · exact Nat.le_of_lt cx
          rcases List.mem_cons.mp hbm with rfl | hbm
          · exact Nat.le_of_lt cdx
          · exact nomatch hbm
        exact Nat.ne_of_gt (Nat.lt_of_le_of_lt h2 h1)
      · rcases List.mem_cons.mp hbm with rfl | hbm
        · exact Nat.ne_of_lt (Nat.lt_trans (allLt_mem lr p hp) csd)
        rcases List.mem_cons.mp hbm with rfl | hbm
        · exact Nat.ne_of_lt (allLt_mem lr p hp)
        · exact hoff p hp b hbm
    clear hbl l5 N5 N6 F5 N4 F4
    refine kta_items (knd := intKind prog w) (enc := PyData.int) (by rfl) F6 N7 ⟨ov, hvw, hov1, hov2⟩ (.head _) hcd (fun k v e => Value.isInt_shape e) rfl fun I hI => ?_
    refine items_ind _ (fun i m news => ∃ soi t, news = (c, cod) :: (sd, soi) :: (x, instObj 138 dx) :: (dx, decObj w k1 k2 sd (bf ql i) t) :: (l, listOf vs.toArray nn) :: R ∧ KTab prog w TT soi ql i ∧ ∀ y, y ≠ Str.ofString "symbol" → y ≠ Str.ofString "pair" → m y = if y = Str.ofString "self" then some (Value.ref x) else bm y) ?start ?step ?done
    case start => exact ⟨so, t0, rfl, ktab_empty hI0, fun y h1 h2 => rfl⟩
    case step =>
      rintro i m news a hx ⟨soi, t, rfl, hK, hm⟩ v h tk hIs F1
      obtain ⟨u1, u2, rfl⟩ := fr20 hm
      clear hm
      rw [List.getElem?_map] at hx
      obtain ⟨kv, hkv, rfl⟩ := Option.map_eq_some_iff.mp hx
      obtain ⟨T', t', rfl, hTup⟩ := hIs
      refine AllObj.cons fun oI hcI => AllObj.nil fun N1 => ?_
      replace N1 : News _ _ h ((I, oI) :: (c, cod) :: (sd, soi) :: (x, instObj 138 dx) :: (dx, decObj w k1 k2 sd (bf ql i) t) :: (l, listOf vs.toArray nn) :: R) := N1
      have hkl : kvs.length = ql.length := by simpa using congrArg List.length hk1
      have hil : i < ql.length := by
        rw [← hkl]
        exact (List.getElem?_eq_some_iff.mp hkv).1
      have e1 : kv.1 = (plAt ql i).2 := by
        have := congrArg (·[i]?) hk1
        simp only [List.getElem?_map, hkv, List.getElem?_eq_getElem hil, Option.map_some, Option.some.injEq] at this
        rw [this, plAt_eq hil]
      obtain ⟨a2, t3, t4, n2, e2, hm2⟩ : ∃ a t1 t2 n, kv.2 = .ref a ∧ (a, tup2 (cdOf ql i) t1 (plAt ql i).1 t2 n) ∈ TT := by
        obtain ⟨v9, hv9, hd9⟩ := hk2.get (k := i) (by simpa using hil)
        rw [List.getElem?_map, hkv] at hv9
        obtain rfl : kv.2 = v9 := by simpa using hv9
        rw [List.getElem_map, List.getElem_range] at hd9
        exact datIn_pair hd9
      obtain ⟨kv1, kv2⟩ := kv
      dsimp only at e1 e2
      subst e1 e2
      replace hTup : IsTup h T' #[Value.int (plAt ql i).2 t', Value.ref a2] := hTup
      have hm3 : (a2, tup2 (cdOf ql i) t3 (plAt ql i).1 t4 n2) ∈ R := (hR _).mpr (.inl hm2)
      have hq := hb1 (plAt ql i) (by rw [plAt_eq hil]; exact List.getElem_mem hil)
      have hle : bf ql i ≤ (plAt ql i).1 := by
        cases i with
        | zero => show (0:Int) ≤ _; omega
        | succ j => exact lens_le hS (Nat.le_succ j) hil
      obtain ⟨hq0, hq1, hq2, hq3⟩ := hq
      have iI1 : @LT.lt Nat _ c I := hI _ (.head _)
      have iI2 : @LT.lt Nat _ sd I := hI _ (.tail _ (.head _))
      have iI3 : @LT.lt Nat _ x I := hI _ (.tail _ (.tail _ (.head _)))
      have iI4 : @LT.lt Nat _ dx I := hI _ (.tail _ (.tail _ (.tail _ (.head _))))
      have iI5 : @LT.lt Nat _ l I := hI _ (.tail _ (.tail _ (.tail _ (.tail _ (.head _)))))
      have iI6 : ∀ p ∈ R, p.1 < I := fun p hp => hI p (.tail _ (.tail _ (.tail _ (.tail _ (.tail _ hp)))))
      k_steps
      rename_i F9 N9
      refine ktab_set hb2 hS hl6 (by ktr_units) F9 N9 (UpdF.tail (Nat.ne_of_gt iI2) (UpdF.tail (Nat.ne_of_gt csd) (UpdF.head ?u3))) (.tail _ (.tail _ (.head _))) hK hil (fun p hp => .tail _ (.tail _ (.tail _ (.tail _ (.tail _ (.tail _ ((hR p).mpr (.inl hp)))))))) hm2 fun h10 so' F10 N10 hK' => ?_
      case u3 =>
        intro p hp
        rcases List.mem_cons.mp hp with rfl | hp
        · exact Nat.ne_of_lt lx
        rcases List.mem_cons.mp hp with rfl | hp
        · exact Nat.ne_of_lt ldx
        rcases List.mem_cons.mp hp with rfl | hp
        · exact Nat.ne_of_lt ll
        · exact hoR p hp sd (.tail _ (.head _))
      k_steps
      rename_i F11 N11
      obtain ⟨t11, N12⟩ : ∃ t11, News _ _ _ ((I, oI) :: (c, cod) :: (sd, so') :: (x, instObj 138 dx) :: (dx, decObj w k1 k2 sd (if (plAt ql i).fst > bf ql i then (plAt ql i).fst else bf ql i) t11) :: (l, listOf vs.toArray nn) :: R) := ⟨_, N11⟩
      have emx : (if (plAt ql i).fst > bf ql i then (plAt ql i).fst else bf ql i) = (plAt ql i).1 := by split <;> omega
      rw [emx] at N12
      refine unr_end (news' := (c, cod) :: (sd, so') :: (x, instObj 138 dx) :: (dx, decObj w k1 k2 sd (plAt ql i).1 t11) :: (l, listOf vs.toArray nn) :: R) F11 N12 (.head _) (fun p hp => .tail _ hp) (fun p hp => ?_) ⟨.head _, trivial⟩ ⟨so', t11, rfl, hK', fun y h1 h2 => ?_⟩
      · rcases List.mem_cons.mp hp with rfl | hp
        · exact Nat.ne_of_lt iI1
        rcases List.mem_cons.mp hp with rfl | hp
        · exact Nat.ne_of_lt iI2
        rcases List.mem_cons.mp hp with rfl | hp
        · exact Nat.ne_of_lt iI3
        rcases List.mem_cons.mp hp with rfl | hp
        · exact Nat.ne_of_lt iI4
        rcases List.mem_cons.mp hp with rfl | hp
        · exact Nat.ne_of_lt iI5
        · exact Nat.ne_of_lt (iI6 p hp)
      · simp only [if_neg h1, if_neg h2]
    case done =>
      rintro m news ⟨soi, t, rfl, hK, hm⟩ h tk F1 N1
      obtain ⟨u1, u2, rfl⟩ := fr20 hm
      clear hm
      have hkl : kvs.length = ql.length := by simpa using congrArg List.length hk1
      rw [List.length_map, hkl] at hK N1
      k_steps
      rename_i kF kN _ _
      refine ret ql sd soi k1 k2 t TT _ _ hP hS ?hB hK lo kF (fun p hp => kN p ?hN) ?o1 ?o2
      case hB =>
        rw [← sorted_uniq (hP0.trans hP.symm) hS0 hS]
        exact hB0
      case hN =>
        rcases List.mem_cons.mp hp with rfl | hp
        · exact .tail _ (.tail _ (.head _))
        rcases List.mem_cons.mp hp with rfl | hp
        · exact .tail _ (.tail _ (.tail _ (.head _)))
        rcases List.mem_cons.mp hp with rfl | hp
        · exact .tail _ (.head _)
        rcases List.mem_append.mp hp with hp | hp
        · exact .tail _ (.tail _ (.tail _ (.tail _ (.tail _ ((hR p).mpr (.inl hp))))))
        rcases List.mem_cons.mp hp with rfl | hp
        · exact .tail _ (.tail _ (.tail _ (.tail _ (.head _))))
        · exact .tail _ (.tail _ (.tail _ (.tail _ (.tail _ ((hR p).mpr (.inr hp))))))
      case o1 =>
        intro q hq
        rcases List.mem_cons.mp hq with rfl | hq
        · exact lx
        rcases List.mem_cons.mp hq with rfl | hq
        · exact ldx
        rcases List.mem_cons.mp hq with rfl | hq
        · exact ll
        · exact allLt_mem lr q hq
      case o2 => exact fun p hp => Nat.lt_trans csd (hT p hp)
  · refine ⟨?_⟩
    k_dflt (refine' fe_make _ _ _ _ _ _ _ _ _ _ _ _ _ _ _ _ _ _ _ _ ?k1 ?k2 ?k3 ?k4 ?k5 ?k6 ?k7 ?k8 ?_)
    (case k1 => k_asm)
    (case k2 => k_asm)
    (case k3 => k_asm)
    (case k4 => k_asm)
    (case k5 => k_asm)
    (case k6 => first | exact rfl | assumption)
    (case k7 => ktr_room)
    (case k8 => ktr_units)
    intro x' t' dx' k1' k2' h' tk' F9 N9 l1 l2 l3
    refine ⟨x', _, _, rfl, Frag.In.keeps (by assumption) F9.keep, (N9 _ (.tail _ (.head _))).1, rfl, rfl, rfl, ?_⟩
    k_steps
    refine fe_leave1 (by assumption) F9 N9 (Nat.ne_of_lt l2) (Nat.ne_of_gt l3) (Nat.ne_of_gt (Nat.lt_trans l2 l3)) (fun q hq => ?_) fun h' R U => ?_
    · have h1 := l1 q hq
      exact ⟨Nat.ne_of_lt (Nat.lt_trans h1 l2), Nat.ne_of_lt h1⟩
    · exact exc ql0 hP0 hS0 hB0 _ _ _ _ _ _ _ _ _ _ _ (by assumption) R U
end
end
local macro_rules | `(tactic| walk_at "exec For Name Call cons nil") => `(tactic| (k_here; refine Fence.it ?_))
section
open PySem PySem.W PyProof.Rows PySem.Calls PySem.Spec
set_option maxRecDepth 100000
theorem topOff7 : True := by
  w_top off
  trivial
/-- the code that i bits from pos spell -/
noncomputable def cAt (ds : List Int) (pos : Nat) : Nat → Int
  | 0 => 0
  | i+1 => cAt ds pos i * 2 + bitAt ds (pos + i)
/-- no pair has the code c of length n -/
noncomputable def NoHit (ql : List (Int × Int)) (c n : Int) : Prop := ∀ j, j < ql.length → ¬ (cdOf ql j = c ∧ (plAt ql j).1 = n)
theorem raisedD_sub {base G h : Heap} {l : List Env} {e t dx : Addr} {vs : List Value} {news news' : List (Addr × Obj)} (R : RaisedD base G l e t dx vs news h) (hs : ∀ p ∈ news', p ∈ news) : RaisedD base G l e t dx vs news' h := by
  obtain ⟨⟨⟨B, hB, hBG, hl, r⟩, htup⟩, o⟩ := R
  exact ⟨⟨⟨B, hB, hBG, fun q hq => hl q (hs q hq), r⟩, htup⟩, o⟩
theorem raisedD_tail {base G h : Heap} {l : List Env} {e t dx : Addr} {vs : List Value} {q : Addr × Obj} {news news' : List (Addr × Obj)} (R : RaisedD base G l e t dx vs (q :: news) h) (hs : ∀ p ∈ news', p ∈ news) : RaisedD base G l e t dx vs (q :: news') h :=
  raisedD_sub R fun p hp => (List.mem_cons.mp hp).elim (fun e => e ▸ .head _) fun hp => .tail _ (hs p hp)
theorem fr_self3 {g h : Heap} {L : Addr} {m : Str → Option Value} (F : Fr g L h m) {x1 x2 x3 : Str} {v1 v2 v3 : Option Value} (e1 : m x1 = v1) (e2 : m x2 = v2) (e3 : m x3 = v3) :
    ∃ bm : Str → Option Value, Fr g L h (fun y => if y = x1 then v1 else if y = x2 then v2 else if y = x3 then v3 else bm y) := by
  refine ⟨m, ?_⟩
  have : (fun y => if y = x1 then v1 else if y = x2 then v2 else if y = x3 then v3 else m y) = m := by
    funext y
    by_cases q : y = x1
    · rw [if_pos q, q, e1]
    rw [if_neg q]
    by_cases q : y = x2
    · rw [if_pos q, q, e2]
    rw [if_neg q]
    by_cases q : y = x3
    · rw [if_pos q, q, e3]
    rw [if_neg q]
  rw [this]
  exact F
section
set_option maxHeartbeats 4000000 in
theorem sym_K {prog : Program} {w : World} {p : Program} {loose : List Str} {mean : ExcName → Option Value} {mg mb : Str → Option Value}
    (dp un : Nat) (gd : Option (List Code)) (cn : Str) (cs : Scope) (a : Addr) (ccd : Value) (cl : List (Str × Addr)) (outer : List Env) (A₀ : Around) (base h₀ : Heap) (L : Addr) (m : Str → Option Value) (s : Shared) (Q E : Value → Shared → Prop)
    (x dx sd rx rdx dl : Addr) (so : Obj) (TT : List (Addr × Obj)) (ql : List (Int × Int)) (dvs : List Value) (ds : List Int) (dn : Nat) (pos : Nat) (k1 k2 t k3 k4 k5 t2 t3 : Tok) (rest : List (Addr × Obj))
    (B : Below A₀ base outer h₀) (F : Fr h₀ L s.heap m) (X : (hd.heap_39 w.params).In h₀)
    (N : News h₀ L s.heap ((rx, instObj 91 rdx) :: (rdx, rdObj w k3 k4 k5 dl pos t2 t3) :: (dl, listOf dvs.toArray dn) :: (x, instObj 138 dx) :: (dx, decObj w k1 k2 sd (bf ql ql.length) t) :: (sd, so) :: rest))
    (T : Top p loose mean mg mb h₀) (hk : cs.kind = .function)
    (hoff : OwnOff ((x, instObj 138 dx) :: (dx, decObj w k1 k2 sd (bf ql ql.length) t) :: (sd, so) :: rest) [rx, rdx, dl]) (hxd : rx ≠ rdx) (hld : dl ≠ rdx)
    (hi : IntsAre dvs ds) (hns : ds.length ≤ 3) (hb : ∀ v ∈ ds, 0 ≤ v ∧ v < 256) (hpos : pos ≤ 8 * ds.length)
    (hq : ∀ p ∈ ql, 1 ≤ p.1 ∧ p.1 ≤ 4) (hS : ql.Pairwise (fun p q => lexlt p q = true)) (hl6 : ql.length ≤ 6) (hTT : ∀ p ∈ TT, p ∈ rest) (hK : KTab prog w TT so ql ql.length) (lo : (sd == sysModules) = false)
    (hd : dp + 8 < recursionLimit) (hu : un + 40 < cLine)
    (ret : ∀ (i j : Nat) (t2' t3' t' : Tok) (h' : Heap) (tk' : Nat), (i : Int) < bf ql ql.length → (∀ i' : Nat, 1 ≤ i' → i' ≤ i → NoHit ql (cAt ds pos i') i') → j < ql.length → cdOf ql j = cAt ds pos (i + 1) → (plAt ql j).1 = (i : Int) + 1 → pos + (i + 1) ≤ 8 * ds.length → Fr h₀ L h' m →
      News h₀ L h' ((rx, instObj 91 rdx) :: (rdx, rdObj w k3 k4 k5 dl (pos + (i + 1)) t2' t3') :: (dl, listOf dvs.toArray dn) :: (x, instObj 138 dx) :: (dx, decObj w k1 k2 sd (bf ql ql.length) t) :: (sd, so) :: rest) → Q (.int (plAt ql j).2 t') { s with heap := h', toks := tk' })
    (cut : ∀ i : Nat, (i : Int) < bf ql ql.length → pos + i = 8 * ds.length → (∀ i' : Nat, 1 ≤ i' → i' ≤ i → NoHit ql (cAt ds pos i') i') → ExcTo w base h₀ L m (envX cn cs L a ccd cl :: outer) s E (Str.ofString "cut_off") rest)
    (bad : pos + (bf ql ql.length).toNat ≤ 8 * ds.length → (∀ i' : Nat, 1 ≤ i' → i' ≤ (bf ql ql.length).toNat → NoHit ql (cAt ds pos i') i') → ExcTo w base h₀ L m (envX cn cs L a ccd cl :: outer) s E (Str.ofString "bad_code") rest) :
    wpAny (model prog w) (ktrTop dp un gd cn cs L a ccd cl outer) (call (.ref 135) [.ref x, .ref rx]) Q E s := by
  have hlg : 0 ≤ bf ql ql.length ∧ bf ql ql.length ≤ 4 := by
    cases e : ql.length with
    | zero => exact ⟨Int.le_refl _, (by decide : (0:Int) ≤ 4)⟩
    | succ j =>
      have := hq (plAt ql j) (by rw [plAt_eq (by omega)]; exact List.getElem_mem _)
      show 0 ≤ (plAt ql j).1 ∧ (plAt ql j).1 ≤ 4
      omega
  obtain ⟨lg, elg⟩ : ∃ lg, lg = bf ql ql.length := ⟨_, rfl⟩
  rw [← elg] at N hoff hlg ret cut bad
  obtain ⟨hlg0, hlg1⟩ := hlg
  refine wpAny_call ?_
  k_dflt cell_enter
  k_steps
  refine ⟨?_⟩
  with_unfolding_all refine' For_turns ‹Fr _ _ _ _› ?_
  k_steps
  rename_i t₁ u₁ v₁ hr F9 N9 hk9
  obtain ⟨tc0, bm, F10⟩ : ∃ (tc0 : Tok) (bm : Str → Option Value), Fr _ _ _ (fun y => if y = Str.ofString "code" then some (Value.int 0 tc0) else if y = Str.ofString "self" then some (Value.ref x) else if y = Str.ofString "reader" then some (Value.ref rx) else bm y) := by
    obtain ⟨bm, F⟩ := fr_self3 (v1 := some (Value.int 0 _)) (v2 := some (Value.ref x)) (v3 := some (Value.ref rx)) F9 (x1 := Str.ofString "code") (x2 := Str.ofString "self") (x3 := Str.ofString "reader") rfl rfl rfl
    exact ⟨_, bm, F⟩
  refine iter_rangeTurns (n := lg.toNat) (by rfl) hr (small_one (by omega) (by omega) (by omega) (by omega)) (by rw [rangeSize_nat]; congr 1; omega) F10 N9 fun I hI => ?_
  clear F9 N9 F10 hr hk9
  refine items_ind _ (fun i m news => ∃ (t2 t3 : Tok), news = (rx, instObj 91 rdx) :: (rdx, rdObj w k3 k4 k5 dl (pos + i) t2 t3) :: (dl, listOf dvs.toArray dn) :: (x, instObj 138 dx) :: (dx, decObj w k1 k2 sd lg t) :: (sd, so) :: rest ∧ pos + i ≤ 8 * ds.length ∧
    (∀ i' : Nat, 1 ≤ i' → i' ≤ i → NoHit ql (cAt ds pos i') i') ∧ (∃ tc, m (Str.ofString "code") = some (Value.int (cAt ds pos i) tc)) ∧ ∀ y, y ≠ Str.ofString "length" → y ≠ Str.ofString "code" → m y = if y = Str.ofString "self" then some (Value.ref x) else if y = Str.ofString "reader" then some (Value.ref rx) else bm y) ?start ?step ?done
  case start => exact ⟨t2, t3, rfl, hpos, fun i' h1 h2 => absurd h1 (by omega), ⟨tc0, rfl⟩, fun y h1 h2 => by rw [if_neg h2]⟩
  case step =>
    rintro i m news a hx ⟨t2, t3, rfl, hpi, hno, ⟨tc, hc⟩, hm⟩ v h tk hIs F1
    obtain ⟨u1, rfl⟩ := fr11 hc hm
    clear hc hm
    rw [List.getElem?_map] at hx
    obtain ⟨i2, hi2, rfl⟩ := Option.map_eq_some_iff.mp hx
    obtain ⟨hil, rfl⟩ : i < lg.toNat ∧ i = i2 := by
      obtain ⟨q1, q2⟩ := List.getElem?_eq_some_iff.mp hi2
      rw [List.getElem_range] at q2
      rw [List.length_range] at q1
      exact ⟨q1, q2⟩
    obtain ⟨tl, rfl⟩ := hIs
    refine AllObj.cons fun oI hcI => AllObj.nil fun N1 => ?_
    have N2 : News _ _ h ((rx, instObj 91 rdx) :: (rdx, rdObj w k3 k4 k5 dl (pos + i) t2 t3) :: (dl, listOf dvs.toArray dn) :: (I, oI) :: (x, instObj 138 dx) :: (dx, decObj w k1 k2 sd lg t) :: (sd, so) :: rest) := fun p hp => N1 p (by
      rcases List.mem_cons.mp hp with rfl | hp
      · exact .tail _ (.head _)
      rcases List.mem_cons.mp hp with rfl | hp
      · exact .tail _ (.tail _ (.head _))
      rcases List.mem_cons.mp hp with rfl | hp
      · exact .tail _ (.tail _ (.tail _ (.head _)))
      rcases List.mem_cons.mp hp with rfl | hp
      · exact .head _
      · exact .tail _ (.tail _ (.tail _ (.tail _ hp))))
    clear N1
    have hoffI : OwnOff ((I, oI) :: (x, instObj 138 dx) :: (dx, decObj w k1 k2 sd lg t) :: (sd, so) :: rest) [rx, rdx, dl] := by
      intro p hp b hbm
      rcases List.mem_cons.mp hp with rfl | hp
      · rcases List.mem_cons.mp hbm with rfl | hbm
        · exact Nat.ne_of_gt (hI _ (.head _))
        rcases List.mem_cons.mp hbm with rfl | hbm
        · exact Nat.ne_of_gt (hI (b, rdObj w k3 k4 k5 dl pos _ _) (.tail _ (.head _)))
        rcases List.mem_cons.mp hbm with rfl | hbm
        · exact Nat.ne_of_gt (hI _ (.tail _ (.tail _ (.head _))))
        · exact nomatch hbm
      · exact hoff p hp b hbm
    k_steps
    refine ⟨?_⟩
    k_dflt (show wpAny _ _ (call (Value.ref 74) [Value.ref _]) _ _ _)
    k_dflt (refine' bit_P _ _ _ _ _ _ _ _ _ _ _ _ _ _ _ _ _ _ _ _ _ _ _ _ _ _ _ _ _ _ ?k1 ?k2 ?k3 ?k4 ?k5 ?k6 ?o1 ?o2 ?o3 ?o4 ?o5 ?o6 ?o7 ?k8 ?k9 ?_ ?_)
    (case k1 => k_asm)
    (case k2 => k_asm)
    (case k3 => k_asm)
    (case k4 => k_asm)
    (case k5 => k_asm)
    (case k6 => first | exact rfl | assumption)
    (case o1 => assumption)
    (case o2 => assumption)
    (case o3 => assumption)
    (case o4 => assumption)
    (case o5 => assumption)
    (case o6 => assumption)
    (case o7 => assumption)
    (case k8 => ktr_room)
    (case k9 => ktr_units)
    all_goals k_steps
    · rename_i hlt tb t2' t3' h3 tk3 h4 a9 h5 F9 N9 l9
      obtain ⟨ta, tb', n', N10⟩ : ∃ (ta tb' : Tok) (n' : Nat), News _ _ h5 ((a9, tup2 (cAt ds pos (i + 1)) ta (1 + (i : Int)) tb' n') :: (rx, instObj 91 rdx) :: (rdx, rdObj w k3 k4 k5 dl (pos + (i + 1)) t2' t3') :: (dl, listOf dvs.toArray dn) :: (I, oI) :: (x, instObj 138 dx) :: (dx, decObj w k1 k2 sd lg t) :: (sd, so) :: rest) := ⟨_, _, _, N9⟩
      clear N9
      have hTn : ∀ p ∈ TT, p ∈ (a9, tup2 (cAt ds pos (i + 1)) ta (1 + (i : Int)) tb' n') :: (rx, instObj 91 rdx) :: (rdx, rdObj w k3 k4 k5 dl (pos + (i + 1)) t2' t3') :: (dl, listOf dvs.toArray dn) :: (I, oI) :: (x, instObj 138 dx) :: (dx, decObj w k1 k2 sd lg t) :: (sd, so) :: rest :=
        fun p hp => .tail _ (.tail _ (.tail _ (.tail _ (.tail _ (.tail _ (.tail _ (.tail _ (hTT p hp))))))))
      have hsm : (sd, so) ∈ (a9, tup2 (cAt ds pos (i + 1)) ta (1 + (i : Int)) tb' n') :: (rx, instObj 91 rdx) :: (rdx, rdObj w k3 k4 k5 dl (pos + (i + 1)) t2' t3') :: (dl, listOf dvs.toArray dn) :: (I, oI) :: (x, instObj 138 dx) :: (dx, decObj w k1 k2 sd lg t) :: (sd, so) :: rest :=
        .tail _ (.tail _ (.tail _ (.tail _ (.tail _ (.tail _ (.tail _ (.head _)))))))
      by_cases hit : ∃ j, j < ql.length ∧ cdOf ql j = cAt ds pos (i + 1) ∧ (plAt ql j).1 = 1 + (i : Int)
      · obtain ⟨j, hj, e1, e2⟩ := hit
        refine ktab_in_yes hq hS (by ktr_units) N10 hsm hK hTn lo (.head _) hj e1 e2 ?_
        k_steps
        rename_i b9 h7 F11 N11 l11
        obtain ⟨tc9, td9, n9, N12⟩ : ∃ (tc9 td9 : Tok) (n9 : Nat), News _ _ h7 ((b9, tup2 (cAt ds pos (i + 1)) tc9 (1 + (i : Int)) td9 n9) :: (a9, tup2 (cAt ds pos (i + 1)) ta (1 + (i : Int)) tb' n') :: (rx, instObj 91 rdx) :: (rdx, rdObj w k3 k4 k5 dl (pos + (i + 1)) t2' t3') :: (dl, listOf dvs.toArray dn) :: (I, oI) :: (x, instObj 138 dx) :: (dx, decObj w k1 k2 sd lg t) :: (sd, so) :: rest) := ⟨_, _, _, N11⟩
        refine ktab_item hq hS (by ktr_units) N12 (.tail _ hsm) hK (fun p hp => .tail _ (hTn p hp)) (.head _) hj e1 e2 fun t' => ?_
        k_steps
        rename_i kF kN _ _
        refine ret i j t2' t3' t' _ _ (by omega) hno hj e1 (by omega) (by omega) kF (fun p hp => kN p ?_)
        refine .tail _ (.tail _ ?_)
        rcases List.mem_cons.mp hp with rfl | hp
        · exact .head _
        rcases List.mem_cons.mp hp with rfl | hp
        · exact .tail _ (.head _)
        rcases List.mem_cons.mp hp with rfl | hp
        · exact .tail _ (.tail _ (.head _))
        · exact .tail _ (.tail _ (.tail _ (.tail _ hp)))
      · have hno2 : NoHit ql (cAt ds pos (i + 1)) (1 + (i : Int)) := fun j hj e => hit ⟨j, hj, e⟩
        refine ktab_in_no hq hS (by ktr_units) N10 hsm hK hTn lo (.head _) hno2 ?_
        k_steps
        refine unr_end (news' := (rx, instObj 91 rdx) :: (rdx, rdObj w k3 k4 k5 dl (pos + (i + 1)) t2' t3') :: (dl, listOf dvs.toArray dn) :: (x, instObj 138 dx) :: (dx, decObj w k1 k2 sd lg t) :: (sd, so) :: rest) F9 N10 (.tail _ (.tail _ (.tail _ (.tail _ (.head _))))) (fun p hp => ?_) (fun p hp => ?_) trivial ⟨t2', t3', rfl, by omega, fun i' q1 q2 => ?_, ⟨_, rfl⟩, fun y q1 q2 => ?_⟩
        · refine .tail _ ?_
          rcases List.mem_cons.mp hp with rfl | hp
          · exact .head _
          rcases List.mem_cons.mp hp with rfl | hp
          · exact .tail _ (.head _)
          rcases List.mem_cons.mp hp with rfl | hp
          · exact .tail _ (.tail _ (.head _))
          · exact .tail _ (.tail _ (.tail _ (.tail _ hp)))
        · rcases List.mem_cons.mp hp with rfl | hp
          · exact Nat.ne_of_lt (hI _ (.head _))
          rcases List.mem_cons.mp hp with rfl | hp
          · exact Nat.ne_of_lt (hI (rdx, rdObj w k3 k4 k5 dl pos _ _) (.tail _ (.head _)))
          rcases List.mem_cons.mp hp with rfl | hp
          · exact Nat.ne_of_lt (hI _ (.tail _ (.tail _ (.head _))))
          · exact Nat.ne_of_lt (hI p (.tail _ (.tail _ (.tail _ hp))))
        · by_cases q : i' ≤ i
          · exact hno i' q1 q
          · obtain rfl : i' = i + 1 := by omega
            have e : ((i + 1 : Nat) : Int) = 1 + (i : Int) := by omega
            rw [e]
            exact hno2
        · simp only [if_neg q1, if_neg q2]
    · rename_i hge _ _ _ _ _ _ _ _ _ _ _ F9 R9 U9
      refine fe_leave2 (by assumption) F9 R9 U9 fun h6 R6 U6 => ?_
      refine cut i (by omega) (by omega) hno _ _ _ _ _ _ _ _ _ _ _ (by assumption) (raisedD_tail R6 fun p hp => ?_) U6
      exact .tail _ (.tail _ (.tail _ (.tail _ (.tail _ (.tail _ (.tail _ hp))))))
  case done =>
    rintro m news ⟨t2, t3, rfl, hpi, hno, ⟨tc, hc⟩, hm⟩ h tk F1 N1
    obtain ⟨u1, rfl⟩ := fr11 hc hm
    clear hc hm
    rw [List.length_map, List.length_range] at hno hpi N1
    k_steps
    refine ⟨?_⟩
    k_dflt (refine' fe_make _ _ _ _ _ _ _ _ _ _ _ _ _ _ _ _ _ _ _ _ ?k1 ?k2 ?k3 ?k4 ?k5 ?k6 ?k7 ?k8 ?_)
    (case k1 => k_asm)
    (case k2 => k_asm)
    (case k3 => k_asm)
    (case k4 => k_asm)
    (case k5 => k_asm)
    (case k6 => first | exact rfl | assumption)
    (case k7 => ktr_room)
    (case k8 => ktr_units)
    intro x' t' dx' k1' k2' h' tk' F9 N9 l1 l2 l3
    refine ⟨x', _, _, rfl, Frag.In.keeps (by assumption) F9.keep, (N9 _ (.tail _ (.head _))).1, rfl, rfl, rfl, ?_⟩
    k_steps
    refine fe_leave1 (by assumption) F9 N9 (Nat.ne_of_lt l2) (Nat.ne_of_gt l3) (Nat.ne_of_gt (Nat.lt_trans l2 l3)) (fun q hq => ?_) fun h' R U => ?_
    · have h1 := l1 q hq
      exact ⟨Nat.ne_of_lt (Nat.lt_trans h1 l2), Nat.ne_of_lt h1⟩
    · refine bad hpi hno _ _ _ _ _ _ _ _ _ _ _ (by assumption) (raisedD_tail R fun p hp => ?_) U
      exact .tail _ (.tail _ (.tail _ (.tail _ (.tail _ (.tail _ hp)))))
end
end
section
open PySem PySem.W PyProof.Rows PySem.Calls PySem.Spec
set_option maxRecDepth 100000
theorem topOff8 : True := by
  w_top off
  trivial
theorem fdiv16 : ∀ j : Nat, j < 4 → Int.fdiv 16 (2 ^ (1 + (j : Int)).toNat) = ((16 / 2 ^ (j + 1) : Nat) : Int)
  | 0, _ => by decide
  | 1, _ => by decide
  | 2, _ => by decide
  | 3, _ => by decide
  | n+4, h => by omega
theorem div16_le (j : Nat) : 16 / 2 ^ (j + 1) ≤ 8 := by
  have h : 2 ^ 1 ≤ 2 ^ (j + 1) := Nat.pow_le_pow_right (by decide) (by omega)
  exact Nat.le_trans (Nat.div_le_div_left h (by decide)) (by decide)
theorem foldl_rep (v : Value) (k : Nat) : List.foldl (fun x1 x2 => x1 ++ x2) #[] (List.replicate (if (#[v] : Array Value).isEmpty = true then 0 else k) #[v]) = (List.replicate k v).toArray := by
  rw [if_neg (by simp)]
  have key : ∀ (k : Nat) (acc : List Value), List.foldl (fun x1 x2 => x1 ++ x2) acc.toArray (List.replicate k #[v]) = (acc ++ List.replicate k v).toArray := by
    intro k
    induction k with
    | zero => intro acc; simp
    | succ k ih =>
      intro acc
      rw [List.replicate_succ, List.foldl_cons]
      have e : acc.toArray ++ #[v] = (acc ++ [v]).toArray := by simp
      rw [e, ih, List.append_assoc]
      rfl
  exact key k []
theorem fr_to {g h : Heap} {L : Addr} {m m' : Str → Option Value} (F : Fr g L h m) (e : ∀ y, m y = m' y) : Fr g L h m' := (funext e : m = m') ▸ F
theorem fr_self2 {g h : Heap} {L : Addr} {m : Str → Option Value} (F : Fr g L h m) {x1 x2 : Str} {v1 v2 : Option Value} (e1 : m x1 = v1) (e2 : m x2 = v2) :
    ∃ bm : Str → Option Value, Fr g L h (fun y => if y = x1 then v1 else if y = x2 then v2 else bm y) := by
  refine ⟨m, ?_⟩
  have : (fun y => if y = x1 then v1 else if y = x2 then v2 else m y) = m := by
    funext y
    by_cases q : y = x1
    · rw [if_pos q, q, e1]
    rw [if_neg q]
    by_cases q : y = x2
    · rw [if_pos q, q, e2]
    rw [if_neg q]
  rw [this]
  exact F
/-- the rows of four bits, dealt out -/
noncomputable def shareIn (ns : List Int) (size : Nat) : Nat → List (Int × Int)
  | 0 => []
  | i+1 => shareIn ns size i ++ (if ns.getD i 0 = (size : Int) then List.replicate (16 / 2 ^ size) ((i : Int), (size : Int)) else [])
noncomputable def shareTo (ns : List Int) : Nat → List (Int × Int)
  | 0 => []
  | j+1 => shareTo ns j ++ shareIn ns (j+1) ns.length
theorem shareIn_len (ns : List Int) (j : Nat) : ∀ i, (shareIn ns (j + 1) i).length ≤ 8 * i
  | 0 => Nat.le_refl _
  | i+1 => by
    have := shareIn_len ns j i
    have h2 := div16_le j
    rw [shareIn, List.length_append]
    split
    · rw [List.length_replicate]; omega
    · rw [List.length_nil]; omega
theorem shareTo_len (ns : List Int) : ∀ j, (shareTo ns j).length ≤ j * (8 * ns.length)
  | 0 => by rw [shareTo]; simp
  | j+1 => by
    have h1 := shareTo_len ns j
    have h2 := shareIn_len ns j ns.length
    rw [shareTo, List.length_append, Nat.add_mul]
    omega
theorem datAll_rep {news : List (Addr × Obj)} {v : Value} {d : Dat} (h : DatIn news v d) : ∀ k, DatAll news (List.replicate k v) (List.replicate k d)
  | 0 => .nil
  | k+1 => .cons h (datAll_rep h k)
section
variable {prog : Program} {w : World} {A : Around} {E : Value → Shared → Prop} {s : Shared} {h₀ : Heap} {L : Addr} {m : Str → Option Value} {news : List (Addr × Obj)}
theorem add_lists2 {l b : Addr} {vs ws : List Value} {Q : Value → Shared → Prop} (F : Fr h₀ L s.heap m) (N : News h₀ L s.heap news) (hl : s.heap.IsList l vs.toArray) (hb : s.heap.IsList b ws.toArray) (hsz : vs.length + ws.length ≤ sizeLine)
    (h : ∀ (R : Addr) (k : Nat) h', Fr h₀ L h' m → News h₀ L h' ((R, listOf (vs ++ ws).toArray k) :: news) → (∀ p ∈ news, p.1 < R) → Q (.ref R) { s with heap := h' }) :
    wpAny (model prog w) A (binaryOp .Add (.ref l) (.ref b)) Q E s :=
  add_lists (hsz := hsz) F N hl hb fun h' F' N' => h _ _ h' F' N' fun p hp => Heap.lt_size (N p hp).1
end
section
set_option maxHeartbeats 4000000 in
theorem share_K {prog : Program} {w : World} {p : Program} {loose : List Str} {mean : ExcName → Option Value} {mg mb : Str → Option Value}
    (dp un : Nat) (gd : Option (List Code)) (cn : Str) (cs : Scope) (a : Addr) (ccd : Value) (cl : List (Str × Addr)) (outer : List Env) (A₀ : Around) (base h₀ : Heap) (L : Addr) (m : Str → Option Value) (s : Shared) (Q E : Value → Shared → Prop)
    (l : Addr) (vs : List Value) (ns : List Int) (nn : Nat) (rest : List (Addr × Obj))
    (B : Below A₀ base outer h₀) (F : Fr h₀ L s.heap m) (X : (hd.heap_39 w.params).In h₀)
    (N : News h₀ L s.heap ((l, listOf vs.toArray nn) :: rest))
    (T : Top p loose mean mg mb h₀) (hk : cs.kind = .function)
    (hi : IntsAre vs ns) (hns : ns.length ≤ 6) (hb : ∀ v ∈ ns, 0 ≤ v ∧ v < 5)
    (hd : dp + 6 < recursionLimit) (hu : un + 30 < cLine)
    (ret : ∀ (D : Addr) (k : Nat) (h' : Heap) (tk' : Nat) (out : List Value) (tl : List (Addr × Obj)), Fr h₀ L h' m → News h₀ L h' ((D, listOf out.toArray k) :: (tl ++ (l, listOf vs.toArray nn) :: rest)) → DatAll tl out ((shareTo ns 4).map pairD) → Q (.ref D) { s with heap := h', toks := tk' }) :
    wpAny (model prog w) (ktrTop dp un gd cn cs L a ccd cl outer) (call (.ref 149) [.ref l]) Q E s := by
  refine wpAny_call ?_
  k_dflt cell_enter
  k_steps
  refine ⟨?_⟩
  with_unfolding_all refine' For_turns ‹Fr _ _ _ _› ?_
  k_steps
  rename_i t₁ u₁ v₁ hr F9 N9 hk9
  obtain ⟨D0, bm, F10, N10⟩ : ∃ (D0 : Addr) (bm : Str → Option Value), Fr _ _ _ (fun y => if y = Str.ofString "row" then some (Value.ref D0) else if y = Str.ofString "lengths" then some (Value.ref l) else bm y) ∧ News _ _ _ ((l, listOf vs.toArray nn) :: (D0, listOf ([] : List Value).toArray 0) :: ([] ++ rest)) := by
    obtain ⟨bm, F⟩ := fr_self2 (v1 := some (Value.ref _)) (v2 := some (Value.ref l)) F9 (x1 := Str.ofString "row") (x2 := Str.ofString "lengths") rfl rfl
    exact ⟨_, bm, F, fun p hp => N9 p (by
      rcases List.mem_cons.mp hp with rfl | hp
      · exact .tail _ (.head _)
      rcases List.mem_cons.mp hp with rfl | hp
      · exact .head _
      · exact .tail _ (.tail _ hp))⟩
  refine iter_rangeTurns (n := 4) (by rfl) hr (by decide) (by decide) F10 N10 fun I hI => ?_
  clear F9 N9 F10 hr hk9
  refine items_ind _ (fun j m news => ∃ (D : Addr) (k : Nat) (out : List Value) (tl : List (Addr × Obj)), news = (l, listOf vs.toArray nn) :: (D, listOf out.toArray k) :: (tl ++ rest) ∧ DatAll tl out ((shareTo ns j).map pairD) ∧ (∀ p ∈ news, p.1 ≠ I) ∧ m (Str.ofString "row") = some (Value.ref D) ∧
    ∀ y, y ≠ Str.ofString "size" → y ≠ Str.ofString "one" → y ≠ Str.ofString "row" → m y = if y = Str.ofString "lengths" then some (Value.ref l) else bm y) ?start ?step ?done
  case start => exact ⟨D0, 0, [], [], rfl, .nil, fun p hp => Nat.ne_of_lt (hI p hp), rfl, fun y h1 h2 h3 => by rw [if_neg h3]⟩
  case step =>
    rintro j m news a hx ⟨D, k, out, tl, rfl, hD, hne, hrow, hm⟩ v h tk hIs F1
    obtain ⟨u1, u2, rfl⟩ := fr21 hrow hm
    clear hrow hm
    rw [List.getElem?_map] at hx
    obtain ⟨j2, hj2, rfl⟩ := Option.map_eq_some_iff.mp hx
    obtain ⟨hjl, rfl⟩ : j < 4 ∧ j = j2 := by
      obtain ⟨q1, q2⟩ := List.getElem?_eq_some_iff.mp hj2
      rw [List.getElem_range] at q2
      rw [List.length_range] at q1
      exact ⟨q1, q2⟩
    obtain ⟨tsz, rfl⟩ := hIs
    refine AllObj.cons fun oI hcI => AllObj.nil fun N1 => ?_
    replace N1 : News _ _ h ((I, oI) :: (l, listOf vs.toArray nn) :: (D, listOf out.toArray k) :: (tl ++ rest)) := N1
    k_steps
    refine ⟨?_⟩
    with_unfolding_all refine' For_turns ‹Fr _ _ _ _› ?_
    k_steps
    rename_i t₂ u₂ v₂ hr2 F11 N11 hk11
    obtain ⟨tsz2, F12⟩ : ∃ (tsz2 : Tok), Fr _ _ _ (fun y => if y = Str.ofString "row" then some (Value.ref D) else if y = Str.ofString "size" then some (Value.int (1 + (j : Int)) tsz2) else if y = Str.ofString "lengths" then some (Value.ref l) else if y = Str.ofString "one" then u2 else bm y) := by
      refine ⟨tsz, fr_to F11 fun y => ?_⟩
      by_cases h1 : y = Str.ofString "row"
      · subst h1; rfl
      by_cases h2 : y = Str.ofString "size"
      · subst h2; rfl
      by_cases h3 : y = Str.ofString "lengths"
      · subst h3; rfl
      by_cases h4 : y = Str.ofString "one"
      · subst h4; rfl
      simp only [if_neg h1, if_neg h2, if_neg h3, if_neg h4]
    refine iter_rangeTurns (n := ns.length) (by rfl) hr2 (small_one (by omega) (by omega) (by omega) (by omega)) (by rw [rangeSize_nat]; congr 1) F12 N11 fun I2 hI2 => ?_
    clear F11 N11 F12 hr2 hk11 F1 N1
    have hne2 : ∀ p ∈ (l, listOf vs.toArray nn) :: (D, listOf out.toArray k) :: (tl ++ rest), p.1 ≠ I := hne
    have hI12 : I < I2 := hI2 _ (.head _)
    have hIr : ∀ p ∈ (l, listOf vs.toArray nn) :: rest, p.1 < I := fun p hp => by
      rcases List.mem_cons.mp hp with rfl | hp
      · exact hI _ (.head _)
      · exact hI _ (.tail _ (.tail _ hp))
    refine items_ind _ (fun i m news => ∃ (D : Addr) (k : Nat) (out : List Value) (tl : List (Addr × Obj)), news = (I, oI) :: (l, listOf vs.toArray nn) :: (D, listOf out.toArray k) :: (tl ++ rest) ∧ DatAll tl out ((shareTo ns j ++ shareIn ns (j + 1) i).map pairD) ∧ (∀ p ∈ news, p.1 ≠ I2) ∧ (∀ p ∈ (l, listOf vs.toArray nn) :: (D, listOf out.toArray k) :: (tl ++ rest), p.1 ≠ I) ∧ m (Str.ofString "row") = some (Value.ref D) ∧
      ∀ y, y ≠ Str.ofString "one" → y ≠ Str.ofString "row" → m y = if y = Str.ofString "size" then some (Value.int (1 + (j : Int)) tsz2) else if y = Str.ofString "lengths" then some (Value.ref l) else if y = Str.ofString "one" then u2 else bm y) ?start2 ?step2 ?done2
    case start2 => exact ⟨D, k, out, tl, rfl, by rw [shareIn, List.append_nil]; exact hD, fun p hp => Nat.ne_of_lt (hI2 p hp), hne2, rfl, fun y h1 h2 => by rw [if_neg h2]⟩
    case step2 =>
      clear hD hne hne2
      rintro i m news a hx ⟨D, k, out, tl, rfl, hD, hne, hne2, hrow, hm⟩ v h tk hIs F1
      obtain ⟨u3, rfl⟩ := fr11 hrow hm
      clear hrow hm
      rw [List.getElem?_map] at hx
      obtain ⟨i2, hi2, rfl⟩ := Option.map_eq_some_iff.mp hx
      obtain ⟨hil, rfl⟩ : i < ns.length ∧ i = i2 := by
        obtain ⟨q1, q2⟩ := List.getElem?_eq_some_iff.mp hi2
        rw [List.getElem_range] at q2
        rw [List.length_range] at q1
        exact ⟨q1, q2⟩
      obtain ⟨ti, e⟩ := hIs
      have e0 : (0 : Int) + (i : Int) = i := Int.zero_add _
      rw [e0] at e
      subst e
      refine AllObj.cons fun oI2 hcI2 => AllObj.nil fun N1 => ?_
      replace N1 : News _ _ h ((I2, oI2) :: (I, oI) :: (l, listOf vs.toArray nn) :: (D, listOf out.toArray k) :: (tl ++ rest)) := N1
      have g0 : 0 ≤ (i : Int) := by omega
      have g1 : (i : Int) < ns.length := by omega
      have g2 : 1 + (j : Int) ≤ 4 := by omega
      have g3 : 1 ≤ 1 + (j : Int) := by omega
      k_steps
      · rename_i heq D1 h5 lD1 l1a h6 F9 N9 l1b
        rw [Int.toNat_natCast] at heq
        obtain ⟨t9a, n9a, o9, ho9, N9'⟩ : ∃ (t9 : Tok) (n : Nat) (o9 : Obj), o9 = ({ cls := .type "tuple", data := .seq [Value.int (i : Int) t9, Value.int (1 + (j : Int)) tsz2].toArray n } : Obj) ∧ News _ _ h6 ((l1a, listOf #[Value.ref D1] 0) :: (D1, o9) :: (I2, oI2) :: (I, oI) :: (l, listOf vs.toArray nn) :: (D, listOf out.toArray k) :: (tl ++ rest)) := ⟨_, _, _, rfl, N9⟩
        clear N9
        have hol : out.length ≤ 300 := by
          have q1 := hD.length
          rw [List.length_map, List.length_append] at q1
          have q2 := shareTo_len ns j
          have q3 : (shareIn ns (j + 1) i).length ≤ 8 * i := shareIn_len ns j i
          have q4 : j * (8 * ns.length) ≤ 3 * 48 := Nat.mul_le_mul (by omega) (by omega)
          omega
        obtain ⟨k9, hk9⟩ : ∃ k9, k9 = 16 / 2 ^ (j + 1) := ⟨_, rfl⟩
        have hk8 : k9 ≤ 8 := hk9 ▸ div16_le j
        rw [fdiv16 j hjl, ← hk9]
        refine mul_list F9 N9' (N9' _ (.head _)).1 (by omega) (by omega) (by rw [Int.toNat_natCast]; show 1 * k9 ≤ _; omega) fun h7 F10 N10 => ?_
        have hadd := N10.isList (.head _)
        rw [foldl_rep] at hadd
        have hDl := N10.isList (.tail _ (.tail _ (.tail _ (.tail _ (.tail _ (.tail _ (.head _)))))))
        refine add_lists2 F10 N10 hDl hadd (by rw [List.length_replicate, sizeLine_eq, Int.toNat_natCast]; omega) fun R9 k0 h8 F11 N11 lR9 => ?_
        rw [Int.toNat_natCast] at N11
        k_steps
        rename_i F12 N12
        have off2 : ∀ p ∈ (I, oI) :: (l, listOf vs.toArray nn) :: (R9, listOf (out ++ List.replicate k9 (Value.ref D1)).toArray k0) :: (((D1, o9) :: tl) ++ rest), p.1 ≠ I2 := by
          intro p hp
          rcases List.mem_cons.mp hp with rfl | hp
          · exact hne _ (.head _)
          rcases List.mem_cons.mp hp with rfl | hp
          · exact hne _ (.tail _ (.head _))
          rcases List.mem_cons.mp hp with rfl | hp
          · exact Nat.ne_of_gt (lR9 _ (.tail _ (.tail _ (.tail _ (.head _)))))
          rcases List.mem_cons.mp hp with rfl | hp
          · exact Nat.ne_of_gt lD1.1
          · exact hne p (.tail _ (.tail _ (.tail _ hp)))
        have off1 : ∀ p ∈ (l, listOf vs.toArray nn) :: (R9, listOf (out ++ List.replicate k9 (Value.ref D1)).toArray k0) :: (((D1, o9) :: tl) ++ rest), p.1 ≠ I := by
          intro p hp
          rcases List.mem_cons.mp hp with rfl | hp
          · exact hne2 _ (.head _)
          rcases List.mem_cons.mp hp with rfl | hp
          · exact Nat.ne_of_gt (lR9 _ (.tail _ (.tail _ (.tail _ (.tail _ (.head _))))))
          rcases List.mem_cons.mp hp with rfl | hp
          · exact Nat.ne_of_gt lD1.2.1
          · exact hne2 p (.tail _ (.tail _ hp))
        refine unr_end (news' := (I, oI) :: (l, listOf vs.toArray nn) :: (R9, listOf (out ++ List.replicate k9 (Value.ref D1)).toArray k0) :: (((D1, o9) :: tl) ++ rest)) F12 N12 (.tail _ (.tail _ (.tail _ (.tail _ (.head _))))) (fun p hp => ?a2) off2 trivial ⟨R9, k0, _, (D1, o9) :: tl, rfl, ?a4, off2, off1, rfl, fun y h1 h2 => ?a7⟩
        case a7 => simp only [if_neg h1, if_neg h2]
        case a4 =>
          subst ho9
          rw [shareIn, ← List.append_assoc, if_pos (by omega), List.map_append]
          have e2 : ((j + 1 : Nat) : Int) = 1 + (j : Int) := by omega
          rw [e2, List.map_replicate, ← hk9]
          exact DatAll.append (DatAll.mono (fun p hp => .tail _ hp) hD) (datAll_rep (DatIn.tuple (.head _) (.cons (.int _ _) (.cons (.int _ _) .nil))) k9)
        case a2 =>
          rcases List.mem_cons.mp hp with rfl | hp
          · exact .tail _ (.tail _ (.tail _ (.tail _ (.tail _ (.head _)))))
          rcases List.mem_cons.mp hp with rfl | hp
          · exact .tail _ (.tail _ (.tail _ (.tail _ (.tail _ (.tail _ (.head _))))))
          rcases List.mem_cons.mp hp with rfl | hp
          · exact .head _
          rcases List.mem_cons.mp hp with rfl | hp
          · exact .tail _ (.tail _ (.tail _ (.head _)))
          · exact .tail _ (.tail _ (.tail _ (.tail _ (.tail _ (.tail _ (.tail _ (.tail _ hp)))))))
      · rename_i F9 N9 t9 heq
        rw [Int.toNat_natCast] at heq
        refine unr_end (news' := (I, oI) :: (l, listOf vs.toArray nn) :: (D, listOf out.toArray k) :: (tl ++ rest)) F9 N9 (.head _) (fun p hp => .tail _ hp) hne trivial ⟨D, k, out, tl, rfl, ?_, hne, hne2, rfl, fun y h1 h2 => ?_⟩
        · rw [shareIn, if_neg (by omega), List.append_nil]
          exact hD
        · simp only [if_neg h1, if_neg h2]
    case done2 =>
      clear hD hne hne2
      rintro m news ⟨D, k, out, tl, rfl, hD, hne, hne2, hrow, hm⟩ h tk F1 N1
      obtain ⟨u3, rfl⟩ := fr11 hrow hm
      clear hrow hm
      rw [List.length_map, List.length_range] at hD
      k_steps
      refine unr_end (news' := (l, listOf vs.toArray nn) :: (D, listOf out.toArray k) :: (tl ++ rest)) F1 N1 (.head _) (fun p hp => .tail _ hp) hne2 trivial ⟨D, k, out, tl, rfl, by rw [shareTo]; exact hD, hne2, rfl, fun y h1 h2 h3 => ?_⟩
      simp only [if_neg h1, if_neg h2, if_neg h3]
  case done =>
    rintro m news ⟨D, k, out, tl, rfl, hD, hne, hrow, hm⟩ h tk F1 N1
    obtain ⟨u1, u2, rfl⟩ := fr21 hrow hm
    clear hrow hm
    rw [List.length_map, List.length_range] at hD
    k_steps
    rename_i kF kN _ _
    refine ret D k _ _ out tl kF (fun p hp => kN p ?_) hD
    rcases List.mem_cons.mp hp with rfl | hp
    · exact .tail _ (.head _)
    rcases List.mem_append.mp hp with hp | hp
    · exact .tail _ (.tail _ (List.mem_append.mpr (.inl hp)))
    rcases List.mem_cons.mp hp with rfl | hp
    · exact .head _
    · exact .tail _ (.tail _ (List.mem_append.mpr (.inr hp)))
end
end
section
open PySem PySem.W PyProof.Rows PySem.Calls PySem.Spec
set_option maxRecDepth 100000
theorem topOff9 : True := by
  w_top off
  trivial
theorem wt_is {j : Nat} {n : Int} (h : [128, 64, 32, 16, 8, 4, 2, 1][j]? = some n) : j < 8 ∧ n = 2 ^ (7 - j) ∧ n ≤ 128 := by
  match j, h with
  | 0, h => cases h; exact ⟨by decide, by decide, by decide⟩
  | 1, h => cases h; exact ⟨by decide, by decide, by decide⟩
  | 2, h => cases h; exact ⟨by decide, by decide, by decide⟩
  | 3, h => cases h; exact ⟨by decide, by decide, by decide⟩
  | 4, h => cases h; exact ⟨by decide, by decide, by decide⟩
  | 5, h => cases h; exact ⟨by decide, by decide, by decide⟩
  | 6, h => cases h; exact ⟨by decide, by decide, by decide⟩
  | 7, h => cases h; exact ⟨by decide, by decide, by decide⟩
  | k+8, h => cases h
theorem ints_snoc : ∀ {vs : List Value} {ns : List Int}, IntsAre vs ns → ∀ (x : Int) (t : Tok), IntsAre (vs ++ [Value.int x t]) (ns ++ [x])
  | _, _, .nil, x, t => .cons x t .nil
  | _, _, .cons m u h, x, t => .cons m u (ints_snoc h x t)
section
local macro_rules | `(tactic| walk_at "exec For Name Name cons nil") => `(tactic| (k_here; refine Fence.it ?_))
local macro_rules | `(tactic| walk_at "exec For Name List cons nil") => `(tactic| (k_here; refine Fence.it ?_))
set_option maxHeartbeats 4000000 in
theorem bits_K {prog : Program} {w : World} {p : Program} {loose : List Str} {mean : ExcName → Option Value} {mg mb : Str → Option Value}
    (dp un : Nat) (gd : Option (List Code)) (cn : Str) (cs : Scope) (a : Addr) (ccd : Value) (cl : List (Str × Addr)) (outer : List Env) (A₀ : Around) (base h₀ : Heap) (L : Addr) (m : Str → Option Value) (s : Shared) (Q E : Value → Shared → Prop)
    (l : Addr) (vs : List Value) (ns : List Int) (nn : Nat) (rest : List (Addr × Obj))
    (B : Below A₀ base outer h₀) (F : Fr h₀ L s.heap m) (X : (hd.heap_39 w.params).In h₀)
    (N : News h₀ L s.heap ((l, listOf vs.toArray nn) :: rest))
    (T : Top p loose mean mg mb h₀) (hk : cs.kind = .function)
    (hi : IntsAre vs ns) (hns : ns.length ≤ 3) (hb : ∀ v ∈ ns, 0 ≤ v ∧ v < 256)
    (hd : dp + 6 < recursionLimit) (hu : un + 30 < cLine)
    (ret : ∀ (D : Addr) (k : Nat) (h' : Heap) (tk' : Nat) (out : List Value), Fr h₀ L h' m → News h₀ L h' ((D, listOf out.toArray k) :: (l, listOf vs.toArray nn) :: rest) → IntsAre out ((List.range (8 * ns.length)).map (bitAt ns)) → Q (.ref D) { s with heap := h', toks := tk' }) :
    wpAny (model prog w) (ktrTop dp un gd cn cs L a ccd cl outer) (call (.ref 156) [.ref l]) Q E s := by
  refine wpAny_call ?_
  k_dflt cell_enter
  k_steps
  refine ⟨?_⟩
  with_unfolding_all refine' For_turns ‹Fr _ _ _ _› ?_
  k_steps
  rename_i D0 hh1 l1 hh2 F9 N9
  have hoD : OwnOff rest [D0] := fun p hp b hb => by
    rw [List.mem_singleton.mp hb]
    exact Nat.ne_of_lt (allLt_mem l1.2 p hp)
  obtain ⟨k0, bm, F10, N10⟩ : ∃ (k0 : Nat) (bm : Str → Option Value), Fr _ _ _ (fun y => if y = Str.ofString "found" then some (Value.ref D0) else bm y) ∧ News _ _ _ ((l, listOf vs.toArray nn) :: (D0, listOf ([] : List Value).toArray k0) :: rest) := by
    obtain ⟨bm, F⟩ := fr_self1 (v := some (Value.ref D0)) F9 (x := Str.ofString "found") rfl
    exact ⟨_, bm, F, fun p hp => N9 p (by
      rcases List.mem_cons.mp hp with rfl | hp
      · exact .tail _ (.head _)
      rcases List.mem_cons.mp hp with rfl | hp
      · exact .head _
      · exact .tail _ (.tail _ hp))⟩
  refine iter_listTurns (by rfl) F10 N10 (.head _) rfl rfl fun I hI => ?_
  clear F9 N9 F10
  refine items_ind _ (fun i m news => ∃ (k : Nat) (out : List Value), news = (l, listOf vs.toArray nn) :: (D0, listOf out.toArray k) :: rest ∧ IntsAre out ((List.range (8 * i)).map (bitAt ns)) ∧
    ∀ y, y ≠ Str.ofString "value" → y ≠ Str.ofString "weight" → m y = if y = Str.ofString "found" then some (Value.ref D0) else bm y) ?start ?step ?done
  case start => exact ⟨k0, [], rfl, .nil, fun y h1 h2 => rfl⟩
  case step =>
    rintro i m news a hx ⟨k, out, rfl, hO, hm⟩ v h tk hIs F1
    obtain ⟨u1, u2, rfl⟩ := fr20 hm
    clear hm
    rw [List.getElem?_map] at hx
    obtain ⟨v', hv', rfl⟩ := Option.map_eq_some_iff.mp hx
    obtain rfl : v = v' := hIs
    obtain ⟨n, tv, hn, rfl⟩ : ∃ n t, ns[i]? = some n ∧ v = .int n t := by
      obtain ⟨n, t, e, q⟩ := hi.at i v hv'
      exact ⟨n, t, q, e⟩
    refine AllObj.cons fun oI hcI => AllObj.nil fun N1 => ?_
    replace N1 : News _ _ h ((I, oI) :: (l, listOf vs.toArray nn) :: (D0, listOf out.toArray k) :: rest) := N1
    k_steps
    refine ⟨?_⟩
    with_unfolding_all refine' For_turns ‹Fr _ _ _ _› ?_
    k_steps
    rename_i LW h11 F11 N11 l11
    obtain ⟨wvs, kw, hw, lI, lD, N12⟩ : ∃ (wvs : List Value) (kw : Nat), IntsAre wvs [128, 64, 32, 16, 8, 4, 2, 1] ∧ @LT.lt Nat _ I LW ∧ @LT.lt Nat _ D0 LW ∧ News _ _ _ ((LW, listOf wvs.toArray kw) :: (I, oI) :: (l, listOf vs.toArray nn) :: (D0, listOf out.toArray k) :: rest) :=
      ⟨_, _, .cons _ _ (.cons _ _ (.cons _ _ (.cons _ _ (.cons _ _ (.cons _ _ (.cons _ _ (.cons _ _ .nil))))))), l11.1, l11.2.2.1, N11⟩
    have hwl : wvs.length = 8 := hw.length
    obtain ⟨F12⟩ : Nonempty (Fr _ _ _ (fun y => if y = Str.ofString "value" then some (Value.int n tv) else if y = Str.ofString "found" then some (Value.ref D0) else if y = Str.ofString "weight" then u2 else bm y)) := by
      refine ⟨fr_to F11 fun y => ?_⟩
      by_cases h1 : y = Str.ofString "value"
      · subst h1; rfl
      by_cases h2 : y = Str.ofString "found"
      · subst h2; rfl
      by_cases h3 : y = Str.ofString "weight"
      · subst h3; rfl
      simp only [if_neg h1, if_neg h2, if_neg h3]
    refine iter_listTurns (by rfl) F12 N12 (.head _) rfl rfl fun I2 hI2 => ?_
    clear F11 N11 F12 F1 N1
    have iI2 : @LT.lt Nat _ I I2 := hI2 _ (.tail _ (.head _))
    have lI2 : @LT.lt Nat _ l I2 := hI2 _ (.tail _ (.tail _ (.head _)))
    have dI2 : @LT.lt Nat _ D0 I2 := hI2 (D0, listOf out.toArray k) (.tail _ (.tail _ (.tail _ (.head _))))
    have wI2 : @LT.lt Nat _ LW I2 := hI2 _ (.head _)
    have rI2 : ∀ p ∈ rest, p.1 < I2 := fun p hp => hI2 p (.tail _ (.tail _ (.tail _ (.tail _ hp))))
    have dI : @LT.lt Nat _ D0 I := hI (D0, listOf ([] : List Value).toArray k0) (.tail _ (.head _))
    refine items_ind _ (fun j m news => ∃ (k : Nat) (out : List Value), news = (LW, listOf wvs.toArray kw) :: (I, oI) :: (l, listOf vs.toArray nn) :: (D0, listOf out.toArray k) :: rest ∧ IntsAre out ((List.range (8 * i + j)).map (bitAt ns)) ∧
      ∀ y, y ≠ Str.ofString "weight" → m y = if y = Str.ofString "value" then some (Value.int n tv) else if y = Str.ofString "found" then some (Value.ref D0) else if y = Str.ofString "weight" then u2 else bm y) ?start2 ?step2 ?done2
    case start2 => exact ⟨k, out, rfl, hO, fun y h1 => rfl⟩
    case step2 =>
      clear hO
      rintro j m news a hx ⟨k, out, rfl, hO, hm⟩ v h tk hIs F1
      obtain ⟨u3, rfl⟩ := fr10 hm
      clear hm
      rw [List.getElem?_map] at hx
      obtain ⟨v', hv2, rfl⟩ := Option.map_eq_some_iff.mp hx
      obtain rfl : v = v' := hIs
      obtain ⟨wt, tw, hwt, rfl⟩ : ∃ n t, [128, 64, 32, 16, 8, 4, 2, 1][j]? = some n ∧ v = .int n t := by
        obtain ⟨n, t, e, q⟩ := hw.at j v hv2
        exact ⟨n, t, q, e⟩
      obtain ⟨hj8, hwe, hw1⟩ := wt_is hwt
      have hw0 : 0 < wt := by rw [hwe]; exact Int.pow_pos (by decide)
      have hol : out.length ≤ 24 := by
        have q := hO.length
        rw [List.length_map, List.length_range] at q
        have : i < ns.length := (List.getElem?_eq_some_iff.mp hn).1
        omega
      refine AllObj.cons fun oI2 hcI2 => AllObj.nil fun N1 => ?_
      replace N1 : News _ _ h ((I2, oI2) :: (LW, listOf wvs.toArray kw) :: (I, oI) :: (l, listOf vs.toArray nn) :: (D0, listOf out.toArray k) :: rest) := N1
      have hwn : wt ≠ 0 := by omega
      obtain ⟨hn0, hn1⟩ := hb n (List.mem_of_getElem? hn)
      k_steps
      rename_i F9 N9
      obtain ⟨t9, N10⟩ : ∃ (t9 : Tok), News _ _ _ ((I2, oI2) :: (LW, listOf wvs.toArray kw) :: (I, oI) :: (l, listOf vs.toArray nn) :: (D0, listOf (out.toArray.push (Value.int ((n.fdiv wt).fmod 2) t9)) (k + 1)) :: rest) := ⟨_, N9⟩
      rw [List.push_toArray] at N10
      have eb : (n.fdiv wt).fmod 2 = bitAt ns (8 * i + j) := by
        rw [hwe, bit_val, bitAt]
        have e1 : (8 * i + j) / 8 = i := by omega
        have e2 : (8 * i + j) % 8 = j := by omega
        rw [e1, e2, List.getD_eq_getElem?_getD, hn]
        rfl
      refine unr_end (news' := (LW, listOf wvs.toArray kw) :: (I, oI) :: (l, listOf vs.toArray nn) :: (D0, listOf (out ++ [Value.int ((n.fdiv wt).fmod 2) t9]).toArray (k + 1)) :: rest) F9 N10 (.head _) (fun p hp => .tail _ hp) (fun p hp => ?_) ⟨.head _, trivial⟩ ⟨k + 1, _, rfl, ?_, fun y h1 => ?_⟩
      · rcases List.mem_cons.mp hp with rfl | hp
        · exact Nat.ne_of_lt wI2
        rcases List.mem_cons.mp hp with rfl | hp
        · exact Nat.ne_of_lt iI2
        rcases List.mem_cons.mp hp with rfl | hp
        · exact Nat.ne_of_lt lI2
        rcases List.mem_cons.mp hp with rfl | hp
        · exact Nat.ne_of_lt dI2
        · exact Nat.ne_of_lt (rI2 p hp)
      · have e : 8 * i + (j + 1) = (8 * i + j) + 1 := rfl
        rw [e, List.range_succ, List.map_append, eb]
        exact ints_snoc hO _ _
      · simp only [if_neg h1]
    case done2 =>
      clear hO
      rintro m news ⟨k, out, rfl, hO, hm⟩ h tk F1 N1
      obtain ⟨u3, rfl⟩ := fr10 hm
      clear hm
      rw [List.length_map, hwl] at hO
      k_steps
      refine unr_end (news' := (l, listOf vs.toArray nn) :: (D0, listOf out.toArray k) :: rest) F1 N1 (.tail _ (.head _)) (fun p hp => .tail _ (.tail _ hp)) (fun p hp => ?_) ⟨.head _, trivial⟩ ⟨k, out, rfl, hO, fun y h1 h2 => ?_⟩
      · rcases List.mem_cons.mp hp with rfl | hp
        · exact Nat.ne_of_lt (hI _ (.head _))
        rcases List.mem_cons.mp hp with rfl | hp
        · exact Nat.ne_of_lt dI
        · exact Nat.ne_of_lt (hI p (.tail _ (.tail _ hp)))
      · simp only [if_neg h1, if_neg h2]
  case done =>
    rintro m news ⟨k, out, rfl, hO, hm⟩ h tk F1 N1
    obtain ⟨u1, u2, rfl⟩ := fr20 hm
    clear hm
    rw [List.length_map, hi.length] at hO
    k_steps
    rename_i kF kN _ _
    refine ret D0 k _ _ out kF (fun p hp => kN p ?_) hO
    rcases List.mem_cons.mp hp with rfl | hp
    · exact .tail _ (.head _)
    rcases List.mem_cons.mp hp with rfl | hp
    · exact .head _
    · exact .tail _ (.tail _ hp)
end
end
section
open PySem PySem.W PyProof.Rows PySem.Calls PySem.Spec
set_option maxRecDepth 100000
theorem topOff10 : True := by
  w_top off
  trivial
section
set_option maxHeartbeats 4000000 in
theorem dec_K {prog : Program} {w : World} {p : Program} {loose : List Str} {mean : ExcName → Option Value} {mg mb : Str → Option Value}
    (dp un : Nat) (gd : Option (List Code)) (cn : Str) (cs : Scope) (a : Addr) (ccd : Value) (A₀ : Around) (base h₀ : Heap) (L : Addr) (m : Str → Option Value) (s : Shared) (Q E : Value → Shared → Prop)
    (l : Addr) (vs : List Value) (ns : List Int) (nn : Nat) (rest : List (Addr × Obj))
    (B : Below A₀ base [] h₀) (F : Fr h₀ L s.heap m) (X : (hd.heap_39 w.params).In h₀) (XB : (hd.heap_39 w.params).In base) (TB : Top p loose mean mg mb base)
    (N : News h₀ L s.heap ((l, listOf vs.toArray nn) :: rest))
    (T : Top p loose mean mg mb h₀) (hk : cs.kind = .function)
    (hi : IntsAre vs ns) (hns : ns.length ≤ 6) (hb : ∀ v ∈ ns, 0 ≤ v ∧ v < 5)
    (hd : dp + 10 < recursionLimit) (hu : un + 50 < cLine)
    (ret : ∀ (ql : List (Int × Int)) (x dx sd : Addr) (so : Obj) (k1 k2 t : Tok) (TT : List (Addr × Obj)) (h' : Heap) (tk' : Nat), ql.Perm (prsTo ns ns.length) → ql.Pairwise (fun p q => lexlt p q = true) → compB ql = true → KTab prog w TT so ql ql.length → (sd == sysModules) = false → Fr h₀ L h' m →
      News h₀ L h' ((x, instObj 138 dx) :: (dx, decObj w k1 k2 sd (bf ql ql.length) t) :: (sd, so) :: (TT ++ (l, listOf vs.toArray nn) :: rest)) → (∀ q ∈ (l, listOf vs.toArray nn) :: rest, q.1 < dx) → dx < x → (∀ q ∈ (x, instObj 138 dx) :: (dx, dictOf [] 0) :: (l, listOf vs.toArray nn) :: rest, q.1 < sd) → (∀ p ∈ TT, sd < p.1) → Q (.ref x) { s with heap := h', toks := tk' })
    (bad : ∀ (ql : List (Int × Int)), ql.Perm (prsTo ns ns.length) → ql.Pairwise (fun p q => lexlt p q = true) → compB ql = false → ∀ (t : Tok) (h' : Heap) (tk' : Nat), Fr h₀ L h' m → News h₀ L h' ((l, listOf vs.toArray nn) :: rest) → Q (.str (Str.ofString "bad_code") t) { s with heap := h', toks := tk' }) :
    wpAny (model prog w) (ktrTop dp un gd cn cs L a ccd [] []) (call (.ref 163) [.ref l]) Q E s := by
  refine wpAny_call ?_
  k_dflt (refine' code_defS0 (cn := cn) (cs := cs) (L := L) (a := a) (ccd := ccd) ?k1 ?k2 ?k3 ?k4 ?k5 ?kA ?k6 ?k7 ?k8 ?k9 ?kB ?_ ?cK ?c2 ?c3 ?c4 ?c5)
  (case kA => exact rfl)
  (case k2 => k_asm)
  (case k1 => k_asm)
  (case k3 => k_asm)
  (case k4 => k_asm)
  (case k5 => k_asm)
  (case k6 => k_is)
  (case k7 => k_is)
  (case k8 => ktr_room)
  (case k9 => exact BindsTo.of_eq rfl)
  (case kB => exact locs rfl)
  (case cK => assumption)
  (case c2 => exact rfl)
  (case c3 => exact rfl)
  (case c4 => exact rfl)
  (case c5 => decide)
  k_steps
  refine ⟨?_⟩
  k_dflt (refine' call_cls (fI := 128) ?k1 ?k2 ?k3 ?k4 ?k5 ?k6 ?_)
  (case k1 => k_asm)
  (case k2 => k_asm)
  (case k3 => k_asm)
  (case k4 => k_is)
  (case k5 => k_is)
  (case k6 => k_is)
  intro x dx h5 F5 N5 l1 l2
  k_steps
  rename_i g1 L1 h1 FG1 F1 N1 B1 X1 T1 D1
  have hoff : OwnOff rest [x, dx] := by
    intro p hp b hbm
    rcases List.mem_cons.mp hbm with rfl | hbm
    · exact Nat.ne_of_lt (Nat.lt_trans (l1 p (.tail _ hp)) l2)
    rcases List.mem_cons.mp hbm with rfl | hbm
    · exact Nat.ne_of_lt (l1 p (.tail _ hp))
    · exact nomatch hbm
  have e1 : (Code.builtin "type.__call__" { pos := [Value.ref 138, Value.ref l] }).weight = 1 := rfl
  have e2 : (Code.builtin "type.__call__" { pos := [Value.ref 138, Value.ref l] }).cUnits ≤ 4 := Nat.le_of_ble_eq_true rfl
  refine init_C _ _ _ _ _ _ _ _ _ _ base _ _ _ _ _ x dx l vs ns nn rest B1 F5 X1 N5 T1 rfl hoff (Nat.ne_of_gt l2) (Nat.ne_of_lt (l1 _ (.head _))) hi hns hb (by ktr_room) (by ktr_units) ?_ ?_
  · intro ql sd so k1 k2 t TT h6 tk6 hP hS hB hK lo F6 N6 o1 o2
    clear F1 N1 F5 N5
    refine ⟨rfl, ?_⟩
    k_steps
    rename_i kF kN _ _
    refine ret ql x dx sd so k1 k2 t TT _ _ hP hS hB hK lo kF kN l1 l2 o1 o2
  · intro ql hP hS hB e t dx' vs' k1 k2 t1 v2 G h6 tk6 F6 R6 U6
    dsimp only [InitBack]
    refine fe_caught R6 F6 B1 U6 XB TB D1 fun h7 g' oe tk7 hT F7 N7 hoe1 hoe2 hoe3 B7 X7 T7 D7 => ?_
    clear F1 N1 F5 N5
    k_steps
    have X7' := X7.keeps F7.keep
    have N7' := N7
    refine fe_get (v := .str (Str.ofString "bad_code") t1) (od := some (feDict w k1 (.str (Str.ofString "bad_code") t1) k2 v2)) X7' ⟨(N7' (e, oe) (.head _)).1, hoe1, hoe3, ?_⟩ ?_ rfl ?_
    · rw [hoe2]
      exact (N7' (dx', _) (.tail _ (.head _))).1
    · exact findObj_own (attr := none) (by k_is) (by k_is) (by k_is) (by show getL (Str.ofString "what") [strE w (Str.ofString "what") k1 (.str (Str.ofString "bad_code") t1), strE w (Str.ofString "at") k2 v2] = some (some (.str (Str.ofString "bad_code") t1)); first | k_get | rfl)
    · k_steps
      rename_i kF kN _ _
      exact bad ql hP hS hB t1 _ _ kF fun p hp => kN p (.tail _ (.tail _ (.tail _ (.tail _ hp))))
end
end
section
open PySem PySem.W PyProof.Rows PySem.Calls PySem.Spec
set_option maxRecDepth 100000
theorem topOff11 : True := by
  w_top off
  trivial
section
set_option maxHeartbeats 4000000 in
theorem lsym_K {prog : Program} {w : World} {p : Program} {loose : List Str} {mean : ExcName → Option Value} {mg mb : Str → Option Value}
    (dp un : Nat) (gd : Option (List Code)) (cn : Str) (cs : Scope) (a : Addr) (ccd : Value) (A₀ : Around) (base h₀ : Heap) (L : Addr) (m : Str → Option Value) (s : Shared) (Q E : Value → Shared → Prop)
    (x dx sd rx rdx dl : Addr) (so : Obj) (TT : List (Addr × Obj)) (ql : List (Int × Int)) (dvs : List Value) (ds : List Int) (dn : Nat) (pos : Nat) (k1 k2 t k3 k4 k5 t2 t3 : Tok) (rest : List (Addr × Obj))
    (B : Below A₀ base [] h₀) (F : Fr h₀ L s.heap m) (X : (hd.heap_39 w.params).In h₀) (XB : (hd.heap_39 w.params).In base) (TB : Top p loose mean mg mb base)
    (N : News h₀ L s.heap ((rx, instObj 91 rdx) :: (rdx, rdObj w k3 k4 k5 dl pos t2 t3) :: (dl, listOf dvs.toArray dn) :: (x, instObj 138 dx) :: (dx, decObj w k1 k2 sd (bf ql ql.length) t) :: (sd, so) :: rest))
    (T : Top p loose mean mg mb h₀) (hk : cs.kind = .function)
    (hoff : OwnOff ((x, instObj 138 dx) :: (dx, decObj w k1 k2 sd (bf ql ql.length) t) :: (sd, so) :: rest) [rx, rdx, dl]) (hxd : rx ≠ rdx) (hld : dl ≠ rdx)
    (hi : IntsAre dvs ds) (hns : ds.length ≤ 3) (hb : ∀ v ∈ ds, 0 ≤ v ∧ v < 256) (hpos : pos ≤ 8 * ds.length)
    (hq : ∀ p ∈ ql, 1 ≤ p.1 ∧ p.1 ≤ 4) (hS : ql.Pairwise (fun p q => lexlt p q = true)) (hl6 : ql.length ≤ 6) (hTT : ∀ p ∈ TT, p ∈ rest) (hK : KTab prog w TT so ql ql.length) (lo : (sd == sysModules) = false)
    (hd : dp + 10 < recursionLimit) (hu : un + 50 < cLine)
    (ret : ∀ (i j : Nat) (t2' t3' t' : Tok) (h' : Heap) (tk' : Nat), (i : Int) < bf ql ql.length → (∀ i' : Nat, 1 ≤ i' → i' ≤ i → NoHit ql (cAt ds pos i') i') → j < ql.length → cdOf ql j = cAt ds pos (i + 1) → (plAt ql j).1 = (i : Int) + 1 → pos + (i + 1) ≤ 8 * ds.length → Fr h₀ L h' m →
      News h₀ L h' ((rx, instObj 91 rdx) :: (rdx, rdObj w k3 k4 k5 dl (pos + (i + 1)) t2' t3') :: (dl, listOf dvs.toArray dn) :: (x, instObj 138 dx) :: (dx, decObj w k1 k2 sd (bf ql ql.length) t) :: (sd, so) :: rest) → Q (.int (plAt ql j).2 t') { s with heap := h', toks := tk' })
    (cut : ∀ i : Nat, (i : Int) < bf ql ql.length → pos + i = 8 * ds.length → (∀ i' : Nat, 1 ≤ i' → i' ≤ i → NoHit ql (cAt ds pos i') i') → ∀ (t : Tok) (h' : Heap) (tk' : Nat), Fr h₀ L h' m → News h₀ L h' rest → Q (.str (Str.ofString "cut_off") t) { s with heap := h', toks := tk' })
    (bad : pos + (bf ql ql.length).toNat ≤ 8 * ds.length → (∀ i' : Nat, 1 ≤ i' → i' ≤ (bf ql ql.length).toNat → NoHit ql (cAt ds pos i') i') → ∀ (t : Tok) (h' : Heap) (tk' : Nat), Fr h₀ L h' m → News h₀ L h' rest → Q (.str (Str.ofString "bad_code") t) { s with heap := h', toks := tk' }) :
    wpAny (model prog w) (ktrTop dp un gd cn cs L a ccd [] []) (call (.ref 170) [.ref x, .ref rx]) Q E s := by
  refine wpAny_call ?_
  k_dflt (refine' code_defS0 (cn := cn) (cs := cs) (L := L) (a := a) (ccd := ccd) ?k1 ?k2 ?k3 ?k4 ?k5 ?kA ?k6 ?k7 ?k8 ?k9 ?kB ?_ ?cK ?c2 ?c3 ?c4 ?c5)
  (case kA => exact rfl)
  (case k2 => k_asm)
  (case k1 => k_asm)
  (case k3 => k_asm)
  (case k4 => k_asm)
  (case k5 => k_asm)
  (case k6 => k_is)
  (case k7 => k_is)
  (case k8 => ktr_room)
  (case k9 => exact BindsTo.of_eq rfl)
  (case kB => exact locs rfl)
  (case cK => assumption)
  (case c2 => exact rfl)
  (case c3 => exact rfl)
  (case c4 => exact rfl)
  (case c5 => decide)
  k_steps
  refine ⟨?_⟩
  k_dflt (show wpAny _ _ (call (Value.ref 135) [Value.ref _, Value.ref _]) _ _ _)
  k_dflt (refine' sym_K _ _ _ _ _ _ _ _ _ _ _ _ _ _ _ _ _ _ _ _ _ _ _ _ _ _ _ _ _ _ _ _ _ _ _ _ _ _ _ ?k1 ?k2 ?k3 ?k4 ?k5 ?k6 ?o1 ?o2 ?o3 ?o4 ?o5 ?o6 ?o7 ?o8 ?o9 ?p1 ?p2 ?p3 ?p4 ?k8 ?k9 ?_ ?_ ?_)
  (case k1 => k_asm)
  (case k2 => k_asm)
  (case k3 => k_asm)
  (case k4 => k_asm)
  (case k5 => k_asm)
  (case k6 => first | exact rfl | assumption)
  (case o1 => assumption)
  (case o2 => assumption)
  (case o3 => assumption)
  (case o4 => assumption)
  (case o5 => assumption)
  (case o6 => assumption)
  (case o7 => assumption)
  (case o8 => assumption)
  (case o9 => assumption)
  (case p1 => assumption)
  (case p2 => assumption)
  (case p3 => assumption)
  (case p4 => assumption)
  (case k8 => ktr_room)
  (case k9 => ktr_units)
  all_goals k_steps
  · rename_i hi1 hno hj e1 e2 hpl h9 F9 N9 kF kN _ _
    exact ret _ _ _ _ _ _ _ hi1 hno hj e1 e2 hpl kF kN
  · rename_i hlt hpo hno e t dx' vs' k1' k2' t1 v2 G h6 tk6 F6 R6 U6
    refine fe_caught R6 F6 (by assumption) U6 XB TB (by assumption) fun h7 g' oe tk7 hT F7 N7 hoe1 hoe2 hoe3 B7 X7 T7 D7 => ?_
    k_steps
    have X7' := X7.keeps F7.keep
    have N7' := N7
    refine fe_get (v := .str (Str.ofString "cut_off") t1) (od := some (feDict w k1' (.str (Str.ofString "cut_off") t1) k2' v2)) X7' ⟨(N7' (e, oe) (.head _)).1, hoe1, hoe3, ?_⟩ ?_ rfl ?_
    · rw [hoe2]
      exact (N7' (dx', _) (.tail _ (.head _))).1
    · exact findObj_own (attr := none) (by k_is) (by k_is) (by k_is) (by show getL (Str.ofString "what") [strE w (Str.ofString "what") k1' (.str (Str.ofString "cut_off") t1), strE w (Str.ofString "at") k2' v2] = some (some (.str (Str.ofString "cut_off") t1)); first | k_get | rfl)
    · k_steps
      rename_i kF kN _ _
      exact cut _ hlt hpo hno _ _ _ kF fun p hp => kN p (.tail _ (.tail _ hp))
  · rename_i hpo hno e t dx' vs' k1' k2' t1 v2 G h6 tk6 F6 R6 U6
    refine fe_caught R6 F6 (by assumption) U6 XB TB (by assumption) fun h7 g' oe tk7 hT F7 N7 hoe1 hoe2 hoe3 B7 X7 T7 D7 => ?_
    k_steps
    have X7' := X7.keeps F7.keep
    have N7' := N7
    refine fe_get (v := .str (Str.ofString "bad_code") t1) (od := some (feDict w k1' (.str (Str.ofString "bad_code") t1) k2' v2)) X7' ⟨(N7' (e, oe) (.head _)).1, hoe1, hoe3, ?_⟩ ?_ rfl ?_
    · rw [hoe2]
      exact (N7' (dx', _) (.tail _ (.head _))).1
    · exact findObj_own (attr := none) (by k_is) (by k_is) (by k_is) (by show getL (Str.ofString "what") [strE w (Str.ofString "what") k1' (.str (Str.ofString "bad_code") t1), strE w (Str.ofString "at") k2' v2] = some (some (.str (Str.ofString "bad_code") t1)); first | k_get | rfl)
    · k_steps
      rename_i kF kN _ _
      exact bad hpo hno _ _ _ kF fun p hp => kN p (.tail _ (.tail _ hp))
end
end
end
end Mine
section
open PySem PySem.W PyProof.Rows PySem.Calls PySem.Spec
set_option maxRecDepth 100000
namespace Mine
theorem dec_M {prog : Program} {w : World} {p : Program} {loose : List Str} {mean : ExcName → Option Value} {mg mb : Str → Option Value}
    (dp un : Nat) (gd : Option (List Code)) (cn : Str) (cs : Scope) (a : Addr) (ccd : Value) (A₀ : Around) (base h₀ : Heap) (L : Addr) (m : Str → Option Value) (s : Shared) (Q E : Value → Shared → Prop)
    (l : Addr) (vs : List Value) (ns : List Int) (nn : Nat) (rest news : List (Addr × Obj))
    (B : Below A₀ base [] h₀) (F : Fr h₀ L s.heap m) (X : (hd.heap_39 w.params).In h₀) (XB : (hd.heap_39 w.params).In base) (TB : Top p loose mean mg mb base)
    (N : News h₀ L s.heap news) (hm : (l, listOf vs.toArray nn) ∈ news) (hr : ∀ q ∈ rest, q ∈ news)
    (T : Top p loose mean mg mb h₀) (hk : cs.kind = .function)
    (hi : IntsAre vs ns) (hns : ns.length ≤ 6) (hb : ∀ v ∈ ns, 0 ≤ v ∧ v < 5)
    (hd : dp + 10 < recursionLimit) (hu : un + 50 < cLine)
    (ret : ∀ (ql : List (Int × Int)) (x dx sd : Addr) (so : Obj) (k1 k2 t : Tok) (TT : List (Addr × Obj)) (h' : Heap) (tk' : Nat), ql.Perm (prsTo ns ns.length) → ql.Pairwise (fun p q => lexlt p q = true) → compB ql = true → KTab prog w TT so ql ql.length → (sd == sysModules) = false → Fr h₀ L h' m →
      News h₀ L h' ((x, instObj 138 dx) :: (dx, decObj w k1 k2 sd (bf ql ql.length) t) :: (sd, so) :: (TT ++ (l, listOf vs.toArray nn) :: rest)) → (∀ q ∈ (l, listOf vs.toArray nn) :: rest, q.1 < dx) → dx < x → (∀ q ∈ (x, instObj 138 dx) :: (dx, dictOf [] 0) :: (l, listOf vs.toArray nn) :: rest, q.1 < sd) → (∀ p ∈ TT, sd < p.1) → Q (.ref x) { s with heap := h', toks := tk' })
    (bad : ∀ (ql : List (Int × Int)), ql.Perm (prsTo ns ns.length) → ql.Pairwise (fun p q => lexlt p q = true) → compB ql = false → ∀ (t : Tok) (h' : Heap) (tk' : Nat), Fr h₀ L h' m → News h₀ L h' ((l, listOf vs.toArray nn) :: rest) → Q (.str (Str.ofString "bad_code") t) { s with heap := h', toks := tk' }) :
    wpAny (model prog w) (ktrTop dp un gd cn cs L a ccd [] []) (call (.ref 163) [.ref l]) Q E s := by
  refine dec_K dp un gd cn cs a ccd A₀ base h₀ L m s Q E l vs ns nn rest B F X XB TB ?_ T hk hi hns hb hd hu ret bad
  intro q hq
  rcases List.mem_cons.mp hq with rfl | hq
  · exact N _ hm
  · exact N _ (hr q hq)
/-- what the law owes at its end, and no more -/
noncomputable def Fin (h₀ : Heap) (L : Addr) (s : Shared) (Q : Flow → Shared → Prop) : Prop := ∀ h' tk m' news', Fr h₀ L h' m' → News h₀ L h' news' → Q (.ret (.bool true)) { s with heap := h', toks := tk }
/-- a statement that gives a name an int, and no more -/
structure IntEnd (h₀ : Heap) (L : Addr) (x : Str) (m : Str → Option Value) (news : List (Addr × Obj)) (C : Int → Prop) (s : Shared) (f : Flow) (s' : Shared) : Prop where
  next : f = .next
  told : ∃ n t h tk, C n ∧ s' = { s with heap := h, toks := tk } ∧ Fr h₀ L h (fun z => if z = x then some (.int n t) else m z) ∧ News h₀ L h news
theorem share_M {prog : Program} {w : World} {p : Program} {loose : List Str} {mean : ExcName → Option Value} {mg mb : Str → Option Value}
    (dp un : Nat) (gd : Option (List Code)) (cn : Str) (cs : Scope) (a : Addr) (ccd : Value) (cl : List (Str × Addr)) (outer : List Env) (A₀ : Around) (base h₀ : Heap) (L : Addr) (m : Str → Option Value) (s : Shared) (Q E : Value → Shared → Prop)
    (l : Addr) (vs : List Value) (ns : List Int) (nn : Nat) (news : List (Addr × Obj))
    (B : Below A₀ base outer h₀) (F : Fr h₀ L s.heap m) (X : (hd.heap_39 w.params).In h₀)
    (N : News h₀ L s.heap news) (hm : (l, listOf vs.toArray nn) ∈ news)
    (T : Top p loose mean mg mb h₀) (hk : cs.kind = .function)
    (hi : IntsAre vs ns) (hns : ns.length ≤ 6) (hb : ∀ v ∈ ns, 0 ≤ v ∧ v < 5)
    (hd : dp + 6 < recursionLimit) (hu : un + 30 < cLine)
    (ret : ∀ (D : Addr) (k : Nat) (h' : Heap) (tk' : Nat) (out : List Value) (tl : List (Addr × Obj)), Fr h₀ L h' m → News h₀ L h' ((D, listOf out.toArray k) :: (tl ++ news)) → DatAll tl out ((shareTo ns 4).map pairD) → Q (.ref D) { s with heap := h', toks := tk' }) :
    wpAny (model prog w) (ktrTop dp un gd cn cs L a ccd cl outer) (call (.ref 149) [.ref l]) Q E s := by
  refine share_K dp un gd cn cs a ccd cl outer A₀ base h₀ L m s Q E l vs ns nn news B F X ?_ T hk hi hns hb hd hu ?_
  · intro q hq
    rcases List.mem_cons.mp hq with rfl | hq
    · exact N _ hm
    · exact N _ hq
  · intro D k h' tk' out tl F' N' hD
    refine ret D k h' tk' out tl F' (fun q hq => N' q ?_) hD
    rcases List.mem_cons.mp hq with rfl | hq
    · exact .head _
    rcases List.mem_append.mp hq with hq | hq
    · exact .tail _ (List.mem_append.mpr (.inl hq))
    · exact .tail _ (List.mem_append.mpr (.inr (.tail _ hq)))
structure BoolEnd (h₀ : Heap) (L : Addr) (x : Str) (m : Str → Option Value) (news : List (Addr × Obj)) (b : Bool) (s : Shared) (f : Flow) (s' : Shared) : Prop where
  next : f = .next
  told : ∃ h tk, s' = { s with heap := h, toks := tk } ∧ Fr h₀ L h (fun z => if z = x then some (.bool b) else m z) ∧ News h₀ L h news
section
variable {prog : Program} {w : World} {A : Around} {E : Value → Shared → Prop} {Q : Flow → Shared → Prop} {s : Shared} {env : Env} {h₀ : Heap} {L : Addr}
theorem with_fin {st : Sem Flow} {m : Str → Option Value} (_F : Fr h₀ L s.heap m) (fin : Fin h₀ L s Q) (h : ∀ Q' : Flow → Shared → Prop, Fin h₀ L s Q' → wpAny (model prog w) A st Q' E s) : wpAny (model prog w) A st Q E s := h Q fin
theorem seg_bool {st : Sem Flow} {m : Str → Option Value} {news : List (Addr × Obj)} (x : Str) (b : Bool) (_F : Fr h₀ L s.heap m)
    (h1 : wpAny (model prog w) A st (BoolEnd h₀ L x m news b s) E s)
    (h2 : ∀ h tk, Fr h₀ L h (fun z => if z = x then some (.bool b) else m z) → News h₀ L h news → Q .next { s with heap := h, toks := tk }) : wpAny (model prog w) A st Q E s :=
  wpAny_mono h1 (fun f s' q => by obtain ⟨rfl, h, tk, rfl, F, N⟩ := q; exact h2 h tk F N) fun _ _ e => e
theorem seg_int {st : Sem Flow} {m : Str → Option Value} {news : List (Addr × Obj)} (x : Str) (C : Int → Prop) (_F : Fr h₀ L s.heap m)
    (h1 : wpAny (model prog w) A st (IntEnd h₀ L x m news C s) E s)
    (h2 : ∀ n t h tk, C n → Fr h₀ L h (fun z => if z = x then some (.int n t) else m z) → News h₀ L h news → Q .next { s with heap := h, toks := tk }) : wpAny (model prog w) A st Q E s :=
  wpAny_mono h1 (fun f s' q => by obtain ⟨rfl, n, t, h, tk, c, rfl, F, N⟩ := q; exact h2 n t h tk c F N) fun _ _ e => e
end
/-! fences: the form of the goal by a lemma (a pattern written out in a local rule costs much room) -/
section
variable {M : Model} {A : Around} {E : Value → Shared → Prop} {s : Shared}
theorem fSlB {Q a b c d e f g h i j} (z : Fence (wpAny M A (subscriptTail a (.Slice (some (.BinOp b c d e)) f g h) i j) Q E s)) : wpAny M A (subscriptTail a (.Slice (some (.BinOp b c d e)) f g h) i j) Q E s := z.it
theorem fSlN {Q a b c f g h i j} (z : Fence (wpAny M A (subscriptTail a (.Slice (some (.Name b c)) f g h) i j) Q E s)) : wpAny M A (subscriptTail a (.Slice (some (.Name b c)) f g h) i j) Q E s := z.it
theorem fCall1 {Q a b} (z : Fence (wpAny M A (call a [b]) Q E s)) : wpAny M A (call a [b]) Q E s := z.it
theorem fCall2 {Q a b c} (z : Fence (wpAny M A (call a [Value.ref b, Value.ref c]) Q E s)) : wpAny M A (call a [Value.ref b, Value.ref c]) Q E s := z.it
theorem fLcB {Q en a b c d e f g h i j} (z : Fence (wpAny M A (exec (.Assign a (.ListComp (.BinOp b c (.Constant (.int 256) d e) f) g h i) j) en) Q E s)) : wpAny M A (exec (.Assign a (.ListComp (.BinOp b c (.Constant (.int 256) d e) f) g h i) j) en) Q E s := z.it
theorem fLcN {Q en a b c g h i j} (z : Fence (wpAny M A (exec (.Assign a (.ListComp (.Name b c) g h i) j) en) Q E s)) : wpAny M A (exec (.Assign a (.ListComp (.Name b c) g h i) j) en) Q E s := z.it
theorem fIf {Q en a b c d e f} (z : Fence (wpAny M A (exec (.If (.Compare a [.Eq] b c) d e f) en) Q E s)) : wpAny M A (exec (.If (.Compare a [.Eq] b c) d e f) en) Q E s := z.it
theorem fAsB {Q en a b c d e f g h} (z : Fence (wpAny M A (exec (.Assign a (.BinOp b c (.Subscript d e f) g) h) en) Q E s)) : wpAny M A (exec (.Assign a (.BinOp b c (.Subscript d e f) g) h) en) Q E s := z.it
theorem fAsC {Q en a b c d e f g h i} (z : Fence (wpAny M A (exec (.Assign a (.Call b [.Name c d, .Name e f] g h) i) en) Q E s)) : wpAny M A (exec (.Assign a (.Call b [.Name c d, .Name e f] g h) i) en) Q E s := z.it
theorem isInt {t a b c d e f g} (z : wpAny M A t (IntEnd a b c d e f g) E s) : wpAny M A t (IntEnd a b c d e f g) E s := z
end
theorem fCS {a b c d e f g h i j k l m n o p q r} (z : Fence (LCg.CompSrc a b c d e f g (.BinOp h i (.Constant (.int 256) j k) l) m n o p q r)) : LCg.CompSrc a b c d e f g (.BinOp h i (.Constant (.int 256) j k) l) m n o p q r := z.it
end Mine
end
section
open PySem PySem.W PyProof.Rows PySem.Calls PySem.Spec
set_option maxRecDepth 100000
namespace Mine
/-- where the i-th pair's rows of four bits begin -/
noncomputable def st (ql : List (Int × Int)) : Nat → Int
  | 0 => 0
  | i+1 => st ql i + 2 ^ (4 - (plAt ql i).1).toNat
theorem cdOf_st {ql : List (Int × Int)} (hb : ∀ p ∈ ql, 1 ≤ p.1 ∧ p.1 ≤ 4) (hS : ql.Pairwise (fun p q => lexlt p q = true)) : ∀ (i : Nat), i < ql.length → cdOf ql i * 2 ^ (4 - (plAt ql i).1).toNat = st ql i := by
  have key : ∀ i, i ≤ ql.length → cd ql i * 2 ^ (4 - bf ql i).toNat = st ql i ∧ 0 ≤ bf ql i ∧ bf ql i ≤ 4 := by
    intro i
    induction i with
    | zero => intro _; exact ⟨by rw [cd, st]; simp, Int.le_refl _, (by decide : (0:Int) ≤ 4)⟩
    | succ i ih =>
      intro hi
      obtain ⟨e, h0, h4⟩ := ih (by omega)
      have hq := hb (plAt ql i) (by rw [plAt_eq (by omega)]; exact List.getElem_mem _)
      have hle : bf ql i ≤ (plAt ql i).1 := by
        cases i with
        | zero => show (0:Int) ≤ _; omega
        | succ j => exact lens_le hS (Nat.le_succ j) (by omega)
      refine ⟨?_, by show 0 ≤ (plAt ql i).1; omega, by show (plAt ql i).1 ≤ 4; omega⟩
      rw [cd, bf, st, ← e, Int.add_mul, Int.one_mul, Int.mul_assoc, ← Int.pow_add]
      have e2 : ((plAt ql i).1 - bf ql i).toNat + (4 - (plAt ql i).1).toNat = (4 - bf ql i).toNat := toNat_add3 hle hq.2
      rw [e2]
  intro i hi
  obtain ⟨e, h0, h4⟩ := key i (by omega)
  have hq := hb (plAt ql i) (by rw [plAt_eq hi]; exact List.getElem_mem _)
  have hle : bf ql i ≤ (plAt ql i).1 := by
    cases i with
    | zero => show (0:Int) ≤ _; omega
    | succ j => exact lens_le hS (Nat.le_succ j) hi
  rw [cdOf, ← e, Int.mul_assoc, ← Int.pow_add]
  have e2 : ((plAt ql i).1 - bf ql i).toNat + (4 - (plAt ql i).1).toNat = (4 - bf ql i).toNat := toNat_add3 hle hq.2
  rw [e2]
/-- the ordered pairs, written down: by length, and among equals by symbol -/
noncomputable def canIn (ns : List Int) (size : Nat) : Nat → List (Int × Int)
  | 0 => []
  | i+1 => canIn ns size i ++ (if ns.getD i 0 = (size : Int) then [((size : Int), (i : Int))] else [])
noncomputable def canTo (ns : List Int) : Nat → List (Int × Int)
  | 0 => []
  | j+1 => canTo ns j ++ canIn ns (j+1) ns.length
theorem canIn_mem (ns : List Int) (size : Nat) : ∀ (i : Nat) (p : Int × Int), p ∈ canIn ns size i ↔ p.1 = size ∧ ∃ k : Nat, k < i ∧ p.2 = k ∧ ns.getD k 0 = size
  | 0, p => by
    rw [canIn]
    exact ⟨fun h => (nomatch h), fun ⟨_, k, h, _⟩ => absurd h (Nat.not_lt_zero _)⟩
  | i+1, p => by
    rw [canIn, List.mem_append, canIn_mem ns size i p]
    constructor
    · rintro (⟨h1, k, h2, h3, h4⟩ | h)
      · exact ⟨h1, k, by omega, h3, h4⟩
      · split at h
        · rename_i hs
          rw [List.mem_singleton.mp h]
          exact ⟨rfl, i, by omega, rfl, hs⟩
        · exact nomatch h
    · rintro ⟨h1, k, h2, h3, h4⟩
      by_cases q : k < i
      · exact .inl ⟨h1, k, q, h3, h4⟩
      · obtain rfl : k = i := by omega
        right
        rw [if_pos h4]
        exact List.mem_singleton.mpr (Prod.ext h1 h3)
theorem canIn_sorted (ns : List Int) (size : Nat) : ∀ (i : Nat), (canIn ns size i).Pairwise (fun p q => lexlt p q = true)
  | 0 => .nil
  | i+1 => by
    rw [canIn]
    refine List.pairwise_append.mpr ⟨canIn_sorted ns size i, ?_, fun p hp q hq => ?_⟩
    · split
      · exact List.pairwise_singleton _ _
      · exact .nil
    · split at hq
      · rw [List.mem_singleton.mp hq]
        obtain ⟨h1, k, h2, h3, _⟩ := (canIn_mem ns size i p).mp hp
        unfold lexlt
        simp only [Bool.or_eq_true, Bool.and_eq_true, decide_eq_true_eq]
        omega
      · exact nomatch hq
theorem canTo_mem (ns : List Int) : ∀ (j : Nat) (p : Int × Int), p ∈ canTo ns j ↔ (1 ≤ p.1 ∧ p.1 ≤ j) ∧ ∃ k : Nat, k < ns.length ∧ p.2 = k ∧ ns.getD k 0 = p.1
  | 0, p => by
    rw [canTo]
    exact ⟨fun h => (nomatch h), fun ⟨⟨h1, h2⟩, _⟩ => by omega⟩
  | j+1, p => by
    rw [canTo, List.mem_append, canTo_mem ns j p, canIn_mem]
    constructor
    · rintro (⟨⟨h1, h2⟩, h3⟩ | ⟨h1, k, h2, h3, h4⟩)
      · exact ⟨⟨h1, by omega⟩, h3⟩
      · exact ⟨⟨by omega, by omega⟩, k, h2, h3, by rw [h4, h1]⟩
    · rintro ⟨⟨h1, h2⟩, k, h3, h4, h5⟩
      by_cases q : p.1 ≤ j
      · exact .inl ⟨⟨h1, q⟩, k, h3, h4, h5⟩
      · right
        have e : p.1 = ((j + 1 : Nat) : Int) := by omega
        exact ⟨e, k, h3, h4, by rw [h5, e]⟩
theorem canTo_sorted (ns : List Int) : ∀ (j : Nat), (canTo ns j).Pairwise (fun p q => lexlt p q = true)
  | 0 => .nil
  | j+1 => by
    rw [canTo]
    refine List.pairwise_append.mpr ⟨canTo_sorted ns j, canIn_sorted ns _ _, fun p hp q hq => ?_⟩
    have h1 := ((canTo_mem ns j p).mp hp).1
    have h2 := ((canIn_mem ns _ _ q).mp hq).1
    unfold lexlt
    simp only [Bool.or_eq_true, Bool.and_eq_true, decide_eq_true_eq]
    omega
theorem prs_mem (ns : List Int) : ∀ (i : Nat) (p : Int × Int), p ∈ prsTo ns i ↔ 0 < p.1 ∧ ∃ k : Nat, k < i ∧ p.2 = k ∧ ns.getD k 0 = p.1
  | 0, p => by
    rw [prsTo]
    exact ⟨fun h => (nomatch h), fun ⟨_, k, h, _⟩ => absurd h (Nat.not_lt_zero _)⟩
  | i+1, p => by
    have ih := prs_mem ns i p
    rw [prsTo]
    constructor
    · intro h
      split at h
      · rename_i hs
        rcases List.mem_append.mp h with h | h
        · obtain ⟨h1, k, h2, h3, h4⟩ := ih.mp h
          exact ⟨h1, k, by omega, h3, h4⟩
        · rw [List.mem_singleton.mp h]
          exact ⟨hs, i, by omega, rfl, rfl⟩
      · obtain ⟨h1, k, h2, h3, h4⟩ := ih.mp h
        exact ⟨h1, k, by omega, h3, h4⟩
    · rintro ⟨h1, k, h2, h3, h4⟩
      by_cases q : k < i
      · have := ih.mpr ⟨h1, k, q, h3, h4⟩
        split
        · exact List.mem_append.mpr (.inl this)
        · exact this
      · obtain rfl : k = i := by omega
        rw [if_pos (by rw [h4]; exact h1)]
        exact List.mem_append.mpr (.inr (List.mem_singleton.mpr (Prod.ext h4.symm h3)))
theorem lex_nodup {l : List (Int × Int)} (h : l.Pairwise (fun p q => lexlt p q = true)) : l.Nodup := by
  refine List.Pairwise.imp (fun {p q} hpq e => ?_) h
  subst e
  have := lex_asymm hpq
  rw [hpq] at this
  exact absurd this (by decide)
theorem can_perm {ns : List Int} (hb : ∀ v ∈ ns, 0 ≤ v ∧ v < 5) : (canTo ns 4).Perm (prsTo ns ns.length) := by
  refine (List.perm_ext_iff_of_nodup (lex_nodup (canTo_sorted ns 4)) (prsTo_nodup ns _)).mpr fun p => ?_
  rw [canTo_mem, prs_mem]
  constructor
  · rintro ⟨⟨h1, h2⟩, k, h3, h4, h5⟩
    exact ⟨by omega, k, h3, h4, h5⟩
  · rintro ⟨h1, k, h3, h4, h5⟩
    have e : ns.getD k 0 = ns[k] := by simp [h3]
    have := hb _ (List.getElem_mem h3)
    rw [← e, h5] at this
    exact ⟨⟨by omega, by omega⟩, k, h3, h4, h5⟩
theorem ql_can {ns : List Int} {ql : List (Int × Int)} (hb : ∀ v ∈ ns, 0 ≤ v ∧ v < 5) (hP : ql.Perm (prsTo ns ns.length)) (hS : ql.Pairwise (fun p q => lexlt p q = true)) : ql = canTo ns 4 :=
  sorted_uniq (hP.trans (can_perm hb).symm) hS (canTo_sorted ns 4)
/-- the rows of one pair -/
noncomputable def rep (p : Int × Int) : List (Int × Int) := List.replicate (16 / 2 ^ p.1.toNat) (p.2, p.1)
theorem share_can (ns : List Int) (size : Nat) : ∀ i, shareIn ns size i = (canIn ns size i).flatMap rep
  | 0 => rfl
  | i+1 => by
    rw [shareIn, canIn, List.flatMap_append, share_can ns size i]
    congr 1
    split
    · rw [List.flatMap_cons, List.flatMap_nil, List.append_nil, rep, Int.toNat_natCast]
    · rfl
theorem shareTo_can (ns : List Int) : ∀ j, shareTo ns j = (canTo ns j).flatMap rep
  | 0 => rfl
  | j+1 => by rw [shareTo, canTo, List.flatMap_append, shareTo_can ns j, share_can]
theorem dealt_is {ns : List Int} {ql : List (Int × Int)} (hb : ∀ v ∈ ns, 0 ≤ v ∧ v < 5) (hP : ql.Perm (prsTo ns ns.length)) (hS : ql.Pairwise (fun p q => lexlt p q = true)) : shareTo ns 4 = ql.flatMap rep := by
  rw [shareTo_can, ← ql_can hb hP hS]
theorem div_pow : ∀ n : Nat, 1 ≤ n → n ≤ 4 → 16 / 2 ^ n = 2 ^ (4 - n)
  | 1, _, _ => by decide
  | 2, _, _ => by decide
  | 3, _, _ => by decide
  | 4, _, _ => by decide
  | n+5, _, h => by omega
theorem rep_len {p : Int × Int} (h : 1 ≤ p.1 ∧ p.1 ≤ 4) : (rep p).length = 2 ^ (4 - p.1).toNat := by
  obtain ⟨k, hk⟩ : ∃ k : Nat, p.1 = (k : Int) := ⟨_, (Int.toNat_of_nonneg (Int.le_trans (by decide) h.1)).symm⟩
  rw [hk] at h
  rw [rep, List.length_replicate, hk, Int.toNat_natCast, div_pow _ (by omega) (by omega)]
  congr 1
  exact (Int.toNat_sub 4 k).symm
theorem st_take {ql : List (Int × Int)} (hb : ∀ p ∈ ql, 1 ≤ p.1 ∧ p.1 ≤ 4) : ∀ i, i ≤ ql.length → st ql i = (((ql.take i).flatMap rep).length : Int)
  | 0, _ => by rw [st]; rfl
  | i+1, hi => by
    rw [st, st_take hb i (by omega), take_plAt (by omega), List.flatMap_append, List.length_append, List.flatMap_cons, List.flatMap_nil, List.append_nil, rep_len (hb _ (by rw [plAt_eq (by omega)]; exact List.getElem_mem _))]
    rw [Int.natCast_add, Int.natCast_pow]
    rfl
theorem dealt_at {ql : List (Int × Int)} (hb : ∀ p ∈ ql, 1 ≤ p.1 ∧ p.1 ≤ 4) {i : Nat} (hi : i < ql.length) {spot : Nat} (h1 : st ql i ≤ spot) (h2 : (spot : Int) < st ql (i + 1)) : (ql.flatMap rep)[spot]? = some ((plAt ql i).2, (plAt ql i).1) := by
  have e : ql = ql.take i ++ plAt ql i :: ql.drop (i + 1) := by
    rw [plAt_eq hi, ← List.drop_eq_getElem_cons hi, List.take_append_drop]
  have hl := st_take hb i (Nat.le_of_lt hi)
  have hr := rep_len (hb _ (show plAt ql i ∈ ql by rw [plAt_eq hi]; exact List.getElem_mem _))
  have e2 : st ql (i + 1) = st ql i + 2 ^ (4 - (plAt ql i).1).toNat := rfl
  have e3 : ((2 ^ (4 - (plAt ql i).1).toNat : Nat) : Int) = 2 ^ (4 - (plAt ql i).1).toNat := by rw [Int.natCast_pow]; rfl
  generalize hz : (plAt ql i) = z at *
  rw [e, List.flatMap_append, List.flatMap_cons, List.getElem?_append_right (by omega), List.getElem?_append_left (by rw [hr]; omega)]
  rw [rep, List.getElem?_replicate, if_pos]
  rw [rep, List.length_replicate] at hr
  rw [hr]
  omega
end Mine
end
section
open PySem PySem.W PyProof.Rows PySem.Calls PySem.Spec
set_option maxRecDepth 100000
namespace Mine
/-- the law's own word for sound lengths -/
noncomputable def soundB (ns : List Int) : Bool := if (ns.filter fun v => decide (0 < v)).length < 2 then decide ((ns.filter fun v => decide (0 < v)) = [1]) else ((shareTo ns 4).length : Int) == 16
theorem prs_fst (ns : List Int) : ∀ i, i ≤ ns.length → (prsTo ns i).map (·.1) = (ns.take i).filter (fun v => decide (0 < v))
  | 0, _ => rfl
  | i+1, hi => by
    have ih := prs_fst ns i (by omega)
    have e : ns.getD i 0 = ns[i] := by simp [show i < ns.length by omega]
    rw [prsTo, List.take_add_one, List.getElem?_eq_getElem (by omega), List.filter_append, ← ih, e]
    by_cases h : 0 < ns[i]
    · rw [if_pos h, List.map_append, Option.toList_some, List.filter_cons, if_pos (decide_eq_true h)]
      rfl
    · rw [if_neg h, Option.toList_some, List.filter_cons, if_neg (by rw [decide_eq_true_eq]; exact h), List.filter_nil, List.append_nil]
theorem tot_st {ql : List (Int × Int)} (hb : ∀ p ∈ ql, 1 ≤ p.1 ∧ p.1 ≤ 4) (hS : ql.Pairwise (fun p q => lexlt p q = true)) (h0 : 0 < ql.length) : ∀ i, i ≤ ql.length → totTo ql i * 2 ^ (4 - (plAt ql (ql.length - 1)).1).toNat = st ql i
  | 0, _ => by rw [totTo, st, Int.zero_mul]
  | i+1, hi => by
    have hq := hb (plAt ql (ql.length - 1)) (by rw [plAt_eq (by omega)]; exact List.getElem_mem _)
    have hle := lens_le hS (show i ≤ ql.length - 1 by omega) (by omega)
    rw [totTo, st, Int.add_mul, tot_st hb hS h0 i (by omega), ← Int.pow_add]
    have e : ((plAt ql (ql.length - 1)).1 - (plAt ql i).1).toNat + (4 - (plAt ql (ql.length - 1)).1).toNat = (4 - (plAt ql i).1).toNat := toNat_add3 hle hq.2
    rw [e]
theorem comp_sound {ns : List Int} {ql : List (Int × Int)} (hb : ∀ v ∈ ns, 0 ≤ v ∧ v < 5) (hP : ql.Perm (prsTo ns ns.length)) (hS : ql.Pairwise (fun p q => lexlt p q = true)) : compB ql = soundB ns := by
  have hb2 : ∀ p ∈ ql, 1 ≤ p.1 ∧ p.1 ≤ 4 := fun p hp => by
    have := prsTo_len ns hb _ (Nat.le_refl _) p (hP.mem_iff.mp hp)
    exact ⟨this.1, this.2.1⟩
  have hpf := hP.map (·.1)
  rw [prs_fst ns _ (Nat.le_refl _), List.take_length] at hpf
  have hl : (ns.filter fun v => decide (0 < v)).length = ql.length := by rw [← hpf.length_eq, List.length_map]
  have hd := dealt_is hb hP hS
  rw [compB, soundB, hl]
  by_cases h2 : ql.length < 2
  · rw [if_pos h2, if_pos h2]
    match ql, h2, hpf with
    | [], _, hpf =>
      have : (ns.filter fun v => decide (0 < v)) = [] := (List.Perm.nil_eq hpf).symm
      rw [this]
      rfl
    | [p], _, hpf =>
      have : (ns.filter fun v => decide (0 < v)) = [p.1] := List.perm_singleton.mp hpf.symm
      rw [this]
      show (true && (p.1 == 1)) = decide ([p.1] = [1])
      rw [Bool.true_and]
      by_cases e : p.1 = 1
      · rw [e]; rfl
      · rw [decide_eq_false (fun q => e (List.cons.inj q).1)]
        exact beq_eq_false_iff_ne.mpr e
    | p :: q :: r, h, _ => simp at h; omega
  · rw [if_neg h2, if_neg h2]
    have hq := hb2 (plAt ql (ql.length - 1)) (by rw [plAt_eq (by omega)]; exact List.getElem_mem _)
    have e1 := tot_st hb2 hS (by omega) ql.length (Nat.le_refl _)
    have e2 := st_take hb2 ql.length (Nat.le_refl _)
    rw [List.take_length, ← hd] at e2
    rw [← e2, ← e1]
    generalize totTo ql ql.length = t
    obtain ⟨k, hk⟩ : ∃ k, k = (plAt ql (ql.length - 1)).1.toNat := ⟨_, rfl⟩
    have hkx : (plAt ql (ql.length - 1)).1 = (k : Int) := by
      rw [hk]
      exact (Int.toNat_of_nonneg (Int.le_trans (by decide) hq.1)).symm
    have e4 : (4 - (plAt ql (ql.length - 1)).1).toNat = 4 - k := by
      rw [hkx]
      exact Int.toNat_sub 4 k
    rw [e4, ← hk]
    rw [hkx] at hq
    clear e1 e2 hl hpf hd e4
    have hk1 : 1 ≤ k := Int.ofNat_le.mp hq.1
    have hk4 : k ≤ 4 := Int.ofNat_le.mp hq.2
    clear hq
    have hiff : t = 2 ^ k ↔ t * 2 ^ (4 - k) = 16 := by
      have := four hk1 hk4
      rcases this with rfl | rfl | rfl | rfl
      · show t = 2 ↔ t * 8 = 16; omega
      · show t = 4 ↔ t * 4 = 16; omega
      · show t = 8 ↔ t * 2 = 16; omega
      · show t = 16 ↔ t * 1 = 16; omega
    by_cases q : t = 2 ^ k
    · rw [beq_iff_eq.mpr q, beq_iff_eq.mpr (hiff.mp q)]
    · rw [beq_eq_false_iff_ne.mpr q, beq_eq_false_iff_ne.mpr (fun z => q (hiff.mpr z))]
end Mine
end
section
open PySem PySem.W PyProof.Rows PySem.Calls PySem.Spec
set_option maxRecDepth 100000
namespace Mine
/-- the bit at a place, and nought behind the last -/
noncomputable def pbit (ds : List Int) (p : Nat) : Int := if p < 8 * ds.length then bitAt ds p else 0
/-- the row of four bits from a place on, as a number -/
noncomputable def spotAt (ds : List Int) (pos : Nat) : Int := pbit ds pos * 8 + pbit ds (pos + 1) * 4 + pbit ds (pos + 2) * 2 + pbit ds (pos + 3)
theorem bit01 (ds : List Int) (p : Nat) : 0 ≤ bitAt ds p ∧ bitAt ds p ≤ 1 := by
  unfold bitAt
  generalize ds.getD (p / 8) 0 / 2 ^ (7 - p % 8) = z
  omega
theorem pbit01 (ds : List Int) (p : Nat) : 0 ≤ pbit ds p ∧ pbit ds p ≤ 1 := by
  unfold pbit
  split
  · exact bit01 ds p
  · omega
theorem spot_range (ds : List Int) (pos : Nat) : 0 ≤ spotAt ds pos ∧ spotAt ds pos < 16 := by
  have h0 := pbit01 ds pos
  have h1 := pbit01 ds (pos + 1)
  have h2 := pbit01 ds (pos + 2)
  have h3 := pbit01 ds (pos + 3)
  unfold spotAt
  omega
theorem pbit_eq {ds : List Int} {p : Nat} (h : p < 8 * ds.length) : pbit ds p = bitAt ds p := if_pos h
theorem spot_box (ds : List Int) (pos : Nat) {l : Nat} (hl : l ≤ 4) (h : pos + l ≤ 8 * ds.length) : cAt ds pos l * 2 ^ (4 - l) ≤ spotAt ds pos ∧ spotAt ds pos < (cAt ds pos l + 1) * 2 ^ (4 - l) := by
  have h0 := pbit01 ds pos
  have h1 := pbit01 ds (pos + 1)
  have h2 := pbit01 ds (pos + 2)
  have h3 := pbit01 ds (pos + 3)
  match l, hl with
  | 0, _ =>
    show 0 * 16 ≤ _ ∧ _ < (0 + 1) * 16
    unfold spotAt
    omega
  | 1, _ =>
    have e0 := pbit_eq (show pos < 8 * ds.length by omega)
    show (0 * 2 + bitAt ds pos) * 8 ≤ _ ∧ _ < (0 * 2 + bitAt ds pos + 1) * 8
    rw [← e0]
    unfold spotAt
    omega
  | 2, _ =>
    have e0 := pbit_eq (show pos < 8 * ds.length by omega)
    have e1 := pbit_eq (show pos + 1 < 8 * ds.length by omega)
    show ((0 * 2 + bitAt ds pos) * 2 + bitAt ds (pos + 1)) * 4 ≤ _ ∧ _ < ((0 * 2 + bitAt ds pos) * 2 + bitAt ds (pos + 1) + 1) * 4
    rw [← e0, ← e1]
    unfold spotAt
    omega
  | 3, _ =>
    have e0 := pbit_eq (show pos < 8 * ds.length by omega)
    have e1 := pbit_eq (show pos + 1 < 8 * ds.length by omega)
    have e2 := pbit_eq (show pos + 2 < 8 * ds.length by omega)
    show (((0 * 2 + bitAt ds pos) * 2 + bitAt ds (pos + 1)) * 2 + bitAt ds (pos + 2)) * 2 ≤ _ ∧ _ < (((0 * 2 + bitAt ds pos) * 2 + bitAt ds (pos + 1)) * 2 + bitAt ds (pos + 2) + 1) * 2
    rw [← e0, ← e1, ← e2]
    unfold spotAt
    omega
  | 4, _ =>
    have e0 := pbit_eq (show pos < 8 * ds.length by omega)
    have e1 := pbit_eq (show pos + 1 < 8 * ds.length by omega)
    have e2 := pbit_eq (show pos + 2 < 8 * ds.length by omega)
    have e3 := pbit_eq (show pos + 3 < 8 * ds.length by omega)
    show ((((0 * 2 + bitAt ds pos) * 2 + bitAt ds (pos + 1)) * 2 + bitAt ds (pos + 2)) * 2 + bitAt ds (pos + 3)) * 1 ≤ _ ∧ _ < ((((0 * 2 + bitAt ds pos) * 2 + bitAt ds (pos + 1)) * 2 + bitAt ds (pos + 2)) * 2 + bitAt ds (pos + 3) + 1) * 1
    rw [← e0, ← e1, ← e2, ← e3]
    unfold spotAt
    omega
  | n+5, h => omega
theorem spot_row {ql : List (Int × Int)} {spot : Int} (h0 : 0 ≤ spot) : ∀ n, spot < st ql n → ∃ j, j < n ∧ st ql j ≤ spot ∧ spot < st ql (j + 1)
  | 0, h => by rw [st] at h; omega
  | n+1, h => by
    by_cases q : spot < st ql n
    · obtain ⟨j, h1, h2⟩ := spot_row h0 n q
      exact ⟨j, by omega, h2⟩
    · exact ⟨n, Nat.lt_succ_self n, by omega, h⟩
theorem box_uniq {c d s : Int} {l : Nat} (h1 : 1 ≤ l) (h4 : l ≤ 4) (a : c * 2 ^ (4 - l) ≤ s) (b : s < (c + 1) * 2 ^ (4 - l)) (a' : d * 2 ^ (4 - l) ≤ s) (b' : s < (d + 1) * 2 ^ (4 - l)) : c = d := by
  have := four h1 h4
  rcases this with rfl | rfl | rfl | rfl
  · replace a : c * 8 ≤ s := a; replace b : s < (c + 1) * 8 := b; replace a' : d * 8 ≤ s := a'; replace b' : s < (d + 1) * 8 := b'; omega
  · replace a : c * 4 ≤ s := a; replace b : s < (c + 1) * 4 := b; replace a' : d * 4 ≤ s := a'; replace b' : s < (d + 1) * 4 := b'; omega
  · replace a : c * 2 ≤ s := a; replace b : s < (c + 1) * 2 := b; replace a' : d * 2 ≤ s := a'; replace b' : s < (d + 1) * 2 := b'; omega
  · replace a : c * 1 ≤ s := a; replace b : s < (c + 1) * 1 := b; replace a' : d * 1 ≤ s := a'; replace b' : s < (d + 1) * 1 := b'; omega
theorem st_box {ql : List (Int × Int)} (hb : ∀ p ∈ ql, 1 ≤ p.1 ∧ p.1 ≤ 4) (hS : ql.Pairwise (fun p q => lexlt p q = true)) {j l : Nat} (hj : j < ql.length) (hl : (plAt ql j).1 = (l : Int)) : st ql j = cdOf ql j * 2 ^ (4 - l) ∧ st ql (j + 1) = (cdOf ql j + 1) * 2 ^ (4 - l) := by
  have e := cdOf_st hb hS j hj
  have e2 : (4 - (plAt ql j).1).toNat = 4 - l := by
    rw [hl]
    exact Int.toNat_sub 4 l
  have e3 : st ql (j + 1) = st ql j + 2 ^ (4 - (plAt ql j).1).toNat := rfl
  rw [e3, ← e, e2, Int.add_mul, Int.one_mul]
  exact ⟨rfl, rfl⟩
theorem hit_of {ql : List (Int × Int)} (hb : ∀ p ∈ ql, 1 ≤ p.1 ∧ p.1 ≤ 4) (hS : ql.Pairwise (fun p q => lexlt p q = true)) {j : Nat} (hj : j < ql.length) {ds : List Int} {pos l : Nat} (hl : (plAt ql j).1 = (l : Int)) (hp : pos + l ≤ 8 * ds.length) (h1 : st ql j ≤ spotAt ds pos) (h2 : spotAt ds pos < st ql (j + 1)) : cdOf ql j = cAt ds pos l := by
  have hq := hb (plAt ql j) (by rw [plAt_eq hj]; exact List.getElem_mem _)
  obtain ⟨e1, e2⟩ := st_box hb hS hj hl
  rw [e1] at h1
  rw [e2] at h2
  obtain ⟨h3, h4⟩ := spot_box ds pos (l := l) (by omega) hp
  exact box_uniq (by omega) (by omega) h1 h2 h3 h4
theorem comp_full {ql : List (Int × Int)} (hb : ∀ p ∈ ql, 1 ≤ p.1 ∧ p.1 ≤ 4) (hS : ql.Pairwise (fun p q => lexlt p q = true)) (hc : compB ql = true) : (0 < ql.length ∧ st ql ql.length = 16) ∨ (ql.length = 1 ∧ (plAt ql 0).1 = 1) := by
  rw [compB] at hc
  by_cases h2 : ql.length < 2
  · rw [if_pos h2, Bool.and_eq_true, beq_iff_eq, beq_iff_eq] at hc
    exact .inr hc
  · rw [if_neg h2, beq_iff_eq] at hc
    left
    refine ⟨by omega, ?_⟩
    have hq := hb (plAt ql (ql.length - 1)) (by rw [plAt_eq (by omega)]; exact List.getElem_mem _)
    rw [← tot_st hb hS (by omega) ql.length (Nat.le_refl _), hc, ← Int.pow_add]
    have e : (plAt ql (ql.length - 1)).1.toNat + (4 - (plAt ql (ql.length - 1)).1).toNat = 4 := by omega
    rw [e]
    rfl
theorem le_bf {ql : List (Int × Int)} (hS : ql.Pairwise (fun p q => lexlt p q = true)) {j : Nat} (hj : j < ql.length) : (plAt ql j).1 ≤ bf ql ql.length := by
  obtain ⟨n, hn⟩ : ∃ n, ql.length = n + 1 := ⟨ql.length - 1, by omega⟩
  rw [hn]
  exact lens_le hS (by omega) (by omega)
section
variable {ns : List Int} {ql : List (Int × Int)} (hb : ∀ v ∈ ns, 0 ≤ v ∧ v < 5) (hP : ql.Perm (prsTo ns ns.length)) (hS : ql.Pairwise (fun p q => lexlt p q = true))
include hb hP in
theorem ql_bounds : ∀ p ∈ ql, 1 ≤ p.1 ∧ p.1 ≤ 4 := fun p hp => by
  have := prsTo_len ns hb _ (Nat.le_refl _) p (hP.mem_iff.mp hp)
  exact ⟨this.1, this.2.1⟩
include hb hP hS in
theorem share_st : ((shareTo ns 4).length : Int) = st ql ql.length := by
  have e2 := st_take (ql_bounds hb hP) ql.length (Nat.le_refl _)
  rw [List.take_length, ← dealt_is hb hP hS] at e2
  exact e2.symm
include hb hP hS in
theorem row_is {ds : List Int} {pos j : Nat} (hj : j < ql.length) (h1 : st ql j ≤ spotAt ds pos) (h2 : spotAt ds pos < st ql (j + 1)) : ∃ k : Nat, spotAt ds pos = (k : Int) ∧ (shareTo ns 4)[k]? = some ((plAt ql j).2, (plAt ql j).1) := by
  obtain ⟨k, hk⟩ : ∃ k : Nat, spotAt ds pos = (k : Int) := ⟨_, (Int.toNat_of_nonneg (spot_range ds pos).1).symm⟩
  rw [hk] at h1 h2
  refine ⟨k, hk, ?_⟩
  rw [dealt_is hb hP hS]
  exact dealt_at (ql_bounds hb hP) hj h1 h2
include hb hP hS in
theorem ret_plain {ds : List Int} {pos i j : Nat} (hj : j < ql.length) (hc : cdOf ql j = cAt ds pos (i + 1)) (hl : (plAt ql j).1 = (i : Int) + 1) (hp : pos + (i + 1) ≤ 8 * ds.length) : ∃ k : Nat, spotAt ds pos = (k : Int) ∧ (shareTo ns 4)[k]? = some ((plAt ql j).2, (i : Int) + 1) := by
  have hbq := ql_bounds hb hP
  have hq := hbq (plAt ql j) (by rw [plAt_eq hj]; exact List.getElem_mem _)
  obtain ⟨e1, e2⟩ := st_box hbq hS hj (show (plAt ql j).1 = ((i + 1 : Nat) : Int) from hl)
  obtain ⟨h3, h4⟩ := spot_box ds pos (l := i + 1) (by omega) hp
  rw [← hl]
  refine row_is hb hP hS hj ?_ ?_
  · rw [e1, hc]; exact h3
  · rw [e2, hc]; exact h4
include hb hP hS in
theorem cut_plain {ds : List Int} {pos i : Nat} (hcomp : compB ql = true) (hi : (i : Int) < bf ql ql.length) (hp : pos + i = 8 * ds.length) (hno : ∀ i' : Nat, 1 ≤ i' → i' ≤ i → NoHit ql (cAt ds pos i') i') : ∃ (k : Nat) (a b : Int), spotAt ds pos = (k : Int) ∧ (shareTo ns 4)[k]? = some (a, b) ∧ 8 * (ds.length : Int) < (pos : Int) + b ∧ b ≤ 4 := by
  have hbq := ql_bounds hb hP
  have hr := spot_range ds pos
  have hlt : spotAt ds pos < st ql ql.length := by
    rcases comp_full hbq hS hcomp with ⟨_, e⟩ | ⟨e, e1⟩
    · omega
    · have hz : bf ql ql.length = 1 := by rw [e]; exact e1
      have hi0 : i = 0 := by omega
      have e2 : st ql ql.length = 0 + 2 ^ (4 - (plAt ql 0).1).toNat := by rw [e]; rfl
      rw [e2, e1]
      have z : spotAt ds pos = 0 := by
        unfold spotAt pbit
        rw [if_neg (by omega), if_neg (by omega), if_neg (by omega), if_neg (by omega)]
        rfl
      rw [z]
      decide
  obtain ⟨j, hj, h1, h2⟩ := spot_row hr.1 _ hlt
  have hq := hbq (plAt ql j) (by rw [plAt_eq hj]; exact List.getElem_mem _)
  obtain ⟨k, hk, hd⟩ := row_is hb hP hS hj h1 h2
  refine ⟨k, _, _, hk, hd, ?_, hq.2⟩
  refine Int.not_le.mp fun hle => ?_
  obtain ⟨l, hl⟩ : ∃ l : Nat, (plAt ql j).1 = (l : Int) := ⟨_, (Int.toNat_of_nonneg (by omega)).symm⟩
  have hh := hit_of hbq hS hj hl (by omega) h1 h2
  exact hno l (by omega) (by omega) j hj ⟨hh, hl⟩
include hb hP hS in
theorem bad_plain {ds : List Int} {pos : Nat} (hcomp : compB ql = true) (hp : pos + (bf ql ql.length).toNat ≤ 8 * ds.length) (hno : ∀ i' : Nat, 1 ≤ i' → i' ≤ (bf ql ql.length).toNat → NoHit ql (cAt ds pos i') i') : ((shareTo ns 4).length : Int) ≤ spotAt ds pos ∧ pos < 8 * ds.length := by
  have hbq := ql_bounds hb hP
  have hr := spot_range ds pos
  have h0 : 0 < ql.length := by
    rcases comp_full hbq hS hcomp with ⟨e, _⟩ | ⟨e, _⟩ <;> omega
  have hq0 := hbq (plAt ql 0) (by rw [plAt_eq h0]; exact List.getElem_mem _)
  have hb0 := le_bf hS h0
  refine ⟨?_, by omega⟩
  rw [share_st hb hP hS]
  refine Int.not_lt.mp fun hlt => ?_
  obtain ⟨j, hj, h1, h2⟩ := spot_row hr.1 _ hlt
  have hq := hbq (plAt ql j) (by rw [plAt_eq hj]; exact List.getElem_mem _)
  have hbj := le_bf hS hj
  obtain ⟨l, hl⟩ : ∃ l : Nat, (plAt ql j).1 = (l : Int) := ⟨_, (Int.toNat_of_nonneg (by omega)).symm⟩
  have hh := hit_of hbq hS hj hl (by omega) h1 h2
  exact hno l (by omega) (by omega) j hj ⟨hh, hl⟩
end
end Mine
end
section
open PySem PySem.W PyProof.Rows PySem.Calls PySem.Spec
set_option maxRecDepth 100000
namespace Mine
theorem row_at (f : Nat → Int) (n pos i : Nat) (hi : i < 4) (hp : pos ≤ n) : ((((List.range n).map f).drop pos).take (min (pos + 4) n - pos) ++ [0, 0, 0, 0])[i]? = some (if pos + i < n then f (pos + i) else 0) := by
  have hl : ((((List.range n).map f).drop pos).take (min (pos + 4) n - pos)).length = min (pos + 4) n - pos := by
    rw [List.length_take, List.length_drop, List.length_map, List.length_range]
    exact Nat.min_eq_left (Nat.sub_le_sub_right (Nat.min_le_right _ _) _)
  by_cases q : pos + i < n
  · rw [if_pos q, List.getElem?_append_left (by omega), List.getElem?_take_of_lt (by omega), List.getElem?_drop, List.getElem?_map, List.getElem?_range (by omega)]
    rfl
  · rw [if_neg q, List.getElem?_append_right (by omega), hl]
    have hj : i - (min (pos + 4) n - pos) < 4 := by omega
    generalize i - (min (pos + 4) n - pos) = j at hj
    match j, hj with
    | 0, _ => rfl
    | 1, _ => rfl
    | 2, _ => rfl
    | 3, _ => rfl
    | k+4, h => omega
theorem take4 : ∀ {l : List Int} {a b c d : Int}, l[0]? = some a → l[1]? = some b → l[2]? = some c → l[3]? = some d → l.take 4 = [a, b, c, d]
  | [], _, _, _, _, h, _, _, _ => nomatch h
  | [_], _, _, _, _, _, h, _, _ => nomatch h
  | [_, _], _, _, _, _, _, _, h, _ => nomatch h
  | [_, _, _], _, _, _, _, _, _, _, h => nomatch h
  | x :: y :: z :: u :: r, a, b, c, d, h1, h2, h3, h4 => by
    cases h1
    cases h2
    cases h3
    cases h4
    rfl
/-- the row of four bits, as the law cuts and fills it -/
theorem row_is4 (ds : List Int) (pos : Nat) (hp : pos ≤ 8 * ds.length) :
    List.take 4 (List.take (min ((pos : Int) + 4).toNat (List.map (bitAt ds) (List.range (8 * ds.length))).length - (pos : Int).toNat) (List.drop (pos : Int).toNat (List.map (bitAt ds) (List.range (8 * ds.length)))) ++ [0, 0, 0, 0]) = [pbit ds pos, pbit ds (pos + 1), pbit ds (pos + 2), pbit ds (pos + 3)] := by
  have e1 : ((pos : Int) + 4).toNat = pos + 4 := by omega
  have e2 : (pos : Int).toNat = pos := Int.toNat_natCast pos
  rw [e1, e2, List.length_map, List.length_range]
  exact take4 (row_at _ _ _ 0 (by decide) hp) (row_at _ _ _ 1 (by decide) hp) (row_at _ _ _ 2 (by decide) hp) (row_at _ _ _ 3 (by decide) hp)
end Mine
end
section
open PySem PySem.W PyProof.Rows PySem.Calls PySem.Spec
set_option maxRecDepth 100000
namespace Mine
theorem topOff12 : True := by
  w_top off
  trivial
theorem fmod7 (x : Int) : 0 ≤ x.fmod 7 ∧ x.fmod 7 ≤ 6 := by
  rw [Int.fmod_eq_emod_of_nonneg _ (by decide)]
  omega
theorem fmod5 (x : Int) : 0 ≤ x.fmod 5 ∧ x.fmod 5 < 5 := by
  rw [Int.fmod_eq_emod_of_nonneg _ (by decide)]
  omega
theorem map5 (l : List Int) : ∀ v ∈ l.map (fun k' => k'.fmod 5), 0 ≤ v ∧ v < 5 := fun v hv => by
  obtain ⟨u, _, rfl⟩ := List.mem_map.mp hv
  exact fmod5 u
theorem snoc5 {ns : List Int} (h : ∀ v ∈ ns, 0 ≤ v ∧ v < 5) (x : Int) (hx : 0 ≤ x ∧ x < 5) : ∀ v ∈ ns ++ [x], 0 ≤ v ∧ v < 5 := fun v hv => by
  rcases List.mem_append.mp hv with hv | hv
  · exact h v hv
  · rw [List.mem_singleton.mp hv]; exact hx
theorem mem_hr {p q d e r : Addr × Obj} {t : List (Addr × Obj)} (h : r ∈ p :: q :: (t ++ [e])) : r ∈ p :: q :: (t ++ [d, e]) := by
  rcases List.mem_cons.mp h with rfl | h
  · exact .head _
  rcases List.mem_cons.mp h with rfl | h
  · exact .tail _ (.head _)
  rcases List.mem_append.mp h with h | h
  · exact .tail _ (.tail _ (List.mem_append.mpr (.inl h)))
  · exact .tail _ (.tail _ (List.mem_append.mpr (.inr (.tail _ h))))
theorem fmod256 (x : Int) : 0 ≤ x.fmod 256 ∧ x.fmod 256 < 256 := by
  rw [Int.fmod_eq_emod_of_nonneg _ (by decide)]
  omega
theorem len65 (many : Int) (h : 0 ≤ many) (a b : Nat) : min (min (4 + many).toNat a - (1 + many).toNat) b ≤ 3 := by
  obtain ⟨n, rfl⟩ := Int.eq_ofNat_of_zero_le h
  show min (min (4 + n) a - (1 + n)) b ≤ 3
  exact Nat.le_trans (Nat.min_le_left _ _) (Nat.le_trans (Nat.sub_le_sub_right (Nat.min_le_left _ _) _) (Nat.sub_le_of_le_add (by omega)))
theorem map256 (l : List Int) : ∀ v ∈ l.map (fun k' => k'.fmod 256), 0 ≤ v ∧ v < 256 := fun v hv => by
  obtain ⟨u, _, rfl⟩ := List.mem_map.mp hv
  exact fmod256 u
/-- what the law's word data holds -/
structure DataEnd (h₀ : Heap) (L : Addr) (x : Str) (m : Str → Option Value) (news : List (Addr × Obj)) (s : Shared) (f : Flow) (s' : Shared) : Prop where
  next : f = .next
  told : ∃ D dvs ds dn h tk, s' = { s with heap := h, toks := tk } ∧ IntsAre dvs ds ∧ 1 ≤ ds.length ∧ ds.length ≤ 3 ∧ (∀ v ∈ ds, 0 ≤ v ∧ v < 256) ∧ Fr h₀ L h (fun z => if z = x then some (.ref D) else m z) ∧ News h₀ L h ((D, listOf dvs.toArray dn) :: news) ∧ LCg.Off1 D news
theorem seg_data {prog : Program} {w : World} {A : Around} {E : Value → Shared → Prop} {Q : Flow → Shared → Prop} {s : Shared} {h₀ : Heap} {L : Addr} {st : Sem Flow} {m m' : Str → Option Value} {news : List (Addr × Obj)} (x : Str) (_F : Fr h₀ L s.heap m')
    (h1 : wpAny (model prog w) A st (DataEnd h₀ L x m news s) E s)
    (h2 : ∀ D dvs ds dn h tk, IntsAre dvs ds → 1 ≤ ds.length → ds.length ≤ 3 → (∀ v ∈ ds, 0 ≤ v ∧ v < 256) → Fr h₀ L h (fun z => if z = x then some (.ref D) else m z) → News h₀ L h ((D, listOf dvs.toArray dn) :: news) → LCg.Off1 D news → Q .next { s with heap := h, toks := tk }) : wpAny (model prog w) A st Q E s :=
  wpAny_mono h1 (fun f s' q => by obtain ⟨rfl, D, dvs, ds, dn, h, tk, rfl, e1, e2, e3, e4, F, N, o⟩ := q; exact h2 D dvs ds dn h tk e1 e2 e3 e4 F N o) fun _ _ e => e
theorem isData {M : Model} {A : Around} {E : Value → Shared → Prop} {s : Shared} {t a b c d e f} (z : wpAny M A t (DataEnd a b c d e f) E s) : wpAny M A t (DataEnd a b c d e f) E s := z
theorem off1_mem {D : Addr} : ∀ {l : List (Addr × Obj)}, LCg.Off1 D l → ∀ p ∈ l, @Ne Nat p.1 D
  | [], _, _, h => nomatch h
  | _ :: _, h, _, hp => (List.mem_cons.mp hp).elim (fun e => e ▸ h.1) (fun hp => off1_mem h.2 _ hp)
theorem off1_of {D : Addr} : ∀ {l : List (Addr × Obj)}, (∀ p ∈ l, @Ne Nat p.1 D) → LCg.Off1 D l
  | [], _ => trivial
  | _ :: _, h => ⟨h _ (.head _), off1_of fun p hp => h p (.tail _ hp)⟩
theorem mem_sub5 {d2 pd dd d1 r : Addr × Obj} {tt dt : List (Addr × Obj)} (h : r ∈ tt ++ dd :: dt) : r ∈ tt ++ d2 :: pd :: dd :: (dt ++ [d1]) := by
  rcases List.mem_append.mp h with h | h
  · exact List.mem_append.mpr (.inl h)
  · refine List.mem_append.mpr (.inr (.tail _ (.tail _ ?_)))
    rcases List.mem_cons.mp h with rfl | h
    · exact .head _
    · exact .tail _ (List.mem_append.mpr (.inl h))
theorem mem_sub7 {x dx sd d2 pd dd d1 r : Addr × Obj} {tt dt : List (Addr × Obj)} (h : r ∈ x :: dx :: sd :: (tt ++ dd :: dt)) : r ∈ x :: dx :: sd :: (tt ++ d2 :: pd :: dd :: (dt ++ [d1])) := by
  rcases List.mem_cons.mp h with rfl | h
  · exact .head _
  rcases List.mem_cons.mp h with rfl | h
  · exact .tail _ (.head _)
  rcases List.mem_cons.mp h with rfl | h
  · exact .tail _ (.tail _ (.head _))
  · exact .tail _ (.tail _ (.tail _ (mem_sub5 h)))
theorem mem_sub8 {l s x dx sd d2 pd dd d1 r : Addr × Obj} {tt dt : List (Addr × Obj)} (h : r ∈ l :: x :: dx :: sd :: (tt ++ dd :: dt)) : r ∈ l :: s :: x :: dx :: sd :: (tt ++ d2 :: pd :: dd :: (dt ++ [d1])) := by
  rcases List.mem_cons.mp h with rfl | h
  · exact .head _
  · exact .tail _ (.tail _ (mem_sub7 h))
theorem fr_self5 {g h : Heap} {L : Addr} {m : Str → Option Value} (F : Fr g L h m) {x1 x2 x3 x4 x5 : Str} {v1 v2 v3 v4 v5 : Option Value} (e1 : m x1 = v1) (e2 : m x2 = v2) (e3 : m x3 = v3) (e4 : m x4 = v4) (e5 : m x5 = v5) :
    ∃ bm : Str → Option Value, Fr g L h (fun y => if y = x1 then v1 else if y = x2 then v2 else if y = x3 then v3 else if y = x4 then v4 else if y = x5 then v5 else bm y) := by
  refine ⟨m, fr_to F fun y => ?_⟩
  by_cases q : y = x1
  · rw [if_pos q, q, e1]
  rw [if_neg q]
  by_cases q : y = x2
  · rw [if_pos q, q, e2]
  rw [if_neg q]
  by_cases q : y = x3
  · rw [if_pos q, q, e3]
  rw [if_neg q]
  by_cases q : y = x4
  · rw [if_pos q, q, e4]
  rw [if_neg q]
  by_cases q : y = x5
  · rw [if_pos q, q, e5]
  rw [if_neg q]
theorem mem_mid {z r : Addr × Obj} {t u : List (Addr × Obj)} (h : r ∈ z :: (t ++ u)) : r ∈ t ++ z :: u := by
  rcases List.mem_cons.mp h with rfl | h
  · exact List.mem_append.mpr (.inr (.head _))
  rcases List.mem_append.mp h with h | h
  · exact List.mem_append.mpr (.inl h)
  · exact List.mem_append.mpr (.inr (.tail _ h))
theorem mem_bd {a b c d e f y z r : Addr × Obj} {t : List (Addr × Obj)} (h : r ∈ [y, z] ++ a :: b :: c :: d :: e :: f :: t) : r ∈ a :: b :: c :: d :: e :: f :: y :: z :: t := by
  rcases List.mem_cons.mp h with rfl | h
  · exact .tail _ (.tail _ (.tail _ (.tail _ (.tail _ (.tail _ (.head _))))))
  rcases List.mem_cons.mp h with rfl | h
  · exact .tail _ (.tail _ (.tail _ (.tail _ (.tail _ (.tail _ (.tail _ (.head _)))))))
  rcases List.mem_cons.mp h with rfl | h
  · exact .head _
  rcases List.mem_cons.mp h with rfl | h
  · exact .tail _ (.head _)
  rcases List.mem_cons.mp h with rfl | h
  · exact .tail _ (.tail _ (.head _))
  rcases List.mem_cons.mp h with rfl | h
  · exact .tail _ (.tail _ (.tail _ (.head _)))
  rcases List.mem_cons.mp h with rfl | h
  · exact .tail _ (.tail _ (.tail _ (.tail _ (.head _))))
  rcases List.mem_cons.mp h with rfl | h
  · exact .tail _ (.tail _ (.tail _ (.tail _ (.tail _ (.head _)))))
  · exact .tail _ (.tail _ (.tail _ (.tail _ (.tail _ (.tail _ (.tail _ (.tail _ h)))))))
theorem mem_rot {a b c d e f g z r : Addr × Obj} {t u : List (Addr × Obj)} (h : r ∈ a :: b :: d :: e :: f :: g :: c :: z :: (t ++ u)) : r ∈ a :: b :: c :: d :: e :: f :: g :: (t ++ z :: u) := by
  rcases List.mem_cons.mp h with rfl | h
  · exact .head _
  rcases List.mem_cons.mp h with rfl | h
  · exact .tail _ (.head _)
  refine .tail _ (.tail _ ?_)
  rcases List.mem_cons.mp h with rfl | h
  · exact .tail _ (.head _)
  rcases List.mem_cons.mp h with rfl | h
  · exact .tail _ (.tail _ (.head _))
  rcases List.mem_cons.mp h with rfl | h
  · exact .tail _ (.tail _ (.tail _ (.head _)))
  rcases List.mem_cons.mp h with rfl | h
  · exact .tail _ (.tail _ (.tail _ (.tail _ (.head _))))
  rcases List.mem_cons.mp h with rfl | h
  · exact .head _
  exact .tail _ (.tail _ (.tail _ (.tail _ (.tail _ (mem_mid h)))))
/-- two lists of unlike lengths do not lie at one place -/
theorem list_ne {g h : Heap} {L a b : Addr} {news : List (Addr × Obj)} {xs ys : List Value} {j k : Nat} (N : News g L h news) (h1 : (a, listOf xs.toArray k) ∈ news) (h2 : (b, listOf ys.toArray j) ∈ news) (hne : xs.length ≠ ys.length) : a ≠ b := by
  intro e
  subst e
  have e1 := (N _ h1).1
  have e2 := (N _ h2).1
  rw [e1] at e2
  injection e2 with e2
  injection e2 with _ _ e2
  injection e2 with e2
  exact hne (by rw [← List.size_toArray, ← List.size_toArray, e2])
/-- what one call of _law_symbol leaves: a value, and a ledger behind the two lists -/
structure ToldEnd (h₀ : Heap) (L : Addr) (x : Str) (m : Str → Option Value) (hd2 : List (Addr × Obj)) (C : Value → List (Addr × Obj) → Prop) (s : Shared) (f : Flow) (s' : Shared) : Prop where
  next : f = .next
  told : ∃ v R h tk, C v R ∧ s' = { s with heap := h, toks := tk } ∧ Fr h₀ L h (fun z => if z = x then some v else m z) ∧ News h₀ L h (hd2 ++ R)
theorem seg_told {prog : Program} {w : World} {A : Around} {E : Value → Shared → Prop} {Q : Flow → Shared → Prop} {s : Shared} {h₀ : Heap} {L : Addr} {st : Sem Flow} {m : Str → Option Value} {hd2 : List (Addr × Obj)} (x : Str) (C : Value → List (Addr × Obj) → Prop) (_F : Fr h₀ L s.heap m)
    (h1 : wpAny (model prog w) A st (ToldEnd h₀ L x m hd2 C s) E s)
    (h2 : ∀ v R h tk, C v R → Fr h₀ L h (fun z => if z = x then some v else m z) → News h₀ L h (hd2 ++ R) → Q .next { s with heap := h, toks := tk }) : wpAny (model prog w) A st Q E s :=
  wpAny_mono h1 (fun f s' q => by obtain ⟨rfl, v, R, h, tk, c, rfl, F, N⟩ := q; exact h2 v R h tk c F N) fun _ _ e => e
theorem isTold {M : Model} {A : Around} {E : Value → Shared → Prop} {s : Shared} {t a b c d e f g} (z : wpAny M A t (ToldEnd a b c d e f g) E s) : wpAny M A t (ToldEnd a b c d e f g) E s := z
theorem mem_ret {a b c d e f y z r : Addr × Obj} {t R : List (Addr × Obj)} (k : ∀ p ∈ a :: b :: c :: d :: e :: f :: t, p ∈ R) (h : r ∈ a :: b :: c :: d :: e :: f :: y :: z :: t) : r ∈ y :: z :: R := by
  rcases List.mem_cons.mp h with rfl | h
  · exact .tail _ (.tail _ (k _ (.head _)))
  rcases List.mem_cons.mp h with rfl | h
  · exact .tail _ (.tail _ (k _ (.tail _ (.head _))))
  rcases List.mem_cons.mp h with rfl | h
  · exact .tail _ (.tail _ (k _ (.tail _ (.tail _ (.head _)))))
  rcases List.mem_cons.mp h with rfl | h
  · exact .tail _ (.tail _ (k _ (.tail _ (.tail _ (.tail _ (.head _))))))
  rcases List.mem_cons.mp h with rfl | h
  · exact .tail _ (.tail _ (k _ (.tail _ (.tail _ (.tail _ (.tail _ (.head _)))))))
  rcases List.mem_cons.mp h with rfl | h
  · exact .tail _ (.tail _ (k _ (.tail _ (.tail _ (.tail _ (.tail _ (.tail _ (.head _))))))))
  rcases List.mem_cons.mp h with rfl | h
  · exact .head _
  rcases List.mem_cons.mp h with rfl | h
  · exact .tail _ (.head _)
  · exact .tail _ (.tail _ (k _ (.tail _ (.tail _ (.tail _ (.tail _ (.tail _ (.tail _ h))))))))
section
local macro_rules | `(tactic| k_mem) => `(tactic| kcf_m)
local macro_rules | `(tactic| walk_at "subscriptTail Name Slice ref ref") => `(tactic| (k_here; (first | (with_reducible refine fSlB ?_) | (with_reducible refine fSlN ?_))))
local macro_rules | `(tactic| walk_at "subscriptTail BinOp") => `(tactic| (k_here; k_dflt (refine kba_turn (value' := PySem.Expr.Name (PySem.Str.ofString "row") ⟨0, 0, 0, 0⟩) (fun _ => rfl) ?_)))
local macro_rules | `(tactic| walk_at "exec While") => `(tactic| (k_here; refine Fence.it ?_))
local macro_rules | `(tactic| walk_at "call ref") => `(tactic| (k_here; (first | (with_reducible refine fCall1 ?_) | (with_reducible refine fCall2 ?_))))
local macro_rules | `(tactic| walk_at "exec Assign cons ListComp") => `(tactic| (k_here; (with_reducible refine fLcN ?_)))
local macro_rules | `(tactic| walk_at "CompSrcT") => `(tactic| (k_here; refine Fence.it ?_))
local macro_rules | `(tactic| walk_at "exec Assign cons ListComp") => `(tactic| (k_here; (with_reducible refine fLcB ?_)))
local macro_rules | `(tactic| walk_at "CompSrc") => `(tactic| (k_here; (with_reducible refine fCS ?_)))
local macro_rules | `(tactic| walk_at "exec If") => `(tactic| (k_here; (fail_if_success (with_reducible refine isData ?_)); (with_reducible refine fIf ?_)))
local macro_rules | `(tactic| walk_at "exec Assign") => `(tactic| (k_here; (fail_if_success (with_reducible refine isInt ?_)); (with_reducible refine fAsB ?_)))
local macro_rules | `(tactic| walk_at "exec Assign") => `(tactic| (k_here; (fail_if_success (with_reducible refine isTold ?_)); (with_reducible refine fAsC ?_)))
set_option maxHeartbeats 8000000 in
theorem law_K : Challenge.rw_pb0313_01.Holds := hd (by
  w_strict (
    k_go0
    (all_goals try k_fold)
    rename Fr _ _ _ _ => F0
    refine with_fin F0 ?_ fun Q fin => ?_
    · intro h' tk m' news' F' N'
      clear F0
      (try dsimp only); k_steps
    rename_i G Y fa o pm doc kV ho hg KX X V GL T B TE TW w9 w8 M w7 w6 hcd sn hs hlay0 hL1 hr1 hl2 w4 w3 sl svs w0 hL ra w1 r0 hI hr hc1 hc2 K0 hD h1 N1
    clear hs hlay0 hL1 hr1 hl2 ra w1 r0 hr hc2 hD M hcd TE TW B GL V X hg ho Y
    walk1
    walk1
    have F1 := F0
    clear F0
    refine seg_int (news := []) (Str.ofString "many") (fun n => 0 ≤ n ∧ n ≤ 6) F1 ?_ ?_
    · (try dsimp only); k_steps
      · rename_i F3 N3
        refine ⟨rfl, _, _, _, _, fmod7 _, rfl, F3, N3⟩
      · rename_i F3 N3
        refine ⟨rfl, _, _, _, _, ⟨?_, ?_⟩, rfl, F3, N3⟩
        all_goals omega
    · clear F1 N1
      intro many tm h2 tk2 hm F2 N2
      obtain ⟨hm0, hm6⟩ := hm
      (try dsimp only); k_steps
      rename_i D1 ws h3 N3 hws hcl hll hl1 hk1 hk2 g3 ys hys hyl D2 h4 tk4 F4 N4 o12
      refine ⟨?_⟩
      obtain ⟨xs, hxs, hx5, hxl⟩ : ∃ xs : List Int, IntsAre ys xs ∧ (∀ v ∈ xs, 0 ≤ v ∧ v < 5) ∧ (xs.length : Int) ≤ many := ⟨_, hys, map5 _, by rw [List.length_map, List.length_take]; omega⟩
      clear hys hyl hcl hll N3
      refine While_inv2 (fun n m₁ news₁ => ∃ (ls : List Value) (ns : List Int) (k : Nat), m₁ = _ ∧ news₁ = [(D2, listOf ls.toArray k), (D1, listOf ws.toArray 0)] ∧ IntsAre ls ns ∧ (∀ v ∈ ns, 0 ≤ v ∧ v < 5) ∧ (ns.length : Int) ≤ many ∧ n = (many - ns.length).toNat) F4 N4 ⟨ys, xs, _, rfl, rfl, hxs, hx5, hxl, rfl⟩ ?_
      rintro n m₁ news₁ h5 tk5 F5 N5 ⟨ls, ns, k, rfl, rfl, hls, hns5, hnl, rfl⟩
      clear F4 N4 hxs hx5 hxl
      (try dsimp only); k_steps
      · rename_i F6 N6
        obtain ⟨t9, N9⟩ : ∃ t9, News _ _ _ ((D2, listOf (ls.toArray.push (Value.int 1 t9)) (k + 1)) :: [(D1, listOf ws.toArray 0)]) := ⟨_, fun p hp => N6 p (.tail _ hp)⟩
        rw [List.push_toArray] at N9
        exact ⟨_, _, _, _, _, rfl, F6, N9, by rw [List.length_append]; show (many - ((ns.length + 1 : Nat) : Int)).toNat < _; omega, ⟨ls ++ [Value.int 1 t9], ns ++ [1], k + 1, rfl, rfl, ints_snoc hls _ _, snoc5 hns5 1 (by decide), by rw [List.length_append]; show ((ns.length + 1 : Nat) : Int) ≤ _; omega, rfl⟩⟩
      · rename_i F6 N6
        obtain ⟨t9, N9⟩ : ∃ t9, News _ _ _ ((D2, listOf (ls.toArray.push (Value.int 2 t9)) (k + 1)) :: [(D1, listOf ws.toArray 0)]) := ⟨_, fun p hp => N6 p (.tail _ hp)⟩
        rw [List.push_toArray] at N9
        exact ⟨_, _, _, _, _, rfl, F6, N9, by rw [List.length_append]; show (many - ((ns.length + 1 : Nat) : Int)).toNat < _; omega, ⟨ls ++ [Value.int 2 t9], ns ++ [2], k + 1, rfl, rfl, ints_snoc hls _ _, snoc5 hns5 2 (by decide), by rw [List.length_append]; show ((ns.length + 1 : Nat) : Int) ≤ _; omega, rfl⟩⟩
      · rename_i F6 N6
        obtain ⟨t9, N9⟩ : ∃ t9, News _ _ _ ((D2, listOf (ls.toArray.push (Value.int 2 t9)) (k + 1)) :: [(D1, listOf ws.toArray 0)]) := ⟨_, fun p hp => N6 p (.tail _ hp)⟩
        rw [List.push_toArray] at N9
        exact ⟨_, _, _, _, _, rfl, F6, N9, by rw [List.length_append]; show (many - ((ns.length + 1 : Nat) : Int)).toNat < _; omega, ⟨ls ++ [Value.int 2 t9], ns ++ [2], k + 1, rfl, rfl, ints_snoc hls _ _, snoc5 hns5 2 (by decide), by rw [List.length_append]; show ((ns.length + 1 : Nat) : Int) ≤ _; omega, rfl⟩⟩
      · refine ⟨?_⟩
        k_dflt (refine' share_M _ _ _ _ _ _ _ _ _ _ _ _ _ _ _ _ _ _ _ _ _ _ ?k1 ?k2 ?k3 ?k4 ?km ?k5 ?k6 ?k7 ?kl ?kb ?k8 ?k9 ?_)
        (case k1 => k_asm)
        (case k2 => k_asm)
        (case k3 => k_asm)
        (case k4 => k_asm)
        (case km => k_mem)
        (case k5 => k_asm)
        (case k6 => first | exact rfl | assumption)
        (case k7 => assumption)
        (case kl => omega)
        (case kb => assumption)
        (case k8 => ktr_room)
        (case k9 => ktr_units)
        intro DD kd h6 tk6 dls dtl F6 N6 hdd
        (try dsimp only); k_steps
        refine ⟨?_⟩
        lct_look
        lcg_calm
        k_dflt (refine LCt.Assign_ListComp_T (F₀ := by k_asm) (by rfl) (by with_unfolding_all rfl) (by with_unfolding_all rfl) (by decide) (by rfl) (by decide) (by rfl) (by rfl) (by rfl) ?_)
        (try dsimp only); k_steps
        rename_i h7 F7 N7
        refine ⟨?_⟩
        have hnm : (ns.length : Int) = many := by omega
        have hnl6 : ns.length ≤ 6 := by omega
        have hlsl : ls.length = ns.length := hls.length
        refine LCt.CompSrcT.ledger (its := ls.toArray) (k := k) (by rfl) F7 N7 (.tail _ (List.mem_append.mpr (.inr (.head _)))) (by rw [List.size_toArray, sizeLine_eq]; omega) fun g8 => ?_
        refine restT_ind _ _ (fun i ys nw => nw = (DD, listOf dls.toArray kd) :: (dtl ++ [(D2, listOf ls.toArray k), (D1, listOf ws.toArray 0)]) ∧ IntsAre ys ((ns.take i).filter (fun v => decide (0 < v)))) ⟨rfl, .nil⟩ ?_ ?_
        · rintro i ys nw hn ⟨rfl, hys⟩ v I oI C oC D m₂ h tk E' hv h2 h3 h4 h5' h6' h7'
          obtain ⟨n, tn, hvn, hnn⟩ := hls.at i v (by simpa using hv)
          subst hvn
          (try dsimp only); k_steps
          · rename_i hpos
            refine LCg.CompEnd.intro h4 h5' _ (fun p hp => hp) h6' (.inr ⟨_, .tail _ (List.mem_append.mpr (.inr (.head _))), rfl, _, rfl⟩) ⟨rfl, ?_⟩
            rw [List.take_add_one, hnn, List.filter_append, Option.toList_some, List.filter_cons, if_pos (decide_eq_true hpos)]
            exact ints_snoc hys n tn
          · rename_i hpos
            refine LCg.CompEnd.intro h4 h5' _ (fun p hp => hp) h6' (.inr ⟨_, .tail _ (List.mem_append.mpr (.inr (.head _))), rfl, _, rfl⟩) ⟨rfl, ?_⟩
            rw [List.take_add_one, hnn, List.filter_append, Option.toList_some, List.filter_cons, if_neg (by rw [decide_eq_true_eq]; exact hpos), List.filter_nil, List.append_nil]
            exact hys
        · rintro ys nw ⟨rfl, hys⟩
          rw [List.size_toArray, hlsl, List.take_length] at hys
          obtain ⟨ps, hps⟩ : ∃ ps, ps = List.filter (fun v => decide (0 < v)) ns := ⟨_, rfl⟩
          rw [← hps] at hys
          have hyl : ys.length = ps.length := hys.length
          have hpl : ps.length ≤ 6 := by rw [hps]; exact Nat.le_trans (List.length_filter_le _ _) hnl6
          walk1
          walk1
          rename_i PD h9 tk9 F9 N9 o9
          obtain ⟨dds, hdds⟩ : ∃ d, d = (shareTo ns 4).map pairD := ⟨_, rfl⟩
          rw [← hdds] at hdd
          have hddl : dds.length = (shareTo ns 4).length := by rw [hdds, List.length_map]
          have hs96 : (shareTo ns 4).length ≤ 192 := Nat.le_trans (shareTo_len ns 4) (by omega)
          refine seg_bool (news := (PD, LCg.lst ys) :: (DD, listOf dls.toArray kd) :: (dtl ++ [(D2, listOf ls.toArray k), (D1, listOf ws.toArray 0)])) (Str.ofString "sound") (soundB ns) F9 ?_ ?_
          · (try dsimp only); k_steps
            · rename_i hps1 PL hx8 lP hy8 F11 N11
              have eb : decide (ps = [1]) = soundB ns := by rw [soundB, ← hps, if_pos (by omega)]
              rw [eb] at F11
              exact ⟨rfl, _, _, rfl, F11, fun p hp => N11 p (.tail _ hp)⟩
            · rename_i hps2 hk9 F11 N11
              have eb : ((dds.length : Int) == 16) = soundB ns := by rw [hddl, soundB, ← hps, if_neg (by omega)]
              rw [eb] at F11
              exact ⟨rfl, _, _, rfl, F11, N11⟩
          · clear F9 N9
            intro h10 tk10 F10 N10
            (try dsimp only); k_steps
            refine ⟨?_⟩
            refine dec_M _ _ _ _ _ _ _ _ _ _ _ _ _ _ _ D2 ls ns k ((PD, LCg.lst ys) :: (DD, listOf dls.toArray kd) :: (dtl ++ [(D1, listOf ws.toArray 0)])) _ (by k_asm) F10 KX KX T N10 (.tail _ (.tail _ (List.mem_append.mpr (.inr (.head _))))) (fun q hq => mem_hr hq) T rfl hls hnl6 hns5 (by ktr_room) (by ktr_units) ?_ ?_
            · intro ql x dx sd so k1 k2 t TT h11 tk11 hP hS hc hK lo F11 N11 o1 o2 o3 o4
              have hs : soundB ns = true := by rw [← comp_sound hns5 hP hS, hc]
              clear hm6 hl1 hk2 g3 hnl hnm hlsl hyl hpl
              clear F10 N10
              rw [hs] at F11
              (try dsimp only); k_steps
              refine ⟨?_⟩
              k_dflt (refine LCg.Assign_ListComp_U (F₀ := by k_asm) (by rfl) (by with_unfolding_all rfl) (by with_unfolding_all rfl) (by decide) (by rfl) (by decide) (by rfl) (by rfl) (by rfl) ?_)
              (try dsimp only); k_steps
              refine ⟨?_⟩
              k_dflt (refine' kmk_slice_ints ?a1 ?a2 ?a3 ?a4 ?a5 ?a6 ?a7 ?a8 ?_ ?b1 ?b2 ?b3)
              (case a1 => k_asm)
              (case a2 => k_asm)
              (case a3 => kmk_list)
              (case a4 => kmk_part)
              (case a5 => kmk_part)
              (case a6 => l_ints)
              (case a7 => (with_reducible refine' kmk_run ?c1 ?c2 ?c3); (case c1 => l_ints); (case c2 => kmk_sign); (case c3 => kmk_sign))
              (case a8 => kmk_len)
              (case b1 => with_unfolding_all rfl)
              (case b2 => kmk_pure)
              (case b3 => refine kmk_sz (by l_ints) ?_; (simp only [sizeLine_eq]); omega)
              intro SD sws hh1 SF SN sl1 shI shC shL
              (try k_lt sl1)
              (try k_sweep)
              (try dsimp only); k_steps
              refine ⟨?_⟩
              w_top off
              rename World => ww
              refine LCg.CompSrc.ledger (its := sws.toArray) (k := 0) (by rfl) SF SN (.head _) (by have := shI.length; rw [List.size_toArray, sizeLine_eq]; omega) fun g8 => ?_
              refine kcf_list (fun k' => k'.fmod 256) shI ?_ ?_
              · intro k t I oI C oC D m₂ ys h tk E' hk hC hx F N off ne mk
                (try dsimp only); k_steps
              · unfold KPfDone
                intro zs hzs LD h9 tk9 F9 N9 o9
                obtain ⟨ds0, hds, hd3, hdb⟩ : ∃ ds0 : List Int, IntsAre zs ds0 ∧ ds0.length ≤ 3 ∧ (∀ v ∈ ds0, 0 ≤ v ∧ v < 256) := ⟨_, hzs, by rw [List.length_map, shC]; exact len65 many hm0 _ _, map256 _⟩
                obtain ⟨bm, F10⟩ := fr_self3 (v1 := some (.ref LD)) (v2 := some (.ref x)) (v3 := some (.ref DD)) F9 (x1 := Str.ofString "data") (x2 := Str.ofString "made") (x3 := Str.ofString "dealt") rfl rfl rfl
                obtain ⟨N10⟩ : Nonempty (News _ _ _ ((LD, LCg.lst zs) :: (x, instObj 138 dx) :: (dx, decObj ww k1 k2 sd (bf ql ql.length) t) :: (sd, so) :: (TT ++ (DD, listOf dls.toArray kd) :: dtl))) := ⟨fun p hp => N9 p (mem_sub8 hp)⟩
                have o10 : LCg.Off1 LD ((x, instObj 138 dx) :: (dx, decObj ww k1 k2 sd (bf ql ql.length) t) :: (sd, so) :: (TT ++ (DD, listOf dls.toArray kd) :: dtl)) := off1_of fun p hp => off1_mem (D := LD) o9.2 p (mem_sub7 hp)
                clear hzs shI shC shL sl1 SN SF F9 N9 o9 N5 F5 hws
                (try dsimp only); k_steps
                refine ⟨?_⟩
                refine seg_data (m := (fun y => if y = Str.ofString "made" then some (Value.ref x) else if y = Str.ofString "dealt" then some (Value.ref DD) else bm y)) (news := (x, instObj 138 dx) :: (dx, decObj ww k1 k2 sd (bf ql ql.length) t) :: (sd, so) :: (TT ++ (DD, listOf dls.toArray kd) :: dtl)) (Str.ofString "data") F10 ?_ ?_
                · (try dsimp only); k_steps
                  · rename_i EL hA lE e0 NL hB lN hC F11 N11
                    obtain ⟨t9, N11⟩ : ∃ t9, News _ _ _ ((NL, listOf [Value.int 180 t9].toArray 0) :: (EL, listOf #[] 0) :: (LD, LCg.lst zs) :: (x, instObj 138 dx) :: (dx, decObj ww k1 k2 sd (bf ql ql.length) t) :: (sd, so) :: (TT ++ (DD, listOf dls.toArray kd) :: dtl)) := ⟨_, N11⟩
                    refine ⟨rfl, NL, _, [180], 0, _, _, rfl, .cons 180 t9 .nil, by decide, by decide, (fun v hv => by rw [List.mem_singleton.mp hv]; decide), fr_to F11 fun y => ?_, (fun p hp => N11 p ?_), ⟨Nat.ne_of_lt lN.2.2.1, Nat.ne_of_lt lN.2.2.2.1, Nat.ne_of_lt lN.2.2.2.2.1, off1_of fun p hp => Nat.ne_of_lt (allLt_mem lN.2.2.2.2.2 p hp)⟩⟩
                    · by_cases e : y = Str.ofString "data"
                      · rw [if_pos e, if_pos e]
                      · rw [if_neg e, if_neg e, if_neg e]
                    · rcases List.mem_cons.mp hp with rfl | hp
                      · exact .head _
                      · exact .tail _ (.tail _ (.tail _ hp))
                  · rename_i EL hA F11 N11 lE e0
                    refine ⟨rfl, LD, zs, ds0, zs.length, _, _, rfl, hds, Nat.pos_of_ne_zero (fun z => of_decide_eq_false e0 (List.length_eq_zero_iff.mp z)), hd3, hdb, F11, (fun p hp => N11 p (.tail _ hp)), o10⟩
                · clear F10 N10 o10 hds hd3 hdb
                  intro LD dvs ds dn h12 tk12 hdv hd1 hd3 hdb F12 N12 o12
                  clear hm0 hc1
                  (try dsimp only); k_steps
                  refine ⟨?_⟩
                  refine bits_K _ _ _ _ _ _ _ _ _ _ _ _ _ _ _ _ _ LD dvs ds dn _ (by k_asm) F12 KX N12 T rfl hdv hd3 hdb (by ktr_room) (by ktr_units) ?_
                  intro BD bk h13 tk13 bvs F13 N13 hbv
                  clear F12 N12
                  (try dsimp only); k_steps
                  rename_i rx rdx hA l1 l2 gA LA hB BA XA TA tkA hC hD' hE FA NA TcA kXA hF hG F14 N14
                  clear FA NA TcA kXA BA XA TA
                  w_top off
                  refine ⟨?_⟩
                  obtain ⟨ta, bm2, F15⟩ : ∃ (ta : Tok) (bm2 : Str → Option Value), Fr _ _ _ (fun y => if y = Str.ofString "at" then some (Value.int ((0 : Nat) : Int) ta) else if y = Str.ofString "reading" then some (Value.ref rx) else if y = Str.ofString "bits" then some (Value.ref BD) else if y = Str.ofString "made" then some (Value.ref x) else if y = Str.ofString "dealt" then some (Value.ref DD) else bm2 y) := ⟨_, fr_self5 F14 rfl rfl rfl rfl rfl⟩
                  obtain ⟨k3, k4, k5, t2, t3, N15⟩ : ∃ (k3 k4 k5 t2 t3 : Tok), News _ _ _ ((rx, instObj 91 rdx) :: (rdx, rdObj ww k3 k4 k5 LD 0 t2 t3) :: (LD, listOf dvs.toArray dn) :: (x, instObj 138 dx) :: (dx, decObj ww k1 k2 sd (bf ql ql.length) t) :: (sd, so) :: (BD, listOf bvs.toArray bk) :: (DD, listOf dls.toArray kd) :: (TT ++ dtl)) := ⟨_, _, _, _, _, fun p hp => N14 p (mem_rot hp)⟩
                  obtain ⟨bits, hbits⟩ : ∃ b, b = List.map (bitAt ds) (List.range (8 * ds.length)) := ⟨_, rfl⟩
                  rw [← hbits] at hbv
                  have hbl : bits.length = 8 * ds.length := by rw [hbits, List.length_map, List.length_range]
                  have hbvl : bvs.length = bits.length := hbv.length
                  have hdl : dvs.length = ds.length := hdv.length
                  have nBL : BD ≠ LD := list_ne N15 (.tail _ (.tail _ (.tail _ (.tail _ (.tail _ (.tail _ (.head _))))))) (.tail _ (.tail _ (.head _))) (by omega)
                  have hoff : OwnOff ((x, instObj 138 dx) :: (dx, decObj ww k1 k2 sd (bf ql ql.length) t) :: (sd, so) :: (BD, listOf bvs.toArray bk) :: (DD, listOf dls.toArray kd) :: (TT ++ dtl)) [rx, rdx, LD] := by
                    have key : ∀ p ∈ (x, instObj 138 dx) :: (dx, decObj ww k1 k2 sd (bf ql ql.length) t) :: (sd, so) :: (BD, listOf bvs.toArray bk) :: (DD, listOf dls.toArray kd) :: (TT ++ dtl), @LT.lt Nat _ p.1 rdx ∧ p.1 ≠ LD := by
                      intro p hp
                      rcases List.mem_cons.mp hp with rfl | hp
                      · exact ⟨l1.2.2.1, off1_mem o12 _ (.head _)⟩
                      rcases List.mem_cons.mp hp with rfl | hp
                      · exact ⟨l1.2.2.2.1, off1_mem o12 _ (.tail _ (.head _))⟩
                      rcases List.mem_cons.mp hp with rfl | hp
                      · exact ⟨l1.2.2.2.2.1, off1_mem o12 _ (.tail _ (.tail _ (.head _)))⟩
                      rcases List.mem_cons.mp hp with rfl | hp
                      · exact ⟨l1.1, nBL⟩
                      have hp := mem_mid hp
                      exact ⟨allLt_mem l1.2.2.2.2.2 _ hp, off1_mem o12 _ (.tail _ (.tail _ (.tail _ hp)))⟩
                    intro p hp b hb
                    have q := key p hp
                    rcases List.mem_cons.mp hb with rfl | hb
                    · exact Nat.ne_of_lt (Nat.lt_trans q.1 l2)
                    rcases List.mem_cons.mp hb with rfl | hb
                    · exact Nat.ne_of_lt q.1
                    rw [List.mem_singleton.mp hb]
                    exact q.2
                  have hrr : rx ≠ rdx := Nat.ne_of_gt l2
                  have hld : LD ≠ rdx := Nat.ne_of_lt l1.2.1
                  have hpk : Fence _ := ⟨And.intro hoff (And.intro hrr hld)⟩
                  clear hoff hrr hld l1 l2 o2 o9 o12
                  clear F14 N14 nBL
                  refine While_inv2 (fun n m₁ news₁ => ∃ (pos : Nat) (ta t2 t3 : Tok) (bm' : Str → Option Value), n = 8 * ds.length - pos ∧ pos ≤ 8 * ds.length ∧ m₁ = (fun y => if y = Str.ofString "at" then some (Value.int (pos : Int) ta) else if y = Str.ofString "reading" then some (Value.ref rx) else if y = Str.ofString "bits" then some (Value.ref BD) else if y = Str.ofString "made" then some (Value.ref x) else if y = Str.ofString "dealt" then some (Value.ref DD) else bm' y) ∧ news₁ = (rx, instObj 91 rdx) :: (rdx, rdObj ww k3 k4 k5 LD pos t2 t3) :: (LD, listOf dvs.toArray dn) :: (x, instObj 138 dx) :: (dx, decObj ww k1 k2 sd (bf ql ql.length) t) :: (sd, so) :: (BD, listOf bvs.toArray bk) :: (DD, listOf dls.toArray kd) :: (TT ++ dtl)) F15 N15 ⟨0, ta, t2, t3, bm2, rfl, Nat.zero_le _, rfl, rfl⟩ ?_
                  rintro n m₁ news₁ h16 tk16 F16 N16 ⟨pos, ta', t2', t3', bm', rfl, hpos, rfl, rfl⟩
                  clear F15 N15
                  (try dsimp only); k_steps
                  refine ⟨?_⟩
                  have hbq := ql_bounds hns5 hP
                  have hql6 : ql.length ≤ 6 := by rw [hP.length_eq]; exact Nat.le_trans (prsTo_length ns _) hnl6
                  refine seg_told (hd2 := [(BD, listOf bvs.toArray bk), (DD, listOf dls.toArray kd)]) (Str.ofString "told") (fun v R => (∀ p ∈ dtl, p ∈ R) ∧
                      ((∃ (i j : Nat) (t2'' t3'' t' : Tok), v = .int (plAt ql j).2 t' ∧ j < ql.length ∧ cdOf ql j = cAt ds pos (i + 1) ∧ (plAt ql j).1 = (i : Int) + 1 ∧ pos + (i + 1) ≤ 8 * ds.length ∧
                          ∀ p ∈ (rx, instObj 91 rdx) :: (rdx, rdObj ww k3 k4 k5 LD (pos + (i + 1)) t2'' t3'') :: (LD, listOf dvs.toArray dn) :: (x, instObj 138 dx) :: (dx, decObj ww k1 k2 sd (bf ql ql.length) t) :: (sd, so) :: (TT ++ dtl), p ∈ R) ∨
                        (∃ (i : Nat) (t' : Tok), v = .str (Str.ofString "cut_off") t' ∧ (i : Int) < bf ql ql.length ∧ pos + i = 8 * ds.length ∧ (∀ i' : Nat, 1 ≤ i' → i' ≤ i → NoHit ql (cAt ds pos i') i')) ∨
                        (∃ (t' : Tok), v = .str (Str.ofString "bad_code") t' ∧ pos + (bf ql ql.length).toNat ≤ 8 * ds.length ∧ (∀ i' : Nat, 1 ≤ i' → i' ≤ (bf ql ql.length).toNat → NoHit ql (cAt ds pos i') i')))) F16 ?_ ?_
                  · (try dsimp only); k_steps
                    refine ⟨?_⟩
                    obtain ⟨hoff, hrr, hld⟩ := hpk.it
                    refine' lsym_K _ _ _ _ _ _ _ _ _ _ _ _ _ _ _ x dx sd rx rdx LD so TT ql dvs ds dn pos k1 k2 t k3 k4 k5 t2' t3' ((BD, listOf bvs.toArray bk) :: (DD, listOf dls.toArray kd) :: (TT ++ dtl)) (by k_asm) F16 KX KX T N16 T rfl hoff hrr hld hdv hd3 hdb hpos hbq hS hql6 (fun p hp => .tail _ (.tail _ (List.mem_append.mpr (.inl hp)))) hK lo (by ktr_room) (by ktr_units) ?_ ?_ ?_
                    · intro i j t2'' t3'' t' h17 tk17 hi hno hj hcd hpl hpn F17 N17
                      clear F16 N16
                      (try dsimp only); k_steps
                      rename_i F18 N18
                      refine ⟨rfl, _, _, _, _, ⟨?_, .inl ⟨i, j, t2'', t3'', t', rfl, hj, hcd, hpl, hpn, ?_⟩⟩, rfl, F18, fun p hp => N18 p (mem_bd hp)⟩
                      · exact fun p hp => .tail _ (.tail _ (.tail _ (.tail _ (.tail _ (.tail _ (List.mem_append.mpr (.inr hp)))))))
                      · exact fun p hp => hp
                    · intro i hi hp hno t' h17 tk17 F17 N17
                      clear F16 N16
                      (try dsimp only); k_steps
                      rename_i F18 N18
                      exact ⟨rfl, _, _, _, _, ⟨fun p hp => List.mem_append.mpr (.inr hp), .inr (.inl ⟨i, t', rfl, hi, hp, hno⟩)⟩, rfl, F18, N18⟩
                    · intro hp hno t' h17 tk17 F17 N17
                      clear F16 N16
                      (try dsimp only); k_steps
                      rename_i F18 N18
                      exact ⟨rfl, _, _, _, _, ⟨fun p hp => List.mem_append.mpr (.inr hp), .inr (.inr ⟨t', rfl, hp, hno⟩)⟩, rfl, F18, N18⟩
                  · clear F16 N16
                    intro tv R h17 tk17 hC F17 N17
                    obtain ⟨hdR, hC⟩ := hC
                    replace N17 : News _ _ _ ((BD, listOf bvs.toArray bk) :: (DD, listOf dls.toArray kd) :: R) := N17
                    (try dsimp only); k_steps
                    refine ⟨?_⟩
                    k_dflt (refine' kmk_slice_ints ?a1 ?a2 ?a3 ?a4 ?a5 ?a6 ?a7 ?a8 ?_ ?b1 ?b2 ?b3)
                    (case a1 => k_asm)
                    (case a2 => k_asm)
                    (case a3 => kmk_list)
                    (case a4 => kmk_part)
                    (case a5 => kmk_part)
                    (case a6 => l_ints)
                    (case a7 => (with_reducible refine' kmk_run ?c1 ?c2 ?c3); (case c1 => l_ints); (case c2 => kmk_sign); (case c3 => kmk_sign))
                    (case a8 => kmk_len)
                    (case b1 => with_unfolding_all rfl)
                    (case b2 => kmk_pure)
                    (case b3 => refine kmk_sz (by l_ints) ?_; (simp only [sizeLine_eq]); omega)
                    intro E1 ws1 hh1 SF1 SN1 l1' hI1 hC1 hL1
                    (try k_lt l1')
                    (try k_sweep)
                    (try dsimp only); k_steps
                    refine ⟨?_⟩
                    rename_i zl hh2 lz E2 ws2 hh3 hI2 l2' RW rws hA hrow hC2 hL2 l9 hB F18 N18
                    rw [hbits, row_is4 ds pos hpos] at hrow
                    clear hI1 hC1 hL1 hI2 hC2 hL2
                    refine seg_int (news := (BD, listOf bvs.toArray bk) :: (DD, listOf dls.toArray kd) :: R) (Str.ofString "spot") (fun n => n = spotAt ds pos) F18 ?_ ?_
                    · (try dsimp only); k_steps
                      rename_i F19 N19
                      exact ⟨rfl, _, _, _, _, rfl, rfl, F19, fun p hp => N19 p (.tail _ (.tail _ (.tail _ (.tail _ hp))))⟩
                    · clear F18 N18 l1' lz l2' l9 hrow
                      intro spot tsp h19 tk19 hsp F19 N19
                      w_top off
                      rcases hC with ⟨i, j, t2'', t3'', t', rfl, hj, hcd, hpl, hpn, hRR⟩ | ⟨i, t', rfl, hi, hpn, hno⟩ | ⟨t', rfl, hpn, hno⟩
                      · obtain ⟨kk, hkk, hget⟩ := ret_plain hns5 hP hS hj hcd hpl hpn
                        have hlt : kk < (shareTo ns 4).length := (List.getElem?_eq_some_iff.mp hget).1
                        rw [hkk] at hsp
                        subst hsp
                        (try dsimp only); k_steps
                        rename_i v d hD hv hm
                        rw [Int.toNat_natCast, List.getElem?_map, hget] at hv
                        obtain rfl : d = pairD ((plAt ql j).2, (i : Int) + 1) := (Option.some.inj hv).symm
                        obtain ⟨tu, u1, u2, un, rfl, htu⟩ := datIn_pair hD
                        obtain ⟨N20⟩ : Nonempty (News _ _ _ ((tu, ({ cls := .type "tuple", data := .seq [Value.int (plAt ql j).2 u1, Value.int ((i : Int) + 1) u2].toArray un } : Obj)) :: (BD, listOf bvs.toArray bk) :: (DD, listOf dls.toArray kd) :: R)) := ⟨fun p hp => by
                          rcases List.mem_cons.mp hp with rfl | hp
                          · exact N19 _ (.tail _ (.tail _ (hdR _ htu)))
                          · exact N19 _ hp⟩
                        clear N19 hv hD
                        (try dsimp only); k_steps
                        · rename_i ha
                          exact absurd rfl ha
                        · rename_i F21 N21
                          obtain ⟨ta2, bm3, F22⟩ : ∃ (ta2 : Tok) (bm3 : Str → Option Value), Fr _ _ _ (fun y => if y = Str.ofString "at" then some (Value.int ((pos + (i + 1) : Nat) : Int) ta2) else if y = Str.ofString "reading" then some (Value.ref rx) else if y = Str.ofString "bits" then some (Value.ref BD) else if y = Str.ofString "made" then some (Value.ref x) else if y = Str.ofString "dealt" then some (Value.ref DD) else bm3 y) := by
                            have e : ((pos + (i + 1) : Nat) : Int) = (pos : Int) + ((i : Int) + 1) := by omega
                            rw [e]
                            exact ⟨_, fr_self5 F21 rfl rfl rfl rfl rfl⟩
                          exact ⟨_, _, _, _, 8 * ds.length - (pos + (i + 1)), rfl, F22, fun p hp => N21 p (.tail _ (mem_ret hRR hp)), by omega, ⟨pos + (i + 1), ta2, t2'', t3'', bm3, rfl, hpn, rfl, rfl⟩⟩
                      · obtain ⟨kk, a, b, hkk, hget, hbig, hb4⟩ := cut_plain hns5 hP hS hc hi hpn hno
                        have hlt : kk < (shareTo ns 4).length := (List.getElem?_eq_some_iff.mp hget).1
                        rw [hkk] at hsp
                        subst hsp
                        (try dsimp only); k_steps
                        rename_i v d hD hv hm
                        rw [Int.toNat_natCast, List.getElem?_map, hget] at hv
                        obtain rfl : d = pairD (a, b) := (Option.some.inj hv).symm
                        obtain ⟨tu, u1, u2, un, rfl, htu⟩ := datIn_pair hD
                        obtain ⟨N20⟩ : Nonempty (News _ _ _ ((tu, ({ cls := .type "tuple", data := .seq [Value.int a u1, Value.int b u2].toArray un } : Obj)) :: (BD, listOf bvs.toArray bk) :: (DD, listOf dls.toArray kd) :: R)) := ⟨fun p hp => by
                          rcases List.mem_cons.mp hp with rfl | hp
                          · exact N19 _ (.tail _ (.tail _ (hdR _ htu)))
                          · exact N19 _ hp⟩
                        clear N19 hv hD
                        (try dsimp only); k_steps
                        exact fin _ _ _ _ (by assumption) (by assumption)
                      · obtain ⟨hge2, hposl⟩ := bad_plain hns5 hP hS hc hpn hno
                        rw [← hsp] at hge2
                        (try dsimp only); k_steps
                        have ee : decide ((pos : Int) < (bits.length : Int)) = true := decide_eq_true (by omega)
                        rw [ee]
                        exact fin _ _ _ _ F19 N19
            · intro ql hP hS hc t h11 tk11 F11 N11
              have hs : soundB ns = false := by rw [← comp_sound hns5 hP hS, hc]
              clear F10 N10
              rw [hs] at F11
              (try dsimp only); k_steps
              exact fin _ _ _ _ (by assumption) (by assumption)))
end
end Mine
end
theorem PySem.Challenge.cw_pb0313_01_holds : PySem.Challenge.rw_pb0313_01.Holds := by
  exact Mine.law_K

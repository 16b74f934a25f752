import PyProof.Rows.All
import Wide.All
import OpenK.AllK
import Wide.FinOn
import Lean
import PySem.Challenge.RW_pq0159_02
open PySem PySem.W PyProof.Rows
set_option Elab.async false
set_option maxRecDepth 100000
set_option maxHeartbeats 8000000
set_option linter.unusedVariables false
namespace Mine
open_top hd02 for PySem.Challenge.rw_pq0159_02
end Mine
open PySem.Calls
namespace Mine
theorem filled : hd02.heap_39 = hd02.heap_39 ∨ PySem.Challenge.rw_pq0159_02.Holds := by
  k_fill
  exact Or.inl rfl
end Mine
namespace Mine
theorem slot_wd_get : Slot "wrapper_descriptor" "__get__" "wrapper_descriptor.__get__" := .of (owner := "wrapper_descriptor") (n := "__get__") (by rw [typeLookup_type, builtinLookup_eq_fast]; kernel_rfl) (by decide +kernel) (by decide +kernel) (by decide +kernel)
  (by first | exact .inl (by decide +kernel) | exact .inr (by decide +kernel)) (by rw [isSubtype_type]; kernel_rfl)
theorem entry_wd_get : entryFor table "wrapper_descriptor.__get__" = some Builtin.«wrapper_descriptor.__get__» := entryFor_of_tree (by kernel_rfl)
theorem args_wd_get (a b c : Value) : argsOk "wrapper_descriptor.__get__" ⟨[a, b, c], []⟩ := by unfold argsOk; kernel_rfl
theorem type_excInit : typeOf (.builtin "Exception.__init__") = pure (.type "wrapper_descriptor") := by show builtinType _ = _; rw [builtinType_eq_fast]; kernel_rfl

section
variable {prog : Program} {w : World} {A : Around} {E : Value → Shared → Prop} {h : Heap} {g : Array GenState} {d : Drawn} {t : Nat} {os : OsState}
theorem wd_get {e C : Addr} {oe : Obj} {c : Value} {Q : Fin → Shared → Prop} (he : h.get? e = some oe) (hc : oe.cls = .ref C) (hsub : Looks (model prog w) h (isSubtype (.ref C) (.type "Exception")) true) (hce : ((.ref e : Value) == Value.none) = false) (hcc : (c == Value.none) = false)
    (hq : Q (.done (.ret (.ref h.objs.size))) ⟨h.push { cls := .type "method-wrapper", data := .fields #[.builtin "Exception.__init__", .ref e] }, g, d, t, os⟩) :
    wpAny (model prog w) A (Builtin.«wrapper_descriptor.__get__» ⟨[.builtin "Exception.__init__", .ref e, c], []⟩) Q E ⟨h, g, d, t, os⟩ := by
  unfold Builtin.«wrapper_descriptor.__get__»
  repeat (first | (simp only [hcc, hce, Bool.false_eq_true, if_false]) | wp_step)
  rw [hc, (by decide +kernel : ".".intercalate ("Exception.__init__".cutAt '.').dropLast = "Exception")]
  refine Looks.at hsub ?_
  repeat (first | wp_step | (with_reducible refine wpAny_newObj_type ?_ (by size_fits)))
  exact hq

theorem sup_ga {so D x C : Addr} {ox : Obj} {l₀ l : List Value} {K : Frag} {tk : Tok} {Q : Fin → Shared → Prop}
    (hso : h.get? so = some { cls := .type "super", dict := none, data := .fields #[.ref D, .ref x, .ref C], slots := #[] }) (hno : Looks (model prog w) h (opaqueClassAbove (.ref C)) none)
    (hC : Looks (model prog w) h (mroOf (.ref C)) l₀) (hl : (l₀.dropWhile (· != .ref D)).drop 1 = l) (X : K.In h)
    (hf : alongIn K (Str.ofString "__init__") l = some (some (.builtin "Exception.__init__"))) (hx : h.get? x = some ox) (hxc : ox.cls = .ref C) (hxC : x ≠ C)
    (hsub : Looks (model prog w) h (isSubtype (.ref C) (.type "Exception")) true)
    (hq : Q (.done (.ret (.ref h.objs.size))) ⟨h.push { cls := .type "method-wrapper", data := .fields #[.builtin "Exception.__init__", .ref x] }, g, d, t, os⟩) :
    wpAny (model prog w) A (Builtin.«super.__getattribute__» ⟨[.ref so, .str (Str.ofString "__init__") tk], []⟩) Q E ⟨h, g, d, t, os⟩ := by
  have hlk := slot_wd_get.lookup
  have hty := type_excInit
  have hne : (Value.ref x == Value.ref C) = false := by simp [hxC]
  have hTf : ∀ t', (⟨h, g, d, t', os⟩ : Shared).TypeIs (.builtin "Exception.__init__") "wrapper_descriptor" := fun _ => type_excInit
  have hdt : ({ cls := .type "super", dict := none, data := .fields #[.ref D, .ref x, .ref C], slots := #[] } : Obj).data = .fields #[.ref D, .ref x, .ref C] := rfl
  have f0 : (#[.ref D, .ref x, .ref C] : Array Value)[0]? = some (.ref D) := rfl
  have f1 : (#[.ref D, .ref x, .ref C] : Array Value)[1]? = some (.ref x) := rfl
  have f2 : (#[.ref D, .ref x, .ref C] : Array Value)[2]? = some (.ref C) := rfl
  have hn : (Str.ofString "__init__" == Str.ofString "__class__") = false := by decide
  unfold Builtin.«super.__getattribute__»
  repeat (first
    | (with_reducible refine wpAny_field hso hdt f0 ?_) | (with_reducible refine wpAny_field hso hdt f1 ?_) | (with_reducible refine wpAny_field hso hdt f2 ?_)
    | (with_reducible refine ks_wpAny_notOpaque hno ?_)
    | (with_reducible refine Looks.at hC ?_; rw [hl])
    | (refine ks_forIn_along X (fun _ _ => rfl) rfl ?_ hf)
    | (with_reducible refine wpAny_call_entry slot_wd_get (hTf _) entry_wd_get ?_ (args_wd_get _ _ _))
    | (with_reducible refine ⟨_, rfl, ?_⟩)
    | (simp only [hn, hne, Bool.or_false, Bool.false_eq_true, if_false])
    | wp_step
    | dsimp only)
  rw [hxc, (by decide +kernel : ".".intercalate ("Exception.__init__".cutAt '.').dropLast = "Exception")]
  refine Looks.at hsub ?_
  repeat (first | (with_reducible refine ⟨_, rfl, ?_⟩) | (with_reducible refine wpAny_newObj_type ?_ (by size_fits)) | wp_step | dsimp only)
  exact hq

theorem sup_getMethod {so D x C : Addr} {ox : Obj} {l₀ l : List Value} {K : Frag} {pl : Sem Bool} {Q : Value × List Value → Shared → Prop}
    (hso : h.get? so = some { cls := .type "super", dict := none, data := .fields #[.ref D, .ref x, .ref C], slots := #[] }) (hno : Looks (model prog w) h (opaqueClassAbove (.ref C)) none)
    (hC : Looks (model prog w) h (mroOf (.ref C)) l₀) (hl : (l₀.dropWhile (· != .ref D)).drop 1 = l) (X : K.In h)
    (hf : alongIn K (Str.ofString "__init__") l = some (some (.builtin "Exception.__init__"))) (hx : h.get? x = some ox) (hxc : ox.cls = .ref C) (hxC : x ≠ C)
    (hsub : Looks (model prog w) h (isSubtype (.ref C) (.type "Exception")) true)
    (hq : Q (.ref h.objs.size, []) ⟨h.push { cls := .type "method-wrapper", data := .fields #[.builtin "Exception.__init__", .ref x] }, g, d, t + 1, os⟩) :
    wpAny (model prog w) A (getMethod (.ref so) (Str.ofString "__init__") pl) Q E ⟨h, g, d, t, os⟩ := by
  have hlk := F.ks_slot_super_ga.lookup
  have hcan := F.ks_canon_super_ga
  have hT : ∀ t', (⟨h, g, d, t', os⟩ : Shared).TypeIs (.ref so) "super" := fun _ => ⟨_, hso, rfl⟩
  unfold getMethod
  refine wpAny_bind (wpAny_specialOf (hT _) hlk ?_)
  show wpAny _ _ (if (Manifest.canonical "super.__getattribute__" != "object.__getattribute__") = true then _ else _) _ _ _
  rw [if_pos hcan]
  unfold getAttr getAttrBy
  refine wpAny_bind (wpAny_bind (wpAny_mkText (wpAny_holding (wpAny_bind (wpAny_typeOf (hT _) (wpAny_bind (wpAny_of_eq hlk ?_)))))))
  show wpAny _ _ (getAttrByItsOwn (.ref so) (.str (Str.ofString "__init__") t) (.type "super") (.builtin "super.__getattribute__") true false) _ _ _
  unfold getAttrByItsOwn hookBefore callGetattribute boundAndCalled
  refine wpAny_bind (wpAny_of_eq (show (if onTheHeap (.type "super") then typeLookup (.type "super") "__getattr__" else pure none) = pure none from rfl) ?_)
  refine wpAny_bind (wpAny_attempt (wpAny_holding ?_))
  show wpAny _ _ (bindSpecial (.builtin "super.__getattribute__") (.ref so) >>= _) _ _ _
  refine wpAny_bind (wpAny_of_eq (F.ks_slot_super_ga.bind _) ?_)
  refine wpAny_mono (Q := fun v s' => v = .ref h.objs.size ∧ s' = ⟨h.push { cls := .type "method-wrapper", data := .fields #[.builtin "Exception.__init__", .ref x] }, g, d, t + 1, os⟩) (E := fun _ _ => False)
    (wpAny_call_entry F.ks_slot_super_ga (hT _) F.ks_entry_super_ga (sup_ga hso hno hC hl X hf hx hxc hxC hsub ⟨_, rfl, rfl, rfl⟩) (F.ks_gaArgs_super _ _)) (fun v s' hv => ?_) fun _ _ z => z.elim
  obtain ⟨rfl, rfl⟩ := hv
  exact wpAny_pure (wpAny_pure hq)

theorem keeper_mw {q : Addr} {a b : Value} {Q : Keeper → Shared → Prop} (hq : h.get? q = some { cls := .type "method-wrapper", data := .fields #[a, b] }) (k : Q .machine ⟨h, g, d, t, os⟩) :
    wpAny (model prog w) A (keeperOf (.ref q)) Q E ⟨h, g, d, t, os⟩ := by
  unfold keeperOf
  repeat wp_step
  exact k

theorem call_mw {q x C : Addr} {cd : ClassData} {cc : Value} {dd : Option Addr} {sl : Array (Option Value)} {t0 : Addr} {c : Value} {Q : Value → Shared → Prop} (hq : h.get? q = some { cls := .type "method-wrapper", data := .fields #[.builtin "Exception.__init__", .ref x] })
    (hx : h.get? x = some { cls := .ref C, data := .fields #[.ref t0, .none, .none, .none, .bool false, .none] }) (hcd : h.get? C = some { cls := cc, dict := dd, data := .cls cd, slots := sl })
    (k : ∀ h', h'.get? x = some { cls := .ref C, data := .fields #[.ref h.objs.size, .none, .none, .none, .bool false, .none] } → h'.get? h.objs.size = some { cls := .type "tuple", data := .seq #[c] } → (∀ b o, b ≠ x → h.get? b = some o → h'.get? b = some o) → h.objs.size ≤ h'.objs.size → Q .none ⟨h', g, d, t, os⟩) :
    wpAny (model prog w) A (call (.ref q) [c]) Q E ⟨h, g, d, t, os⟩ := by
  refine wpAny_call (codeAny_of_tree ?_)
  show wpAny _ _ (callAny (.ref q) _) _ _ _
  unfold callAny
  repeat wp_step
  refine ⟨Code.quiet_builtin _ (by decide +kernel), codeAny_builtin PySem.F.excCall_Exception.initEntry ?_⟩
  unfold Builtin.«BaseException.__init__»
  have hx' := Heap.get?_push_of_some { cls := .type "tuple", data := .seq #[c] } hx
  have hlt := Heap.lt_size hx
  repeat (first | (with_reducible refine wpAny_setField hx' rfl (by decide) ?_) | wp_step)
  refine k _ ?_ ?_ ?_ ?_
  · exact Heap.get?_update_self _ hx' rfl
  · rw [Heap.get?_update_other _ _ (Nat.ne_of_lt hlt)]
    exact Heap.get?_push_at rfl rfl
  · intro b o hb e
    rw [Heap.get?_update_other _ _ (Ne.symm hb)]
    exact Heap.get?_push_of_some _ e
  · simp
end
end Mine
namespace Mine
abbrev excV (dx : Addr) (vs : Array Value) : Obj := { cls := .ref 34, dict := some dx, data := .fields vs }

def ExcAt (B : Heap) (l : List Env) (e dx : Addr) (fl : Value) (h : Heap) : Prop :=
  B.StaysIn h ∧ B.get? e = none ∧ h.FunFrames B l ∧ ∃ vs T oT ts, h.get? e = some (excV dx vs) ∧ vs.size = 6 ∧ vs[1]? = some (.ref T) ∧ B.get? T = none ∧ T ≠ e ∧ h.get? T = some oT ∧ oT.data = .fields ts ∧ ts[3]? = some fl

section
variable {M : Model} {A : Around} {E : Value → Shared → Prop} {s : Shared} {B : Heap} {env : Env} {outer : List Env} {L e dx : Addr}

theorem entryD {vs : Array Value} {head : Value} {hadNext : Bool} {Q : Unit → Shared → Prop}
    (hfr : A.frames = some (env :: outer)) (hl : s.heap.FunFrames B (env :: outer)) (hf : env.frame = some L)
    (he : s.heap.get? e = some (excV dx vs)) (hkb : B.StaysIn s.heap) (hen : B.get? e = none) (hsz : vs.size = 6)
    (h : ∀ h', ExcAt B (env :: outer) e dx (rawInt L) h' → s.heap.UpToSlots h' → Q () { s with heap := h' }) :
    wpAny M A (do setField (.ref e) 1 (← EntryCells.newEntry head (← frameOf env) .none (rawInt L) .none (← entryPlaceOf L hadNext))) Q E s := by
  have hene : e ∉ (env :: outer).filterMap (·.frame) := fun hm => by
    obtain ⟨_, o, ho, hnf⟩ := hl.mem hm
    rw [he] at ho; injection ho with ho; subst ho; exact hnf vs rfl
  refine wpAny_bind (wpAny_frameOf_fun hfr hl hf fun h₁ hs₁ => ?_)
  refine wpAny_bind (wpAny_entryPlaceOf fun pl hpl => ?_)
  unfold EntryCells.newEntry newFields
  refine wpAny_bind (wpAny_newObj_type ?_ (hpl.sizeOk5 _ _ _ _ _))
  have he₁ : h₁.get? e = some (excV dx vs) := (hs₁.2.1 e hene).trans he
  have kb₁ : B.StaysIn h₁ := fun b o hbo => (hs₁.2.1 b fun hm => by rw [(hl.mem hm).1] at hbo; cases hbo).trans (hkb b o hbo)
  generalize hto : ({ cls := .type "traceback", dict := none, data := .fields ([head, .ref L, .none, rawInt L, .none] ++ (if pl.isEmpty then List.replicate 6 Value.none else pl)).toArray } : Obj) = oT
  have hod : ∃ ts, oT.data = .fields ts ∧ ts[3]? = some (rawInt L) := by
    subst hto
    exact ⟨_, rfl, by first | (simp; done) | (rcases hpl with rfl | ⟨_, _, _, _, _, _, _, rfl⟩ <;> simp)⟩
  have hfree : oT.isFreed = false := by subst hto; rfl
  have he₂ := Heap.get?_push_of_some (h := h₁) oT he₁
  have hTe : h₁.objs.size ≠ e := Nat.ne_of_gt (Heap.lt_size he₁)
  refine wpAny_setField he₂ rfl (by rw [hsz]; decide) (h _ ?_ ?_)
  · have keep : ∀ b o, b ≠ e → h₁.get? b = some o → ((h₁.push oT).update e (Obj.mapFields (·.setIfInBounds 1 (Value.ref h₁.objs.size)))).get? b = some o := fun b o hbe hb => by
      rw [Heap.get?_update_other _ _ (Ne.symm hbe)]
      exact Heap.get?_push_of_some _ hb
    have noRecord : ∀ b o, s.heap.get? b = some o → (∀ vs, o.data ≠ .fields vs) → b ≠ e := fun b o hb hnf q => by
      rw [q, he] at hb; injection hb with hb; subst hb; exact hnf vs rfl
    obtain ⟨ts, hts, h3⟩ := hod
    refine ⟨fun b o hbo => keep b o (fun q => by rw [q, hen] at hbo; cases hbo) (kb₁ b o hbo), hen, hl.of_keeps fun b o hb hnf => ?_, vs.setIfInBounds 1 (.ref h₁.objs.size), h₁.objs.size, oT, ts, ?_, ?_, ?_, kb₁.fresh, hTe, ?_, hts, h3⟩
    · obtain ⟨sl, hs⟩ := hs₁.2.2 b o hb
      exact ⟨_, keep b _ (noRecord b o hb hnf) hs, rfl⟩
    · exact Heap.get?_update_self (Obj.mapFields (·.setIfInBounds 1 (Value.ref h₁.objs.size))) he₂ rfl
    · simp [hsz]
    · simp [hsz]
    · rw [Heap.get?_update_other _ _ (Ne.symm hTe)]
      exact Heap.get?_push_size h₁ hfree
  · intro b o hb hnf
    have hbe : b ≠ e := fun q => by rw [q, he] at hb; injection hb with hb; subst hb; exact hnf vs rfl
    obtain ⟨sl, hs⟩ := hs₁.2.2 b o hb
    refine ⟨sl, ?_⟩
    rw [Heap.get?_update_other _ _ (Ne.symm hbe)]
    exact Heap.get?_push_of_some _ hs

theorem noteNew {t : Value} {Q : Unit → Shared → Prop}
    (hfr : A.frames = some (env :: outer)) (hl : s.heap.FunFrames B (env :: outer)) (hf : env.frame = some L)
    (he : s.heap.get? e = some (excV dx #[t, .none, .none, .none, .bool false, .none])) (hkb : B.StaysIn s.heap) (hen : B.get? e = none)
    (h : ∀ h', ExcAt B (env :: outer) e dx (rawInt L) h' → s.heap.UpToSlots h' → Q () { s with heap := h' }) :
    wpAny M A (noteFrame (.ref e) env) Q E s := by
  unfold noteFrame
  simp only [hf]
  refine wpAny_bind (wpAny_field he rfl (x := .none) rfl ?_)
  rw [if_neg (by decide)]
  exact entryD hfr hl hf he hkb hen rfl h

theorem noteFly {Q : Unit → Shared → Prop} (hfr : A.frames = some (env :: outer)) (hf : env.frame = some L) (hx : ExcAt B (env :: outer) e dx .none s.heap)
    (h : ∀ h', ExcAt B (env :: outer) e dx (rawInt L) h' → s.heap.UpToSlots h' → Q () { s with heap := h' }) :
    wpAny M A (noteFrame (.ref e) env) Q E s := by
  obtain ⟨hkb, hen, hl, vs, T, oT, ts, he, hsz, h1, hnT, hTe, hT, hdT, h3⟩ := hx
  unfold noteFrame
  simp only [hf]
  refine wpAny_bind (wpAny_field he rfl h1 ?_)
  rw [if_pos (show (Value.ref T != Value.none) = true from by simp)]
  refine wpAny_bind (wpAny_field hT hdT h3 ?_)
  rw [if_neg (show ¬ ((Value.none == rawInt L) = true) from by simp [rawInt])]
  refine wpAny_bind (wpAny_setField hT hdT (Array.getElem?_eq_some_iff.mp h3).1 ?_)
  have other : ∀ b, b ≠ T → (s.heap.update T (Obj.mapFields (·.setIfInBounds 3 Value.none))).get? b = s.heap.get? b := fun b hb => Heap.get?_update_other _ _ (Ne.symm hb)
  have noRecord : ∀ b o, s.heap.get? b = some o → (∀ vs, o.data ≠ .fields vs) → b ≠ T := fun b o hb hnf q => by
    rw [q, hT] at hb; injection hb with hb; subst hb; exact hnf ts hdT
  refine entryD hfr (hl.of_keeps fun b o hb hnf => ⟨o, (other b (noRecord b o hb hnf)).trans hb, rfl⟩) hf ((other e (Ne.symm hTe)).trans he)
    (fun b o hbo => (other b fun q => by rw [q, hnT] at hbo; cases hbo).trans (hkb b o hbo)) hen hsz
    fun h' x1 x2 => h h' x1 fun b o hb hnf => x2 b o ((other b (noRecord b o hb hnf)).trans hb) hnf

theorem noteHeld {l : List Env} {Q : Unit → Shared → Prop} (hf : env.frame = some L) (hx : ExcAt B l e dx (rawInt L) s.heap) (h : Q () s) : wpAny M A (noteFrame (.ref e) env) Q E s := by
  obtain ⟨hkb, hen, hl, vs, T, oT, ts, he, hsz, h1, hnT, hTe, hT, hdT, h3⟩ := hx
  unfold noteFrame
  simp only [hf]
  refine wpAny_bind (wpAny_field he rfl h1 ?_)
  rw [if_pos (show (Value.ref T != Value.none) = true from by simp)]
  refine wpAny_bind (wpAny_field hT hdT h3 ?_)
  rw [if_pos (show (rawInt L == rawInt L) = true from by simp)]
  exact wpAny_pure h

theorem setFl {l : List Env} {fl : Value} {fr : Option Addr} {Q : Unit → Shared → Prop} (hx : ExcAt B l e dx fl s.heap)
    (h : ∀ h', ExcAt B l e dx (fr.elim .none fun f => rawInt f) h' → s.heap.UpToSlots h' → Q () { s with heap := h' }) : wpAny M A (setFlight (.ref e) fr) Q E s := by
  obtain ⟨hkb, hen, hl, vs, T, oT, ts, he, hsz, h1, hnT, hTe, hT, hdT, h3⟩ := hx
  have hsz3 : 3 < ts.size := (Array.getElem?_eq_some_iff.mp h3).1
  have other : ∀ b, b ≠ T → (s.heap.update T (Obj.mapFields (·.setIfInBounds 3 (fr.elim Value.none fun f => rawInt f)))).get? b = s.heap.get? b :=
    fun b hb => Heap.get?_update_other _ _ (Ne.symm hb)
  have noRecord : ∀ b o, s.heap.get? b = some o → (∀ vs, o.data ≠ .fields vs) → b ≠ T := fun b o hb hnf q => by
    rw [q, hT] at hb; injection hb with hb; subst hb; exact hnf ts hdT
  unfold setFlight
  refine wpAny_bind (wpAny_field he rfl h1 ?_)
  rw [if_pos (show (Value.ref T != Value.none) = true from by simp)]
  refine wpAny_setField hT hdT hsz3 (h _ ⟨fun b o hbo => (other b fun q => by rw [q, hnT] at hbo; cases hbo).trans (hkb b o hbo), hen,
    hl.of_keeps fun b o hb hnf => ⟨o, (other b (noRecord b o hb hnf)).trans hb, rfl⟩, vs, T, _, _, (other e (Ne.symm hTe)).trans he, hsz, h1, hnT, hTe,
    Heap.get?_update_self _ hT (Obj.isFreed_of_fields (Obj.data_mapFields hdT _)), Obj.data_mapFields hdT _, by simp [hsz3]⟩ fun b o hb hnf => ⟨o.slots, (other b (noRecord b o hb hnf)).trans hb⟩)

theorem cameBack {l : List Env} {fl : Value} (hx : ExcAt B l e dx fl s.heap) (hf : env.frame = some L)
    (h : ∀ h', ExcAt B l e dx (rawInt L) h' → s.heap.UpToSlots h' → E (.ref e) { s with heap := h' }) : cameBackBy M A env E (.ref e) s := by
  unfold cameBackBy
  have hx' := hx
  obtain ⟨hkb, hen, hl, vs, T, oT, ts, he, hsz, h1, hnT, hTe, hT, hdT, h3⟩ := hx'
  refine wpAny_bind (wpAny_field he rfl h1 ?_)
  rw [if_neg (show ¬ ((Value.ref T == Value.none) = true) from by simp)]
  refine setFl hx fun h' x1 x2 => ?_
  rw [hf] at x1
  exact h h' x1 x2

theorem leaveFly {Q : Unit → Shared → Prop} (hfr : A.frames = some (env :: outer)) (hf : env.frame = some L) (hx : ExcAt B (env :: outer) e dx .none s.heap)
    (h : ∀ h', ExcAt B outer e dx .none h' → s.heap.UpToSlots h' → Q () { s with heap := h' }) : wpAny M A (leaving env (.ref e)) Q E s := by
  unfold leaving
  refine wpAny_bind (noteFly hfr hf hx fun h₁ x1 u1 => setFl (fr := none) x1 fun h₂ x2 u2 => h h₂ ?_ (u1.trans u2))
  obtain ⟨a, b, ⟨_, _, c⟩, d⟩ := x2
  exact ⟨a, b, c, d⟩
theorem leaveHeld {Q : Unit → Shared → Prop} (hf : env.frame = some L) (hx : ExcAt B (env :: outer) e dx (rawInt L) s.heap)
    (h : ∀ h', ExcAt B outer e dx .none h' → s.heap.UpToSlots h' → Q () { s with heap := h' }) : wpAny M A (leaving env (.ref e)) Q E s := by
  unfold leaving
  refine wpAny_bind (noteHeld hf hx (setFl (fr := none) hx fun h₂ x2 u2 => h h₂ ?_ u2))
  obtain ⟨a, b, ⟨_, _, c⟩, d⟩ := x2
  exact ⟨a, b, c, d⟩
theorem leaveNew {t : Value} {Q : Unit → Shared → Prop} (hfr : A.frames = some (env :: outer)) (hl : s.heap.FunFrames B (env :: outer)) (hf : env.frame = some L)
    (he : s.heap.get? e = some (excV dx #[t, .none, .none, .none, .bool false, .none])) (hkb : B.StaysIn s.heap) (hen : B.get? e = none)
    (h : ∀ h', ExcAt B outer e dx .none h' → s.heap.UpToSlots h' → Q () { s with heap := h' }) : wpAny M A (leaving env (.ref e)) Q E s := by
  unfold leaving
  refine wpAny_bind (noteNew hfr hl hf he hkb hen fun h₁ x1 u1 => setFl (fr := none) x1 fun h₂ x2 u2 => h h₂ ?_ (u1.trans u2))
  obtain ⟨a, b, ⟨_, _, c⟩, d⟩ := x2
  exact ⟨a, b, c, d⟩
end
end Mine
namespace Mine
open Builtin Builtin.ObjectAttr
section
variable {prog : Program} {w : World} {A : Around} {E : Value → Shared → Prop} {h : Heap} {g : Array GenState} {d : Drawn} {t : Nat} {os : OsState}
variable {nm q : Str} {C N x : Addr} {bs bm : List Value} {sn : List Str} {sub : List Value} {ab : Bool} {col : Option Bool} {dd : Option Addr} {k0 k1 k2 k3 k5 : Option Value} {B newId sa owner : String}
  {mN mA : Str → Option Value} {name : Str} {v : Value}

theorem store_first {tk : Tok} {vs : Array Value} {Q : Fin → Shared → Prop} (SF : StoreFacts B bm sa owner)
    (hC : h.get? C = some (excClassObj nm q C N bs bm true sn sub ab col dd k0 k1 k2 k3 k5 newId)) (hn : h.Ns N mN) (hna : mN name = none)
    (hB : typeLookup (.type B) name = pure none) (hx : h.get? x = some { cls := .ref C, data := .fields vs })
    (hq : ∀ h' tk' od, h'.get? x = some { cls := .ref C, dict := some h.objs.size, data := .fields vs } → h'.get? h.objs.size = some od → h'.Ns1 h.objs.size (fun y => if y = name then some v else none) →
      (∀ b o, b ≠ x → h.get? b = some o → h'.get? b = some o) → h.objs.size ≤ h'.objs.size → Q (.done (.ret .none)) ⟨h', g, d, tk', os⟩) :
    wpAny (model prog w) A (Builtin.«object.__setattr__» ⟨[.ref x, .str name tk, v], []⟩) Q E ⟨h, g, d, t, os⟩ := by
  have hpass := SF.passes (.ref x)
  unfold Builtin.«object.__setattr__»
  repeat (first | rw [refuse_eq] | (rw [refuseLoop_ref, hpass]) | (with_reducible refine wpAny_loadPart_at hx ?_) | with_reducible refine wpAny_mroOf_exc hC ?_ | (with_reducible refine wpAny_typeLookup_exc hC hn SF.mro hB ?_; rw [hna]) | wp_step)
  have hxs : x ≠ h.objs.size := Nat.ne_of_lt (Heap.lt_size hx)
  have hx₁ := Heap.get?_push_of_some { cls := .type "dict", data := .dict #[] } hx
  have hgd : ((h.push { cls := .type "dict", data := .dict #[] }).update x fun o => { cls := o.cls, dict := some h.objs.size, data := o.data, slots := o.slots }).get? h.objs.size = some (dictOf [] 0) :=
    (Heap.get?_update_ne _ _ _ _ hxs.symm).trans (Heap.get?_push_at rfl rfl)
  refine wpAny_askSetting (wpAny_pure (wpAny_bind (wpAny_mkText (wpAny_bind (wpAny_loadPart hgd ?_)))))
  dsimp only
  have c : (!([] : List DictEntry).toArray.any (·.key.isStr name) && ([] : List DictEntry).toArray.any (·.refKey)) = false := by simp
  rw [aRefKeyMayBeTheName_at, c]
  refine wpAny_updatePart hgd ?_
  have hgd' := Heap.get?_update_self (Obj.putName name (if name.cps.isEmpty = true then 0 else reduceHash ((model prog w).w.params.strHash name.cps)) (.str name t) v) hgd (by rw [putName_dict]; rfl)
  rw [putName_dict] at hgd'
  refine wpAny_bind (wpAny_lookBehind hgd' (by exact pastItsLine_dict (by rw [sizeLine_eq]; simp [putL])) ?_)
  refine wpAny_pure (hq _ _ _ ?_ hgd' ?_ ?_ ?_)
  · exact (Heap.get?_update_ne _ _ _ _ hxs).trans (Heap.get?_update_self _ hx₁ rfl)
  · refine ⟨_, _, _, hgd', rfl, ?_, ?_, ?_⟩
    · intro e he
      simp [putL] at he
      subst he
      exact ⟨_, _, rfl⟩
    · simp [UniqKeys, putL]
    · intro y
      simp only [nsFind, findBy, putL, List.find?_toArray, List.find?_cons, List.find?_nil, Value.isStr]
      by_cases hy : y = name
      · subst hy; simp
      · have hy' : (name == y) = false := beq_eq_false_iff_ne.mpr fun q => hy q.symm
        rw [hy', if_neg hy]
        rfl
  · exact fun b o hb e => (Heap.get?_update_ne _ _ _ _ (Nat.ne_of_lt (Heap.lt_size e))).trans ((Heap.get?_update_ne _ _ _ _ hb).trans (Heap.get?_push_of_some _ e))
  · simp

theorem set_first {vs : Array Value} {Q : Unit → Shared → Prop} (SF : StoreFacts B bm sa owner)
    (hC : h.get? C = some (excClassObj nm q C N bs bm true sn sub ab col dd k0 k1 k2 k3 k5 newId)) (hn : h.Ns N mN) (hns : mN "__setattr__" = none) (hna : mN name = none)
    (hB : typeLookup (.type B) name = pure none) (hx : h.get? x = some { cls := .ref C, data := .fields vs })
    (hq : ∀ h' tk' od, h'.get? x = some { cls := .ref C, dict := some h.objs.size, data := .fields vs } → h'.get? h.objs.size = some od → h'.Ns1 h.objs.size (fun y => if y = name then some v else none) →
      (∀ b o, b ≠ x → h.get? b = some o → h'.get? b = some o) → h.objs.size ≤ h'.objs.size → Q () ⟨h', g, d, tk', os⟩) :
    wpAny (model prog w) A (setAttr (.ref x) name v) Q E ⟨h, g, d, t, os⟩ := by
  have f3 := SF.slot.bind (.ref x)
  unfold setAttr callSpecial? specialOf
  repeat (any_goals (first | assumption | (with_reducible refine wpAny_loadPart_at hx ?_) | (with_reducible refine wpAny_typeLookup_exc hC hn SF.mro SF.slot.lookup ?_; rw [hns]) | wp_step))
  refine codeAny_call_builtin SF.slot.plain SF.entry (wpAny_check_sa SF hC hx rfl (store_first SF hC hn hna hB hx fun h' tk' od e1 e2 e3 e4 e5 => ?_))
  repeat (any_goals (first | assumption | wp_step))
  exact hq h' tk' od e1 e2 e3 e4 e5

theorem load_exc {bmB : List Value} {expr : Bool} {Q : Value → Shared → Prop} (FB : ExcAttrBase B bm)
    (hC : h.get? C = some (excClassObj nm q C N bs bm true sn sub ab col dd k0 k1 k2 k3 k5 newId)) (hn : h.Ns N mN) (hng : mN "__getattribute__" = none) (hng2 : mN "__getattr__" = none) (hna : mN name = none)
    (hB : typeLookup (.type B) name = pure none) {dx : Addr} {vs : Array Value} (hx : h.get? x = some { cls := .ref C, dict := some dx, data := .fields vs }) (hns : h.Ns dx mA) (hv : mA name = some v) (hh : handedOut v = pure v) (hq : Q v ⟨h, g, d, t + 1, os⟩) :
    wpAny (model prog w) A (getAttr (.ref x) name expr) Q E ⟨h, g, d, t, os⟩ := by
  have f3 := FB.ga.bind (.ref x)
  have hx0 : (expr && onTheHeap (Value.builtin "BaseException.__getattribute__")) = false := by cases expr <;> rfl
  have hx2 : (Value.builtin "BaseException.__getattribute__" == Value.builtin "object.__getattribute__") = false := by decide +kernel
  have hx1 : (onTheHeap (Value.ref C) && Value.builtin "BaseException.__getattribute__" == Value.builtin "object.__getattribute__") = false := by rw [hx2]; rfl
  have hk : builtinKind "BaseException.__getattribute__" = some .slot := by decide +kernel
  have hsplit : splitId "BaseException.__getattribute__" = some ("BaseException", "__getattribute__") := by decide +kernel
  have hcB : (Value.ref C :: bm).contains (.type "BaseException") = true := by rw [List.contains_cons, FB.hasBase]; rfl
  have ha := F.args_bexc_ga (.ref x) (.str name t)
  unfold getAttr
  repeat (any_goals (first | assumption | (with_reducible refine wpAny_loadPart_at hx ?_) | (with_reducible refine wpAny_typeLookup_exc hC hn FB.mro FB.ga.lookup ?_; rw [hng]) | (with_reducible refine wpAny_typeLookup_exc hC hn FB.mro FB.noGetattr ?_; rw [hng2]) | wp_step))
  refine codeAny_call_builtin FB.ga.plain F.entry_bexc_ga ?_
  simp only [checkBuiltinCall, hk, hsplit]
  refine wpAny_bind ?_
  unfold isInstance
  repeat (first | (with_reducible refine wpAny_loadPart_at hx ?_) | (with_reducible refine wpAny_isSubtype_exc hC ?_; rw [hcB]) | wp_step)
  dsimp only
  repeat (first | (with_reducible refine wpAny_loadPart_at hx ?_) | with_reducible refine wpAny_loadPart_at hC ?_ | (with_reducible refine wpAny_typeLookup_exc hC hn FB.mro hB ?_; rw [hna]) | (with_reducible refine wpAny_nsGet hns ?_; rw [hv]) | (rw [hh]) | wp_step)
  exact hq
end
end Mine
namespace Mine

abbrev PROG : Program := PySem.Challenge.rw_pq0159_02.row.prog
abbrev TopW' (mean : ExcName → Option Value) (mg mb : Str → Option Value) (h : Heap) : Prop := Top hd02.view_39 (looseW hd02.view_39 [Str.ofString "BasicError"]) mean mg mb h

structure Sub (h₀ h : Heap) : Prop where
  keep : ∀ b o, h₀.get? b = some o → h.get? b = some o
  size : h₀.objs.size ≤ h.objs.size

def Led (h₀ h : Heap) (l : List (Addr × Obj)) : Prop := ∀ p ∈ l, h.get? p.1 = some p.2 ∧ h₀.get? p.1 = none

theorem Sub.of {h₀ h : Heap} {L : Addr} {m : Str → Option Value} (F : Fr h₀ L h m) : Sub h₀ h := ⟨F.keep, Nat.le_of_lt (Nat.lt_of_le_of_lt F.above F.ns.lt)⟩
theorem Led.of {h₀ h : Heap} {L : Addr} {l : List (Addr × Obj)} (N : News h₀ L h l) : Led h₀ h l := fun q hq => ⟨(N q hq).1, (N q hq).2.2⟩

section
variable {w : World} {A A₀ : Around} {s : Shared} {base h₀ : Heap} {outer : List Env} {K : Frag} {p : Program} {loose : List Str} {mean : ExcName → Option Value} {mg mb : Str → Option Value} {news : List (Addr × Obj)}
  {prog : Program} {R : Result → Shared → Prop} {name qual : Str} {params : Arguments} {body : List Stmt} {scope : Scope} {dV kV doc pm cdv ct oc : Value} {an od : Option Addr} {osl : Array (Option Value)} {f : Addr} {args : Args} {binds : List (Str × Value)}
theorem enter_led (X : K.In h₀) (T : Top p loose mean mg mb h₀) (S : Sub h₀ s.heap) (N : Led h₀ s.heap news)
    (ho : K.lookup f = some ⟨oc, od, .func (fnOf name qual params body scope dV kV doc pm an cdv ct), osl⟩) (hcd : codeIn K cdv qual = true) (hroom : A.depth < recursionLimit)
    (hbind : BindsTo s (fnOf name qual params body scope dV kV doc pm an cdv ct) args binds) (hloc : ∀ y ∈ binds, scope.names.lookup y.1 = some .local)
    (h : ∀ L' h₁, Fr h₀ L' h₁ (fun y => binds.reverse.lookup y) → News h₀ L' h₁ news →
      wpAny (model prog w) (A.deeper (envOf qual scope L' f cdv)) (execs body (envOf qual scope L' f cdv))
        (fun fl s' => R (.ok (.ret (match fl with | .ret v => v | _ => .none))) s')
        (fun e s' => wpAny (model prog w) (A.deeper (envOf qual scope L' f cdv)) (leaving (envOf qual scope L' f cdv) e) (fun _ s'' => R (.error e) s'') (fun e' s'' => R (.error e') s'') s')
        { s with heap := h₁, toks := s.toks + binds.length })
    (hco : scope.isCoroutine = false) (hgen : scope.isGenerator = false) (hk : scope.kind = .function)
    (hcell : ∀ x ∈ scope.names, x.2 ≠ .cell) : codeAny (model prog w) A (.call (.ref f) args) R s := by
  refine codeAny_call_def (fd := fnOf name qual params body scope dV kV doc pm an cdv ct) (body := body) (binds := binds) hroom (S.keep _ _ (X _ _ ho)) rfl (T.nolimit.keeps S.keep) (codeRec_of (X.keeps S.keep) hcd) rfl hbind hcell hloc (fun h₁ hns hk₁ => ?_) hco hgen hk
  exact h _ h₁ ⟨hns, fun b o e => hk₁ _ _ (S.keep _ _ e), S.size⟩ fun q hq => ⟨hk₁ _ _ (N q hq).1, Nat.ne_of_lt (Heap.lt_size (N q hq).1), (N q hq).2⟩
theorem base_of {h : Heap} {L a : Addr} {m : Str → Option Value} {cn : Str} {cs : Scope} {ccd : Value} {rest : List (Addr × Obj)} (B : Below A₀ base outer h₀) (F : Fr h₀ L h m) (N : News h₀ L h (news ++ rest)) (hck : cs.kind = .function) :
    Below { A₀ with frames := some (envOf cn cs L a ccd :: outer) } base (envOf cn cs L a ccd :: outer) (hideAll h (news.map (·.1))) ∧ Sub (hideAll h (news.map (·.1))) h ∧ Led (hideAll h (news.map (·.1))) h news ∧ (∀ b o, h₀.get? b = some o → (hideAll h (news.map (·.1))).get? b = some o) := by
  have N₁ : ∀ q ∈ news, h.get? q.1 = some q.2 ∧ q.1 ≠ L ∧ h₀.get? q.1 = none := fun q hq => N q (List.mem_append_left _ hq)
  have nm : ∀ b o, h₀.get? b = some o → b ∉ news.map (·.1) := fun b o e q => by
    obtain ⟨p, hp, rfl⟩ := List.mem_map.mp q
    rw [(N₁ p hp).2.2] at e; cases e
  have st : ∀ b o, h₀.get? b = some o → (hideAll h (news.map (·.1))).get? b = some o := fun b o e => hideAll_get _ (F.keep b o e) (nm b o e)
  have nL : L ∉ news.map (·.1) := fun q => by
    obtain ⟨p, hp, e⟩ := List.mem_map.mp q
    exact (N₁ p hp).2.1 e
  have B₁ := B.push (name := cn) (scope := cs) (a := a) (cd := ccd) F hck
  refine ⟨⟨rfl, fun b o e => st b o (B.stays b o e), funFrames_hideAll B₁.frames fun env he b hb hf => ?_⟩, ⟨fun b o e => of_hideAll _ e, Nat.le_of_eq (hideAll_size _ _)⟩, fun q hq => ⟨(N₁ q hq).1, hideAll_none _ (List.mem_map_of_mem hq)⟩, st⟩
  cases he with
  | head => exact nL ((Option.some.inj hf : L = b) ▸ hb)
  | tail _ he =>
    obtain ⟨L₁, o₁, hf₁, ho₁⟩ := funFrames_in B.frames env he
    rw [hf₁] at hf
    exact nm L₁ o₁ ho₁ ((Option.some.inj hf : L₁ = b) ▸ hb)
theorem back_of {h h' : Heap} {L : Addr} {m : Str → Option Value} {rest news' : List (Addr × Obj)} (F : Fr h₀ L h m) (N : News h₀ L h (news ++ rest)) (hap : ∀ q ∈ rest, ∀ q' ∈ news, q.1 ≠ q'.1)
    (S : Sub (hideAll h (news.map (·.1))) h') (D : Led (hideAll h (news.map (·.1))) h' news') : Fr h₀ L h' m ∧ News h₀ L h' (news' ++ rest) := by
  have nm : ∀ b o, h₀.get? b = some o → b ∉ news.map (·.1) := fun b o e q => by
    obtain ⟨p, hp, rfl⟩ := List.mem_map.mp q
    rw [(N p (List.mem_append_left _ hp)).2.2] at e; cases e
  have st : ∀ b o, h₀.get? b = some o → (hideAll h (news.map (·.1))).get? b = some o := fun b o e => hideAll_get _ (F.keep b o e) (nm b o e)
  have nL : L ∉ news.map (·.1) := fun q => by
    obtain ⟨p, hp, e⟩ := List.mem_map.mp q
    exact (N p (List.mem_append_left _ hp)).2.1 e
  obtain ⟨oL, es, ep, hL, r⟩ := F.ns
  have hLg := hideAll_get (news.map (·.1)) hL nL
  refine ⟨⟨⟨oL, es, ep, S.keep _ _ hLg, r⟩, fun b o e => S.keep _ _ (st b o e), F.above⟩, fun q hq => ?_⟩
  rcases List.mem_append.mp hq with hq | hq
  · refine ⟨(D q hq).1, fun z => ?_, ?_⟩
    · have := (D q hq).2; rw [z, hLg] at this; cases this
    · cases z : h₀.get? q.1 with
      | none => rfl
      | some o => have := (D q hq).2; rw [st _ _ z] at this; cases this
  · have P := N q (List.mem_append_right _ hq)
    refine ⟨S.keep _ _ (hideAll_get _ P.1 fun z => ?_), P.2⟩
    obtain ⟨p, hp, e⟩ := List.mem_map.mp z
    exact hap q hq p hp e.symm
end


def Flight (h₀ : Heap) (outer : List Env) (led : List (Addr × Obj)) (e : Addr) (c : Str) (fl : Value) (h : Heap) : Prop :=
  ∃ B dx od t, (∀ b o, h₀.get? b = some o → b ∉ outer.filterMap (·.frame) → B.get? b = some o) ∧ (∀ q ∈ led, B.get? q.1 = some q.2 ∧ h₀.get? q.1 = none) ∧ ExcAt B outer e dx fl h ∧
    B.get? dx = some od ∧ (∀ h : Heap, h.get? dx = some od → ∃ mA, h.Ns dx mA ∧ mA (Str.ofString "code") = some (.str c t)) ∧ h₀.get? e = none ∧ h₀.UpToSlots h

section
variable {M : Model} {A : Around} {E : Value → Shared → Prop} {s : Shared} {h₀ : Heap} {env : Env} {outer : List Env} {L e : Addr} {led : List (Addr × Obj)} {c : Str} {fl : Value}
theorem Flight.note {Q : Unit → Shared → Prop} (hfr : A.frames = some (env :: outer)) (hf : env.frame = some L) (x : Flight h₀ (env :: outer) led e c .none s.heap)
    (h : ∀ h', Flight h₀ (env :: outer) led e c (rawInt L) h' → s.heap.UpToSlots h' → Q () { s with heap := h' }) : wpAny M A (noteFrame (.ref e) env) Q E s := by
  obtain ⟨B, dx, od, t, k1, k2, k3, k4, k5, k6, k7⟩ := x
  exact noteFly hfr hf k3 fun h' x1 u1 => h h' ⟨B, dx, od, t, k1, k2, x1, k4, k5, k6, k7.trans u1⟩ u1
theorem Flight.again {Q : Unit → Shared → Prop} {l : List Env} (hf : env.frame = some L) (x : Flight h₀ l led e c (rawInt L) s.heap) (h : Q () s) : wpAny M A (noteFrame (.ref e) env) Q E s := by
  obtain ⟨B, dx, od, t, k1, k2, k3, k4, k5, k6, k7⟩ := x
  exact noteHeld hf k3 h
theorem Flight.set {Q : Unit → Shared → Prop} {l : List Env} {fr : Option Addr} (x : Flight h₀ l led e c fl s.heap)
    (h : ∀ h', Flight h₀ l led e c (fr.elim .none fun f => rawInt f) h' → s.heap.UpToSlots h' → Q () { s with heap := h' }) : wpAny M A (setFlight (.ref e) fr) Q E s := by
  obtain ⟨B, dx, od, t, k1, k2, k3, k4, k5, k6, k7⟩ := x
  exact setFl k3 fun h' x1 u1 => h h' ⟨B, dx, od, t, k1, k2, x1, k4, k5, k6, k7.trans u1⟩ u1
theorem Flight.back {l : List Env} (x : Flight h₀ l led e c fl s.heap) (hf : env.frame = some L)
    (h : ∀ h', Flight h₀ l led e c (rawInt L) h' → s.heap.UpToSlots h' → E (.ref e) { s with heap := h' }) : cameBackBy M A env E (.ref e) s := by
  obtain ⟨B, dx, od, t, k1, k2, k3, k4, k5, k6, k7⟩ := x
  exact cameBack k3 hf fun h' x1 u1 => h h' ⟨B, dx, od, t, k1, k2, x1, k4, k5, k6, k7.trans u1⟩ u1
theorem Flight.pop {h : Heap} (hf : env.frame = some L) (hL : h₀.get? L = none) (x : Flight h₀ (env :: outer) led e c fl h) (y : ∀ {B dx}, ExcAt B (env :: outer) e dx fl h → ExcAt B outer e dx fl h) : Flight h₀ outer led e c fl h := by
  obtain ⟨B, dx, od, t, k1, k2, k3, k4, k5, k6, k7⟩ := x
  refine ⟨B, dx, od, t, fun b o hb hn => k1 b o hb fun hm => ?_, k2, y k3, k4, k5, k6, k7⟩
  rw [List.filterMap_cons, hf] at hm
  rcases List.mem_cons.mp hm with q | q
  · rw [q, hL] at hb; cases hb
  · exact hn q
theorem popD {B : Heap} {dx : Addr} {h : Heap} (x : ExcAt B (env :: outer) e dx fl h) : ExcAt B outer e dx fl h := by
  obtain ⟨a, b, ⟨_, _, c⟩, d⟩ := x
  exact ⟨a, b, c, d⟩
theorem Flight.leave {Q : Unit → Shared → Prop} (hfr : A.frames = some (env :: outer)) (hf : env.frame = some L) (hL : h₀.get? L = none) (x : Flight h₀ (env :: outer) led e c .none s.heap)
    (h : ∀ h', Flight h₀ outer led e c .none h' → Q () { s with heap := h' }) : wpAny M A (leaving env (.ref e)) Q E s := by
  unfold leaving
  exact wpAny_bind (x.note hfr hf fun h₁ x1 u1 => x1.set (fr := none) fun h₂ x2 u2 => h h₂ (x2.pop hf hL popD))
theorem Flight.leaveHeld {Q : Unit → Shared → Prop} (hf : env.frame = some L) (hL : h₀.get? L = none) (x : Flight h₀ (env :: outer) led e c (rawInt L) s.heap)
    (h : ∀ h', Flight h₀ outer led e c .none h' → Q () { s with heap := h' }) : wpAny M A (leaving env (.ref e)) Q E s := by
  unfold leaving
  exact wpAny_bind (x.again hf (x.set (fr := none) fun h₂ x2 u2 => h h₂ (x2.pop hf hL popD)))
end

def Spec (w : World) (D : Nat) (f : Addr) (args : List Value) (led : List (Addr × Obj)) (Ok : Value → List (Addr × Obj) → Prop) (Er : Str → List (Addr × Obj) → Prop) : Prop :=
  ∀ (A : Around) (outer : List Env) (A₀ : Around) (base h₀ : Heap) (mean : ExcName → Option Value) (mg mb : Str → Option Value) (s : Shared) (R : Result → Shared → Prop),
    A.handled = none → A.frames = some outer → Below A₀ base outer h₀ → (hd02.heap_39 w.params).In h₀ → TopW' mean mg mb h₀ → Sub h₀ s.heap → Led h₀ s.heap led → A.depth ≤ D → A.units ≤ 9 * D →
    (∀ v h' tk' led', Sub h₀ h' → Led h₀ h' led' → Ok v led' → R (.ok (.ret v)) { s with heap := h', toks := tk' }) →
    (∀ e c h' tk' led', Flight h₀ outer led' e c .none h' → Er c led' → R (.error (.ref e)) { s with heap := h', toks := tk' }) →
    codeAny (model PROG w) A (.call (.ref f) ⟨args, []⟩) R s

theorem frames_in {base h : Heap} {l : List Env} (B : h.FunFrames base l) {b : Addr} (hb : b ∈ l.filterMap (·.frame)) : ∃ o, h.get? b = some o := (B.mem hb).2.imp fun _ x => x.1

theorem Spec.use {w : World} {D : Nat} {f : Addr} {args : List Value} {led rest : List (Addr × Obj)} {Ok : Value → List (Addr × Obj) → Prop} {Er : Str → List (Addr × Obj) → Prop} (C : Spec w D f args led Ok Er)
    {A : Around} {outer : List Env} {A₀ : Around} {base h₀ : Heap} {mean : ExcName → Option Value} {mg mb : Str → Option Value} {s : Shared} {L a : Addr} {m : Str → Option Value} {cn : Str} {cs : Scope} {ccd : Value} {Q E : Value → Shared → Prop}
    (hh : A.handled = none) (hA : A.frames = some (envOf cn cs L a ccd :: outer)) (B : Below A₀ base outer h₀) (F : Fr h₀ L s.heap m) (X : (hd02.heap_39 w.params).In h₀) (T : TopW' mean mg mb h₀) (N : News h₀ L s.heap (led ++ rest)) (hap : ∀ q ∈ rest, ∀ q' ∈ led, q.1 ≠ q'.1)
    (hdp : A.depth ≤ D) (hun : A.units ≤ 9 * D) (hck : cs.kind = .function)
    (k : ∀ v h' tk' led', Fr h₀ L h' m → News h₀ L h' (led' ++ rest) → Ok v led' → Q v { s with heap := h', toks := tk' })
    (kE : ∀ e c h' tk' led', Flight h₀ (envOf cn cs L a ccd :: outer) (led' ++ rest) e c .none h' → h'.Ns L m → Er c led' → E (.ref e) { s with heap := h', toks := tk' }) :
    wpAny (model PROG w) A (call (.ref f) args) Q E s := by
  obtain ⟨B', S', L', st⟩ := base_of (cn := cn) (a := a) (ccd := ccd) B F N hck
  refine wpAny_call (C A (envOf cn cs L a ccd :: outer) _ base _ mean mg mb s _ hh hA B' (fun a o e => st _ _ (X a o e)) (T.keeps st) S' L' hdp hun (fun v h' tk' led' S D o => ?_) fun e c h' tk' led' x o => ?_)
  · obtain ⟨F', N'⟩ := back_of F N hap S D
    exact k v h' tk' led' F' N' o
  · obtain ⟨G, dx, od, t, k1, k2, k3, k4, k5, k6, k7⟩ := x
    have hns : ∀ q ∈ led ++ rest, q.1 ∉ (envOf cn cs L a ccd :: outer).filterMap (·.frame) := fun q hq hm => by
      rw [List.filterMap_cons] at hm
      rcases List.mem_cons.mp hm with z | z
      · exact (N q hq).2.1 z
      · obtain ⟨o, ho⟩ := frames_in B.frames z
        rw [(N q hq).2.2] at ho; cases ho
    have nm : ∀ b o, h₀.get? b = some o → (hideAll s.heap (led.map (·.1))).get? b = some o := st
    refine kE e c h' tk' led' ⟨G, dx, od, t, fun b o hb hn => k1 b o (nm b o hb) hn, fun q hq => ?_, k3, k4, k5, ?_, (Heap.UpToSlots.of_keeps st).trans k7⟩ ?_ o
    · rcases List.mem_append.mp hq with hq | hq
      · refine ⟨(k2 q hq).1, ?_⟩
        cases z : h₀.get? q.1 with
        | none => rfl
        | some o => have := (k2 q hq).2; rw [st _ _ z] at this; cases this
      · have P := N q (List.mem_append_right _ hq)
        refine ⟨k1 _ _ (hideAll_get _ P.1 fun z => ?_) (hns q (List.mem_append_right _ hq)), P.2.2⟩
        obtain ⟨p, hp, e⟩ := List.mem_map.mp z
        exact hap q hq p hp e.symm
    · cases z : h₀.get? e with
      | none => rfl
      | some o => rw [st _ _ z] at k6; cases k6
    · have nL : L ∉ led.map (·.1) := fun q => by
        obtain ⟨p, hp, e⟩ := List.mem_map.mp q
        exact (N p (List.mem_append_left _ hp)).2.1 e
      obtain ⟨oL, es, ep, hL, r⟩ := F.ns
      exact k7.ns ⟨oL, es, ep, hideAll_get _ hL nL, r⟩
end Mine
namespace Mine
section
variable {w : World} {A A₀ : Around} {s : Shared} {base h₀ : Heap} {outer : List Env} {K : Frag} {p : Program} {loose : List Str} {mean : ExcName → Option Value} {mg mb : Str → Option Value} {news : List (Addr × Obj)}
  {prog : Program} {R : Result → Shared → Prop} {name qual : Str} {params : Arguments} {body : List Stmt} {scope : Scope} {dV kV doc pm cdv ct oc : Value} {an od : Option Addr} {osl : Array (Option Value)} {f cc : Addr} {args : Args} {binds : List (Str × Value)}
theorem enter_ledS (X : K.In h₀) (T : Top p loose mean mg mb h₀) (S : Sub h₀ s.heap) (N : Led h₀ s.heap news)
    (ho : K.lookup f = some ⟨oc, od, .func (ksFn name qual params body scope dV kV doc pm an cdv ct cc), osl⟩) (hcd : codeIn K cdv qual = true) (hroom : A.depth < recursionLimit)
    (hbind : BindsTo s (ksFn name qual params body scope dV kV doc pm an cdv ct cc) args binds) (hloc : ∀ y ∈ binds, scope.names.lookup y.1 = some .local)
    (h : ∀ L' h₁, Fr h₀ L' h₁ (fun y => binds.reverse.lookup y) → News h₀ L' h₁ news →
      _root_.PySem.wpAt (model prog w) (A.deeper (ksEnv qual scope L' f cdv cc)) (.func body (ksEnv qual scope L' f cdv cc)) (execs body (ksEnv qual scope L' f cdv cc))
        (fun fl s' => R (.ok (.ret (match fl with | .ret v => v | _ => .none))) s')
        (fun e s' => wpAny (model prog w) (A.deeper (ksEnv qual scope L' f cdv cc)) (leaving (ksEnv qual scope L' f cdv cc) e) (fun _ s'' => R (.error e) s'') (fun e' s'' => R (.error e') s'') s')
        { s with heap := h₁, toks := s.toks + binds.length })
    (hco : scope.isCoroutine = false) (hgen : scope.isGenerator = false) (hk : scope.kind = .function)
    (hcell : ∀ x ∈ scope.names, x.2 ≠ .cell) : codeAny (model prog w) A (.call (.ref f) args) R s := by
  refine ks_codeAny_call_defAt (fd := ksFn name qual params body scope dV kV doc pm an cdv ct cc) (body := body) (binds := binds) hroom (S.keep _ _ (X _ _ ho)) rfl (T.nolimit.keeps S.keep) (codeRec_of (X.keeps S.keep) hcd) rfl hbind hcell hloc (fun h₁ hns hk₁ => ?_) hco hgen hk
  exact h _ h₁ ⟨hns, fun b o e => hk₁ _ _ (S.keep _ _ e), S.size⟩ fun q hq => ⟨hk₁ _ _ (N q hq).1, Nat.ne_of_lt (Heap.lt_size (N q hq).1), (N q hq).2⟩
end

abbrev excO (dx : Option Addr) (t : Addr) : Obj := { cls := .ref 34, dict := dx, data := .fields #[.ref t, .none, .none, .none, .bool false, .none] }
abbrev tupO (vs : List Value) : Obj := { cls := .type "tuple", data := .seq vs.toArray }

theorem excClass {w : World} {h : Heap} (X : (hd02.heap_39 w.params).In h) : ∃ (nm q : Str) (bs : List Value) (dd : Option Addr) (k0 k1 k2 k3 k5 : Option Value) (mN : Str → Option Value),
    h.get? 34 = some (excClassObj nm q 34 33 bs [.type "Exception", .type "BaseException", .type "object"] true [] [] false none dd k0 k1 k2 k3 k5 "Exception.__new__") ∧ h.Ns 33 mN ∧ mN (Str.ofString "code") = none ∧ mN (Str.ofString "told") = none ∧
    mN (Str.ofString "__setattr__") = none ∧ mN (Str.ofString "__getattribute__") = none ∧ mN (Str.ofString "__getattr__") = none ∧ mN (Str.ofString "__init__") = some (.ref 31) := by
  have h34 := X 34 _ (by k_is)
  have h33 := X 33 _ (by k_is)
  refine ⟨_, _, _, _, _, _, _, _, _, _, h34, ⟨_, _, _, h33, rfl, ?_, fun _ => rfl⟩, ?_, ?_, ?_, ?_, ?_, ?_⟩
  · intro e he
    simp at he
    rcases he with rfl | rfl | rfl | rfl | rfl | rfl <;> exact ⟨_, _, rfl⟩
  all_goals (first | rfl | kernel_rfl)

theorem fr_of_but {h₀ h h' : Heap} {L x : Addr} {m : Str → Option Value} (F : Fr h₀ L h m) (hx : h₀.get? x = none) (hxL : x ≠ L) (k : ∀ b o, b ≠ x → h.get? b = some o → h'.get? b = some o) : Fr h₀ L h' m := by
  obtain ⟨oL, es, ep, hL, r⟩ := F.ns
  exact ⟨⟨oL, es, ep, k _ _ (Ne.symm hxL) hL, r⟩, fun b o e => k b o (fun q => by rw [q, hx] at e; cases e) (F.keep b o e), F.above⟩

theorem fr_of_but2 {h₀ h h' : Heap} {L x y : Addr} {m : Str → Option Value} (F : Fr h₀ L h m) (hx : h₀.get? x = none) (hy : h₀.get? y = none) (hxL : x ≠ L) (hyL : y ≠ L) (k : ∀ b o, b ≠ x → b ≠ y → h.get? b = some o → h'.get? b = some o) : Fr h₀ L h' m := by
  obtain ⟨oL, es, ep, hL, r⟩ := F.ns
  exact ⟨⟨oL, es, ep, k _ _ (Ne.symm hxL) (Ne.symm hyL) hL, r⟩, fun b o e => k b o (fun q => by rw [q, hx] at e; cases e) (fun q => by rw [q, hy] at e; cases e) (F.keep b o e), F.above⟩

theorem no_at {h₀ h : Heap} {L : Addr} {m : Str → Option Value} (F : Fr h₀ L h m) : h₀.get? h.objs.size = none := by
  cases e : h₀.get? h.objs.size with
  | none => rfl
  | some o => exact absurd (Heap.lt_size (F.keep _ _ e)) (Nat.lt_irrefl _)

theorem callWith_P {P : Heap → Prop} {M : Model} {A : Around} {E : Value → Shared → Prop} {s : Shared} {env : Env} {pos : Pos} {f : Value} {first : List Value} {Q : Value → Shared → Prop} {e : Expr} {rest : List Expr}
    (hk : ∀ h, P h → ∃ k, (k = Keeper.frame ∨ k = Keeper.machine ∨ k = Keeper.boundFrame) ∧ Looks M h (keeperOf f) k)
    (h : wpAny M A (spliced (backTo pos (starEach (e :: rest) env))) (fun vs s₁ => P s₁.heap ∧ wpAny M A (call f (first ++ vs)) Q E s₁) E s)
    (he : starEach (e :: rest) env = (false, eval e env) :: starEach rest env := by rfl) (hplain : (backTo pos (starEach rest env)).any (·.1) = false := by rfl) :
    wpAny M A (callWith pos f first (backTo pos (starEach (e :: rest) env)) []) Q E s := by
  rw [he] at h ⊢
  exact callWith_of (by show ((false || (backTo pos (starEach rest env)).any (·.1)) || false) = false; rw [hplain]; rfl) hk (evalArgs_plain h)

theorem looks_mw {M : Model} {h : Heap} {q : Addr} {a b : Value} (hq : h.get? q = some { cls := .type "method-wrapper", data := .fields #[a, b] }) : Looks M h (keeperOf (.ref q)) .machine := by
  unfold keeperOf
  exact (Looks.ld (part := none) hq).andThen .now

theorem init_spec {w : World} {e t : Addr} {t1 t2 : Tok} {c m : Str} {vs : List Value} :
    Spec w 900 31 [.ref e, .str c t1, .str m t2] [(e, excO none t), (t, tupO vs)]
      (fun v l => v = .none ∧ ∃ dx od t', l = [(e, excO (some dx) t'), (dx, od)] ∧ dx ≠ e ∧ (∀ h : Heap, h.get? dx = some od → ∃ mA, h.Ns dx mA ∧ mA (Str.ofString "code") = some (.str c t1))) (fun _ _ => False) := by
  intro A outer A₀ base h₀ mean mg mb s R hh hA B X T S N hdp hun h hE
  obtain ⟨hd, dp, fr, gd, un⟩ := A
  dsimp only at hh hA hdp hun
  subst hh hA
  refine' enter_ledS (K := hd02.heap_39 w.params) (binds := [(Str.ofString "self", Value.ref e), (Str.ofString "code", .str c t1), (Str.ofString "told", .str m t2)]) X T S N ?k6 ?k7 ?k8 ?k9 ?kB ?_ ?c2 ?c3 ?c4 ?c5
  (case k6 => k_is)
  (case k7 => k_is)
  (case k8 => (simp only [recursionLimit]; omega))
  (case k9 => exact binds_K (X.keeps S.keep) rfl (by k_is) rfl rfl rfl)
  (case c5 => decide)
  (case kB => exact locs rfl)
  (case c2 => exact rfl)
  (case c3 => exact rfl)
  (case c4 => exact rfl)
  intro L' h₁ F' N'
  (try dsimp only)
  iterate 3 walk1
  have I : InstAt h₁ e (excO none t) 34 none := ⟨(N' _ (.head _)).1, rfl, rfl, trivial⟩
  k_dflt (refine ks_node (by k_asm) (by k_asm) (by k_asm) (by k_asm) (by k_is) (by rfl) (by rfl) I (by k_is) (by rfl) (by first | rfl | decide +kernel) (by k_is) (by k_is) (by k_is) (by k_is) (by decide) (by rfl) (by rfl) (by rfl) (by rfl) (by decide +kernel) (by first | boot_by_name | rfl | kernel_rfl) ?_; intro so' h' F' N' l1; (try k_lt l1))
  have X' := X.keeps F'.keep
  obtain ⟨nm, q, bs, dd, k0, k1, k2, k3, k5, mN, hC, hNs, n1, n2, n3, n4, n5, n6⟩ := excClass X'
  have hmro : Looks (model PROG w) h' (mroOf (.ref 34)) (.ref 34 :: [.type "Exception", .type "BaseException", .type "object"]) := fun A Q E s k q => by
    obtain ⟨hh, g, d, tt, os⟩ := s
    exact wpAny_mroOf_exc (k _ _ hC) q
  have hno : Looks (model PROG w) h' (opaqueClassAbove (.ref 34)) none := looks_opaque X' (by k_is)
  refine sup_getMethod (D := 34) (C := 34) (x := e) (h := h') (N' _ (.head _)).1 hno hmro rfl X' (by kernel_rfl) (N' _ (.tail _ (.head _))).1 rfl ?_ (looks_mroIn X' (by k_is)) ?_
  · exact fun q => by have z := (N' _ (.tail _ (.head _))).1; dsimp only at z; rw [q, hC] at z; cases z
  have hmw : (h'.push { cls := .type "method-wrapper", data := .fields #[.builtin "Exception.__init__", .ref e] }).get? h'.objs.size = some { cls := .type "method-wrapper", data := .fields #[.builtin "Exception.__init__", .ref e] } := Heap.get?_push_size _ rfl
  have F₂ := F'.push { cls := .type "method-wrapper", data := .fields #[.builtin "Exception.__init__", .ref e] }
  have N₂ := N'.push F' { cls := .type "method-wrapper", data := .fields #[.builtin "Exception.__init__", .ref e] }
  generalize h'.objs.size = mw at hmw N₂ ⊢
  generalize h'.push { cls := .type "method-wrapper", data := .fields #[.builtin "Exception.__init__", .ref e] } = h₂ at hmw F₂ N₂ ⊢
  clear F' N' hmro hno hC hNs n1 n2 n3 n4 n5 n6 X'
  refine callWith_P (P := fun hh => hh.get? mw = some { cls := .type "method-wrapper", data := .fields #[.builtin "Exception.__init__", .ref e] }) (fun hh hq => ⟨_, .inr (.inl rfl), looks_mw hq⟩) ?_
  iterate 3 walk1
  refine ⟨hmw, ?_⟩
  have hLe : e ≠ L' := (N₂ _ (.tail _ (.tail _ (.head _)))).2.1
  have he0 : h₀.get? e = none := (N₂ _ (.tail _ (.tail _ (.head _)))).2.2
  refine call_mw (x := e) (C := 34) hmw (N₂ _ (.tail _ (.tail _ (.head _)))).1 (X.keeps F₂.keep 34 _ (by k_is)) fun h₃ e₁ e₂ e₃ e₄ => ?_
  have F₃ := fr_of_but F₂ he0 hLe e₃
  have z0 : h₀.get? h₂.objs.size = none := no_at F₂
  generalize h₂.objs.size = t' at e₁ e₂ e₄ z0
  clear e₃ hmw F₂ N₂ e₄
  iterate 5 (first | walk1 | (dsimp only; walk1) | skip)
  obtain ⟨nm, q, bs, dd, k0, k1, k2, k3, k5, mN, hC, hNs, n1, n2, n3, n4, n5, n6⟩ := excClass (X.keeps F₃.keep)
  refine set_first (C := 34) F.store_Exception hC hNs n3 n1 (by rw [typeLookup_type, builtinLookup_eq_fast]; kernel_rfl) e₁ fun h₄ tk₄ od b₁ b₂ b₃ b₄ b₅ => ?_
  have F₄ := fr_of_but F₃ he0 hLe b₄
  have hdx0 : h₀.get? h₃.objs.size = none := no_at F₃
  have hdxL : h₃.objs.size ≠ L' := Nat.ne_of_gt F₃.ns.lt
  have hdxe : h₃.objs.size ≠ e := Nat.ne_of_gt (Heap.lt_size e₁)
  clear b₄ b₅ F₃ hC hNs n1 n2 n3 n4 n5 n6 e₁ e₂
  generalize h₃.objs.size = dx at b₁ b₂ b₃ hdx0 hdxe hdxL
  iterate 5 (first | walk1 | (dsimp only; walk1) | skip)
  obtain ⟨nm, q, bs, dd, k0, k1, k2, k3, k5, mN, hC, hNs, n1, n2, n3, n4, n5, n6⟩ := excClass (X.keeps F₄.keep)
  have I₄ : h₄.Inst e 34 (fun y => if y = Str.ofString "code" then some (.str c t1) else none) := ⟨_, b₁, rfl, (fun c q => by cases q), .inr ⟨dx, rfl, hdxe, b₃⟩⟩
  refine store_attr (C := 34) F.store_Exception hC hNs n3 n2 (by rw [typeLookup_type, builtinLookup_eq_fast]; kernel_rfl) (fun q => by rw [q, hC] at b₁; cases b₁) I₄ fun h₅ tk₅ I₅ c₁ c₂ => ?_
  obtain ⟨o₁, c₃, c₄, c₅, c₆, c₇⟩ := c₂ _ b₁
  have c₈ := c₇ dx rfl
  obtain ⟨oc, od', oda, osl⟩ := o₁
  dsimp only at c₄ c₅ c₆ c₈
  subst c₄ c₅ c₆ c₈
  have F₅ : Fr h₀ L' h₅ _ := fr_of_but2 F₄ he0 hdx0 hLe hdxL fun b o n1 n2 => c₁ b o n1 fun o₀ dx' z1 z2 => by
    rw [b₁] at z1
    obtain rfl := Option.some.inj z1
    obtain rfl := Option.some.inj z2
    exact n2
  obtain ⟨o₂, i₁, _, _, i₂⟩ := I₅
  rw [c₃] at i₁
  obtain rfl := Option.some.inj i₁
  have i₃ : h₅.Ns1 dx (fun y => if y = Str.ofString "told" then some (.str m t2) else if y = Str.ofString "code" then some (.str c t1) else none) := by
    rcases i₂ with ⟨z, _⟩ | ⟨dx', z, _, z2⟩
    · cases z
    · obtain rfl := Option.some.inj z
      exact z2
  obtain ⟨o₅, es₅, ep₅, hdx₅, hd₅, hk₅, _, hm₅⟩ := i₃
  iterate 3 (first | walk1 | (dsimp only; walk1) | skip)
  refine h _ _ _ [(e, excO (some dx) t'), (dx, o₅)] (Sub.of F₅) (fun p hp => ?_) ⟨rfl, dx, o₅, t', rfl, hdxe, fun hh z => ⟨_, ⟨o₅, es₅, ep₅, z, hd₅, hk₅, hm₅⟩, ?_⟩⟩
  · rcases List.mem_cons.mp hp with rfl | hp
    · exact ⟨c₃, he0⟩
    · rw [List.mem_singleton.mp hp]
      exact ⟨hdx₅, hdx0⟩
  · rw [if_neg (by decide), if_pos rfl]
end Mine
namespace Mine
theorem raiseD {w : World} {M : Model} {A : Around} {E : Value → Shared → Prop} {env : Env} {s : Shared} {x : Sem Value} {Q : Flow → Shared → Prop} (hh : A.handled = none)
    (h : wpAny M A x (fun v s₁ => ∃ e t dx, v = .ref e ∧ (hd02.heap_39 w.params).In s₁.heap ∧
      s₁.heap.get? e = some { cls := .ref 34, dict := some dx, data := .fields #[.ref t, .none, .none, .none, .bool false, .none] } ∧ E (.ref e) s₁) E s) :
    wpAny M A (raiseStmt env (some x) none) Q E s := by
  have hcB : ([Value.ref 34, .type "Exception", .type "BaseException", .type "object"]).contains (.type "BaseException") = true := by decide
  unfold raiseStmt
  refine wpAny_bind (wpAny_mono h (fun v s₁ h₁ => ?_) fun _ _ x => x)
  obtain ⟨e, t, dx, rfl, X, he, hE⟩ := h₁
  obtain ⟨hp, g, d, tk, os⟩ := s₁
  obtain ⟨nm, q, bs, dd, k0, k1, k2, k3, k5, mN, hC, _⟩ := excClass X
  repeat (first | with_reducible refine wpAny_loadPart_at he ?_ | with_reducible refine wpAny_loadPart_at hC ?_ | (with_reducible refine wpAny_isSubtype_exc hC ?_; rw [hcB]) | wp_step)
  exact wpAny_raiseNew_none hh hE

theorem trim (h : Heap) (n : Nat) (k : ∀ b o, h.get? b = some o → b < n) : ∃ g : Heap, (∀ b, g.get? b = h.get? b) ∧ g.objs.size ≤ n := by
  refine ⟨⟨(h.objs.toList.take n).toArray, h.life⟩, fun b => ?_, by simp; exact Nat.min_le_left _ _⟩
  have e : ((h.objs.toList.take n).toArray)[b]? = if b < n then h.objs[b]? else none := by
    rw [List.getElem?_toArray, List.getElem?_take, Array.getElem?_toList]
  by_cases hb : b < n
  · unfold Heap.get?
    rw [if_pos hb] at e
    simp only [e]
  · have h1 : h.get? b = none := by
      cases z : h.get? b with
      | none => rfl
      | some o => exact absurd (k b o z) hb
    rw [h1]
    unfold Heap.get?
    rw [if_neg hb] at e
    simp only [e]

def FlightNew (h₀ : Heap) (l : List Env) (led : List (Addr × Obj)) (e : Addr) (c : Str) (h : Heap) : Prop :=
  ∃ B dx od t tt, (∀ b o, h₀.get? b = some o → b ∉ l.filterMap (·.frame) → B.get? b = some o) ∧ (∀ q ∈ led, B.get? q.1 = some q.2 ∧ h₀.get? q.1 = none) ∧
    h.get? e = some (excV dx #[.ref tt, .none, .none, .none, .bool false, .none]) ∧ B.StaysIn h ∧ B.get? e = none ∧ h.FunFrames B l ∧
    B.get? dx = some od ∧ (∀ h : Heap, h.get? dx = some od → ∃ mA, h.Ns dx mA ∧ mA (Str.ofString "code") = some (.str c t)) ∧ h₀.get? e = none ∧ h₀.UpToSlots h

theorem FlightNew.leave {M : Model} {A : Around} {E : Value → Shared → Prop} {s : Shared} {h₀ : Heap} {env : Env} {outer : List Env} {L e : Addr} {led : List (Addr × Obj)} {c : Str} {Q : Unit → Shared → Prop} (hfr : A.frames = some (env :: outer)) (hf : env.frame = some L) (hL : h₀.get? L = none) (x : FlightNew h₀ (env :: outer) led e c s.heap)
    (h : ∀ h', Flight h₀ outer led e c .none h' → Q () { s with heap := h' }) : wpAny M A (leaving env (.ref e)) Q E s := by
  obtain ⟨B, dx, od, t, tt, k1, k2, k3, k4, k5, k6, k7, k8, k9, k10⟩ := x
  refine Mine.leaveNew hfr k6 hf k3 k4 k5 fun h' x1 u1 => h h' ⟨B, dx, od, t, fun b o hb hn => k1 b o hb fun hm => ?_, k2, x1, k7, k8, k9, k10.trans u1⟩
  rw [List.filterMap_cons, hf] at hm
  rcases List.mem_cons.mp hm with q | q
  · rw [q, hL] at hb; cases hb
  · exact hn q

theorem raise_spec {w : World} {A : Around} {outer : List Env} {A₀ : Around} {base h₀ : Heap} {mean : ExcName → Option Value} {mg mb : Str → Option Value} {s : Shared} {L a : Addr} {m : Str → Option Value} {cn : Str} {cs : Scope} {ccd : Value} {Q : Flow → Shared → Prop} {E : Value → Shared → Prop} {news : List (Addr × Obj)}
    {np cpos pos p1 p2 : Pos} {k1 k2 : Nat} {c1 c2 : Str}
    (hh : A.handled = none) (hA : A.frames = some (envOf cn cs L a ccd :: outer)) (B : Below A₀ base outer h₀) (F : Fr h₀ L s.heap m) (X : (hd02.heap_39 w.params).In h₀) (T : TopW' mean mg mb h₀) (N : News h₀ L s.heap news)
    (hdp : A.depth ≤ 880) (hun : A.units ≤ 9 * 880) (hck : cs.kind = .function) (hx : (envOf cn cs L a ccd).kindOf "BasicError" = some .globalImplicit)
    (kE : ∀ e h' tk', FlightNew h₀ (envOf cn cs L a ccd :: outer) news e c1 h' → E (.ref e) { s with heap := h', toks := tk' }) :
    wpAny (model PROG w) A (exec (.Raise (some (.Call (.Name (Str.ofString "BasicError") np) [.Constant (.str c1) k1 p1, .Constant (.str c2) k2 p2] [] cpos)) none pos) (envOf cn cs L a ccd)) Q E s := by
  rw [arm_exec_Raise]
  refine wpAny_bind (wpAny_standAt ?_)
  refine raiseD (w := w) hh ?_
  refine wpAny_bind (wpAny_mono (wpAny_Call_ofName ?_) (fun v s₃ h₃ => wpAny_bind (wpAny_standAt (wpAny_pure h₃))) fun _ _ x => x)
  refine name_K F X (topRead_of T) (by k_is) ?_ hck hx
  refine callWith_K X (by k_is) ?_
  iterate 5 walk1
  have Xs := X.keeps F.keep
  refine ⟨Xs, ?_⟩
  obtain ⟨nm, q, bs, dd, k0, k1, k2, k3, k5, mN, hC, hNs, n1, n2, n3, n4, n5, n6⟩ := excClass Xs
  have B' := B.push (name := cn) (scope := cs) (a := a) (cd := ccd) F hck
  refine wpAny_call_exc_init PySem.F.excBase_Exception hC hNs n6 (Xs 31 _ (by k_is)) rfl fun h' e hm => ?_
  obtain ⟨t, he, ht0, ht⟩ := hm.there
  obtain ⟨g, hg, hgs⟩ := trim s.heap h'.objs.size fun b o z => Heap.lt_size (hm.keeps b o z)
  have hgk : ∀ b o, s.heap.get? b = some o → g.get? b = some o := fun b o z => (hg b).trans z
  have hgk' : ∀ b o, g.get? b = some o → s.heap.get? b = some o := fun b o z => (hg b).symm.trans z
  have Bg : Below (A₀.deeper (envOf cn cs L a ccd)) base (envOf cn cs L a ccd :: outer) g := ⟨B'.stack, fun b o z => hgk _ _ (B'.stays b o z), B'.frames.of_keeps fun b o z _ => ⟨o, hgk _ _ z, rfl⟩⟩
  refine wpAny_call (init_spec (e := e) (t := t) (vs := [.str c1 s.toks, .str c2 (s.toks + 1)]) _ (envOf cn cs L a ccd :: outer) _ _ g mean mg mb _ _ hh hA Bg (Xs.keeps hgk) ((T.keeps F.keep).keeps hgk) ⟨fun b o z => hm.keeps _ _ (hgk' _ _ z), hgs⟩ ?_ ?_ ?_ (fun v h₂ tk₂ led₂ S₂' L₂' o => ?_) fun _ _ _ _ _ _ z => z.elim)
  · intro p hp
    rcases List.mem_cons.mp hp with rfl | hp
    · exact ⟨he, (hg _).trans hm.new⟩
    · rw [List.mem_singleton.mp hp]
      exact ⟨ht, (hg _).trans ht0⟩
  · show A.depth + 1 ≤ 900
    omega
  · show A.units + (Code.builtin "type.__call__" ⟨[.ref 34, .str c1 s.toks, .str c2 (s.toks + 1)], []⟩).cUnits ≤ 9 * 900
    have : (Code.builtin "type.__call__" ⟨[.ref 34, .str c1 s.toks, .str c2 (s.toks + 1)], []⟩).cUnits ≤ 10 := by show _ ≤ _; exact Nat.le_of_ble_eq_true rfl
    omega
  have S₂ : ∀ b o, s.heap.get? b = some o → h₂.get? b = some o := fun b o z => S₂'.keep _ _ (hgk _ _ z)
  have L₂ : ∀ p ∈ led₂, h₂.get? p.1 = some p.2 ∧ s.heap.get? p.1 = none := fun p hp => ⟨(L₂' p hp).1, (hg _).symm.trans (L₂' p hp).2⟩
  obtain ⟨rfl, dx, od, t', rfl, hde, hcode⟩ := o
  have he₂ := L₂ _ (.head _)
  have hd₂ := L₂ _ (.tail _ (.head _))
  refine ⟨rfl, e, t', dx, rfl, Xs.keeps S₂, he₂.1, kE e h₂ tk₂ ?_⟩
  have hfr : ∀ b ∈ (envOf cn cs L a ccd :: outer).filterMap (·.frame), ∃ o, s.heap.get? b = some o := fun b hb => frames_in B'.frames hb
  have nfr : ∀ b, s.heap.get? b = none → b ∉ (envOf cn cs L a ccd :: outer).filterMap (·.frame) := fun b hb hm => by
    obtain ⟨o, ho⟩ := hfr b hm
    rw [hb] at ho; cases ho
  have hin : ∀ env ∈ (envOf cn cs L a ccd :: outer), ∀ b, env.frame = some b → b ∈ e :: (envOf cn cs L a ccd :: outer).filterMap (·.frame) := fun env he b hb => .tail _ (List.mem_filterMap.mpr ⟨env, he, hb⟩)
  refine ⟨hideAll h₂ (e :: (envOf cn cs L a ccd :: outer).filterMap (·.frame)), dx, od, _, t', fun b o hb hn => ?_, fun p hp => ⟨?_, (N p hp).2.2⟩, he₂.1, fun b o z => of_hideAll _ z, hideAll_none _ (.head _), ?_, ?_, hcode, ?_, ?_⟩
  · refine hideAll_get _ (S₂ _ _ (F.keep _ _ hb)) fun hm => ?_
    rcases List.mem_cons.mp hm with z | z
    · rw [z] at hb; rw [F.keep _ _ hb] at he₂; exact absurd he₂.2 (by simp)
    · exact hn z
  · refine hideAll_get _ (S₂ _ _ (N p hp).1) fun hm => ?_
    rcases List.mem_cons.mp hm with z | z
    · have := (N p hp).1; rw [z, he₂.2] at this; cases this
    · rw [List.filterMap_cons] at z
      rcases List.mem_cons.mp z with z | z
      · exact (N p hp).2.1 z
      · obtain ⟨o, ho⟩ := frames_in B.frames z
        rw [(N p hp).2.2] at ho; cases ho
  · exact funFrames_hide (B'.frames.of_keeps fun b o z _ => ⟨o, S₂ _ _ z, rfl⟩) hin
  · refine hideAll_get _ hd₂.1 fun hm => ?_
    rcases List.mem_cons.mp hm with z | z
    · exact hde z
    · exact nfr _ hd₂.2 z
  · cases z : h₀.get? e with
    | none => rfl
    | some o => rw [F.keep _ _ z] at he₂; exact absurd he₂.2 (by simp)
  · exact Heap.UpToSlots.of_keeps fun b o z => S₂ _ _ (F.keep _ _ z)
end Mine
namespace Mine

def Stop (P : Prop) : Prop := P
theorem Stop.intro {P : Prop} (h : Stop P) : P := h

theorem execs_mid {M : Model} {A : Around} {E : Value → Shared → Prop} {s : Shared} {env : Env} {st : Stmt} {rest : List Stmt} {Q : Flow → Shared → Prop} (Mid : Shared → Prop)
    (h1 : wpAny M A (exec st env) (fun f s' => f = .next ∧ Mid s') E s) (h2 : ∀ s', Mid s' → wpAny M A (execs rest env) Q E s') : wpAny M A (execs (st :: rest) env) Q E s :=
  wpAny_execs_cons (wpAny_mono h1 (fun f s' h => by obtain ⟨rfl, h⟩ := h; exact h2 s' h) fun _ _ x => x)

abbrev pgEs (w : World) (t1 t2 : Tok) (o : Addr) (v : Value) : List DictEntry := [⟨PyData.keyHash w.params (Str.ofString "out"), .str (Str.ofString "out") t1, .ref o⟩, ⟨PyData.keyHash w.params (Str.ofString "row"), .str (Str.ofString "row") t2, v⟩]
abbrev pgLed (w : World) (p d o : Addr) (t1 t2 t3 : Tok) (row : Str) (its : Array Value) (k : Nat) : List (Addr × Obj) := [(p, instObj 54 d), (d, dictOf (pgEs w t1 t2 o (.str row t3)) 2), (o, W.listOf its k)]

local macro_rules | `(tactic| walk_at "mine_k") => `(tactic| (
  (case k6 => k_is)
  (case k7 => k_is)
  (case k8 => (simp only [recursionLimit]; omega))
  (case k9 => exact BindsTo.of_eq rfl)
  (case c5 => decide)
  (case kB => exact locs rfl)
  (case c2 => exact rfl)
  (case c3 => exact rfl)
  (case c4 => exact rfl)
  intro L' h₁ F' N'
  (try dsimp only)))
local macro_rules | `(tactic| walk_at "mine_go") => `(tactic| (repeat' (first | (k_unfold; (try dsimp only)) | walk1 | (dsimp only; walk1))))

theorem end_row_spec {w : World} {p d o : Addr} {t1 t2 t3 : Tok} {k : Nat} {its : Array Value} {row : Str} (hpd : @Ne Nat p d) (hpo : @Ne Nat p o) (hdo : @Ne Nat d o) (hits : its.size ≤ 100000) :
    Spec w 870 65 [.ref p] (pgLed w p d o t1 t2 t3 row its k)
      (fun v l => v = .none ∧ ∃ t3' k', l = pgLed w p d o t1 t2 t3' (Str.ofString "") (its.push (.str row t3)) k') (fun _ _ => False) := by
  intro A outer A₀ base h₀ mean mg mb s R hh hA B X T S N hdp hun h hE
  obtain ⟨hd, dp, fr, gd, un⟩ := A
  dsimp only at hh hA hdp hun
  subst hh hA
  refine' enter_led (K := hd02.heap_39 w.params) (binds := [(Str.ofString "page", Value.ref p)]) X T S N ?k6 ?k7 ?k8 ?k9 ?kB ?_ ?c2 ?c3 ?c4 ?c5
  walk_at "mine_k"
  walk_at "mine_go"
  exact h _ _ _ _ (Sub.of (by assumption)) (Led.of (by assumption)) ⟨rfl, _, _, rfl⟩

local macro_rules | `(tactic| walk_at "Exists") => `(tactic| refine Stop.intro ?_)
local macro_rules | `(tactic| walk_at "exec While") => `(tactic| refine Stop.intro ?_)
local macro_rules | `(tactic| walk_at "call ref") => `(tactic| (k_here; (with_reducible show wpAny _ _ (call (Value.ref 65) _) _ _ _); k_dflt (refine' Spec.use (end_row_spec ?h1 ?h2 ?h3 ?h4) (rest := []) ?b0 ?b1 ?b2 ?b3 ?b4 ?b5 ?b6 ?b7 ?b8 ?b9 ?b10 ?_ ?bE; (case b0 => exact rfl); (case b1 => exact rfl); (case b2 => assumption); (case b3 => assumption); (case b4 => assumption); (case b5 => assumption); (case b6 => assumption); (case b7 => exact fun _ h => nomatch h); (case h1 => assumption); (case h2 => assumption); (case h3 => assumption); (case h4 => omega); (case b8 => simp only [Around.deeper]; omega); (case b9 => simp only [Around.deeper]; omega); (case b10 => rfl); (case bE => exact fun _ _ _ _ _ _ _ z => z.elim)); intro v9 h9 tk9 led9 F9 N9 o9; obtain ⟨z9, t9, k9, y9⟩ := o9; subst z9 y9; (try simp only [List.append_nil] at N9); (try k_sweep)))

abbrev PS := List Str × Str
def endRow (s : PS) : PS := (s.1 ++ [s.2], Str.ofString "")
def breakFor (s : PS) (n : Nat) (width : Int) : PS := if 0 < width ∧ 0 < (s.2.length : Int) ∧ width < (s.2.length : Int) + (n : Int) then endRow s else s
theorem slice_lt {x : Str} {w : Int} (h : 0 < w ∧ w < (x.length : Int)) : (Txt.slice x (some w) none).length < x.length := by
  have := (fact_slice_sn x w).1 (by omega) (by omega)
  omega
def chop (width : Int) (x : Str) : List Str × Str :=
  if h : 0 < width ∧ width < (x.length : Int) then ((Txt.slice x none (some width)) :: (chop width (Txt.slice x (some width) none)).1, (chop width (Txt.slice x (some width) none)).2) else ([], x)
termination_by x.length
decreasing_by all_goals exact slice_lt h
theorem chop_stop {width : Int} {x : Str} (h : ¬ (0 < width ∧ width < (x.length : Int))) : chop width x = ([], x) := by
  rw [chop, dif_neg h]
theorem chop_go {width : Int} {x : Str} (h : 0 < width ∧ width < (x.length : Int)) : chop width x = ((Txt.slice x none (some width)) :: (chop width (Txt.slice x (some width) none)).1, (chop width (Txt.slice x (some width) none)).2) := by
  rw [chop, dif_pos h]
theorem chop_len (width : Int) (x : Str) : (chop width x).2.length ≤ x.length ∧ (chop width x).1.length ≤ x.length := by
  generalize hn : x.length = n
  induction n using Nat.strongRecOn generalizing x with
  | ind n ih =>
    by_cases h : 0 < width ∧ width < (x.length : Int)
    · rw [chop_go h]
      have h1 := slice_lt h
      have := ih _ (by omega) (Txt.slice x (some width) none) rfl
      simp only [List.length_cons]
      omega
    · rw [chop_stop h]
      simp only [List.length_nil]
      omega
def writeText (s : PS) (text : Str) (width : Int) : PS := ((breakFor s text.length width).1 ++ (chop width text).1, (breakFor s text.length width).2 ++ (chop width text).2)

theorem frCongr {h₀ h : Heap} {L : Addr} {m m' : Str → Option Value} (F : Fr h₀ L h m) (e : ∀ y, m y = m' y) : Fr h₀ L h m' := (funext e : m = m') ▸ F

def PgSt (w : World) (h₀ : Heap) (L : Addr) (m : Str → Option Value) (p d o : Addr) (t1 t2 : Tok) (st : PS) (s s' : Shared) : Prop :=
  ∃ h tk t3 k its, s' = { s with heap := h, toks := tk } ∧ Fr h₀ L h m ∧ News h₀ L h (pgLed w p d o t1 t2 t3 st.2 its k) ∧ StrsAre its.toList st.1

theorem StrsAre.push1 {its : Array Value} {rows : List Str} (h : StrsAre its.toList rows) (x : Str) (t : Tok) : StrsAre (its.push (.str x t)).toList (rows ++ [x]) := by
  rw [Array.toList_push]
  exact StrsAre.append' h (.cons _ _ .nil)
theorem StrsAre.size {its : Array Value} {rows : List Str} (h : StrsAre its.toList rows) : its.size = rows.length := by
  have := h.len_eq
  simpa using this

def PgOut (w : World) (p d o : Addr) (t1 t2 : Tok) (st : PS) (l : List (Addr × Obj)) : Prop := ∃ t3 k its, l = pgLed w p d o t1 t2 t3 st.2 its k ∧ StrsAre its.toList st.1

theorem write_text_spec {w : World} {p d o : Addr} {t1 t2 t3 tt tw : Tok} {k : Nat} {its : Array Value} {row text : Str} {rows : List Str} {width : Int} (hpd : @Ne Nat p d) (hpo : @Ne Nat p o) (hdo : @Ne Nat d o) (hS : StrsAre its.toList rows) (hits : rows.length ≤ 50000) (hrow : row.length ≤ 50000) (htext : text.length ≤ 50000) (hw0 : 0 ≤ width) (hw1 : width ≤ 100) :
    Spec w 860 72 [.ref p, .str text tt, .int width tw] (pgLed w p d o t1 t2 t3 row its k) (fun v l => v = .none ∧ PgOut w p d o t1 t2 (writeText (rows, row) text width) l) (fun _ _ => False) := by
  intro A outer A₀ base h₀ mean mg mb s R hh hA B X T S N hdp hun h hE
  obtain ⟨hd, dp, fr, gd, un⟩ := A
  dsimp only at hh hA hdp hun
  subst hh hA
  have hsz := StrsAre.size hS
  refine' enter_led (K := hd02.heap_39 w.params) (binds := [(Str.ofString "page", Value.ref p), (Str.ofString "text", .str text tt), (Str.ofString "width", .int width tw)]) X T S N ?k6 ?k7 ?k8 ?k9 ?kB ?_ ?c2 ?c3 ?c4 ?c5
  walk_at "mine_k"
  rename_i Lf h₁ F₁ N₁
  refine execs_mid (PgSt w h₀ Lf (fun y => List.lookup y [(Str.ofString "page", Value.ref p), (Str.ofString "text", .str text tt), (Str.ofString "width", .int width tw)].reverse) p d o t1 t2 (breakFor (rows, row) text.length width) s) ?_ fun s' hm => ?_
  · walk_at "mine_go"
    all_goals (first
      | (rw [show breakFor (rows, row) text.length width = endRow (rows, row) from if_pos (by dsimp only; omega)]; exact ⟨_, _, _, _, _, rfl, by assumption, by assumption, StrsAre.push1 hS _ _⟩)
      | (rw [show breakFor (rows, row) text.length width = (rows, row) from if_neg (by dsimp only; omega)]; exact ⟨_, _, _, _, _, rfl, by assumption, by assumption, hS⟩))
  clear N S F₁ N₁
  obtain ⟨h₂, tk₂, t3₂, k₂, its₂, rfl, F₂, N₂, hS₂⟩ := hm
  have hbl : (breakFor (rows, row) text.length width).1.length ≤ rows.length + 1 := by
    unfold breakFor endRow; split <;> simp
  have hbl2 : (breakFor (rows, row) text.length width).2.length ≤ row.length := by
    unfold breakFor endRow; split
    · exact Nat.zero_le _
    · exact Nat.le_refl _
  generalize hst : breakFor (rows, row) text.length width = st at N₂ hS₂ hbl hbl2
  refine execs_mid (fun s' => ∃ text' tt', text' = (chop width text).2 ∧ PgSt w h₀ Lf (fun y => if y = Str.ofString "text" then some (.str text' tt') else List.lookup y [(Str.ofString "page", Value.ref p), (Str.ofString "text", .str text tt), (Str.ofString "width", .int width tw)].reverse) p d o t1 t2 (st.1 ++ (chop width text).1, st.2) s s') ?_ fun s' hm => ?_
  · refine wpAny_While (codeAny_whileLoop (fun n s' => ∃ cs text' tt', n = text'.length ∧ chop width text = (cs ++ (chop width text').1, (chop width text').2) ∧ text'.length ≤ text.length ∧ cs.length ≤ text.length - text'.length ∧ PgSt w h₀ Lf (fun y => if y = Str.ofString "text" then some (.str text' tt') else List.lookup y [(Str.ofString "page", Value.ref p), (Str.ofString "text", .str text tt), (Str.ofString "width", .int width tw)].reverse) p d o t1 t2 (st.1 ++ cs, st.2) s s') (fun n s' hI => ?_) text.length ?_)
    · obtain ⟨cs, text', tt', rfl, hch, hle, hcs, h₃, tk₃, t3₃, k₃, its₃, rfl, F₃, N₃, hS₃⟩ := hI
      clear F₂ N₂
      dsimp only at N₃ hS₃
      have hz₃ := StrsAre.size hS₃
      rw [List.length_append] at hz₃
      have hsb := fact_slice_sn text' width
      walk_at "mine_go"
      · rename_i t9 k9 a9 h9 F9 N9
        show ∃ m, m < _ ∧ _
        have hgo := chop_go (x := text') (width := width) (by omega)
        have hs2 := hsb.1 (by omega) (by omega)
        refine ⟨(Txt.slice text' (some width) none).length, by omega, cs ++ [Txt.slice text' none (some width)], Txt.slice text' (some width) none, t9, rfl, ?_, by omega, ?_, _, _, _, _, _, rfl, frCongr F9 (fun y => ?_), N9, ?_⟩
        · rw [hch, hgo]; simp
        · rw [List.length_append, List.length_singleton]; omega
        · by_cases hy : y = Str.ofString "text"
          · simp only [if_pos hy]
          · simp only [if_neg hy]
        · rw [← List.append_assoc]; exact StrsAre.push1 hS₃ _ _
      all_goals (
        have hstop := chop_stop (x := text') (width := width) (by omega)
        rw [hstop] at hch
        refine ⟨text', tt', by rw [hch], ?_⟩
        rw [hch]
        exact ⟨_, _, _, _, _, rfl, F₃, N₃, by simpa using hS₃⟩)
    · exact ⟨[], text, tt, rfl, by simp, Nat.le_refl _, by simp, h₂, tk₂, t3₂, k₂, its₂, rfl, frCongr F₂ (fun y => by
        by_cases hy : y = Str.ofString "text"
        · subst hy; rfl
        · rw [if_neg hy]), N₂, by simpa using hS₂⟩
  obtain ⟨text', tt', rfl, h₃, tk₃, t3₃, k₃, its₃, rfl, F₃, N₃, hS₃⟩ := hm
  dsimp only at N₃ hS₃
  have hcl := chop_len width text
  walk_at "mine_go"
  subst hst
  exact h _ _ _ _ (Sub.of (by assumption)) (Led.of (by assumption)) ⟨rfl, _, _, _, rfl, hS₃⟩
end Mine
namespace Mine

local macro_rules | `(tactic| walk_at "mine_k") => `(tactic| (
  (case k6 => k_is)
  (case k7 => k_is)
  (case k8 => (simp only [recursionLimit]; omega))
  (case k9 => exact BindsTo.of_eq rfl)
  (case c5 => decide)
  (case kB => exact locs rfl)
  (case c2 => exact rfl)
  (case c3 => exact rfl)
  (case c4 => exact rfl)
  intro L' h₁ F' N'
  (try dsimp only)))
local macro_rules | `(tactic| walk_at "mine_go") => `(tactic| (repeat' (first | (k_unfold; (try dsimp only)) | walk1 | (dsimp only; walk1))))
local macro_rules | `(tactic| walk_at "Exists") => `(tactic| refine Stop.intro ?_)
local macro_rules | `(tactic| walk_at "exec While") => `(tactic| refine Stop.intro ?_)
local macro_rules | `(tactic| walk_at "exec Raise some none") => `(tactic| refine Stop.intro ?_)
-- the premises of Spec.use
local macro_rules | `(tactic| walk_at "mine_use") => `(tactic| (
  (case b0 => exact rfl); (case b1 => exact rfl); (case b2 => assumption); (case b3 => assumption); (case b4 => assumption); (case b5 => assumption); (case b6 => assumption); (case b7 => exact fun _ h => nomatch h);
  (case b8 => simp only [Around.deeper]; omega); (case b9 => simp only [Around.deeper]; omega); (case b10 => rfl)))
local macro_rules | `(tactic| walk_at "call ref") => `(tactic| (k_here; (with_reducible show wpAny _ _ (call (Value.ref 65) _) _ _ _); k_dflt (refine' Spec.use (end_row_spec ?h1 ?h2 ?h3 ?h4) (rest := []) ?b0 ?b1 ?b2 ?b3 ?b4 ?b5 ?b6 ?b7 ?b8 ?b9 ?b10 ?_ ?bE; walk_at "mine_use"; (case h1 => assumption); (case h2 => assumption); (case h3 => assumption); (case h4 => omega); (case bE => exact fun _ _ _ _ _ _ _ z => z.elim)); intro v9 h9 tk9 led9 F9 N9 o9; obtain ⟨z9, t9, k9, y9⟩ := o9; subst z9 y9; (try simp only [List.append_nil] at N9); (try k_sweep)))

def blanks (n : Int) : Str := Txt.mul (Str.ofString " ") n
theorem foldl_one : ∀ (n : Nat) (a : Array Nat), ((List.replicate n #[32]).foldl (· ++ ·) a).toList = a.toList ++ List.replicate n 32
  | 0, a => by simp
  | n + 1, a => by
    rw [List.replicate_succ, List.foldl_cons, foldl_one n, List.replicate_succ]
    simp
theorem space_cps : (Str.ofString " ").cps = #[32] := by decide +kernel
theorem blanks_eq (n : Int) : blanks n = ⟨(List.replicate n.toNat 32).toArray⟩ := by
  have hl : (Str.ofString " ").length = 1 := by decide +kernel
  unfold blanks Txt.mul
  by_cases h : n < 1
  · rw [if_pos h, show n.toNat = 0 by omega]; rfl
  · rw [if_neg h]
    by_cases h1 : n = 1
    · subst h1
      rw [if_pos (by simp)]
      decide +kernel
    · rw [if_neg (by simp [h1, hl]), space_cps]
      congr 1
      apply Array.toList_inj.mp
      rw [foldl_one]
      simp
theorem blanks_len (n : Int) : (blanks n).length = n.toNat := by rw [blanks_eq]; simp [Str.length]
theorem blanks_ok {n : Int} (h0 : -100000 ≤ n) (h1 : n ≤ 100000) : MulOk (Str.ofString " ") n := mulOk_of 16 1048576 (by decide +kernel) (by omega) (by omega) (by decide) (by decide)

def zoneCol (n : Nat) (zone : Int) : Int := (Int.fdiv (n : Int) zone + 1) * zone
theorem zoneCol_bounds (n : Nat) {zone : Int} (h : 0 < zone) : (n : Int) < zoneCol n zone ∧ zoneCol n zone ≤ (n : Int) + zone := by
  unfold zoneCol
  rw [Int.fdiv_eq_ediv_of_nonneg _ (by omega), Int.add_mul]
  have h1 := Int.emod_add_mul_ediv (n : Int) zone
  have h2 := Int.emod_nonneg (n : Int) (b := zone) (by omega)
  have h3 := Int.emod_lt_of_pos (n : Int) h
  rw [Int.mul_comm] at h1
  generalize ((n : Int) / zone) * zone = q at *
  generalize ((n : Int) % zone) = r at *
  omega
def writeZone (s : PS) (zone width : Int) : PS := if 0 < width ∧ width < zoneCol s.2.length zone + zone then endRow s else (s.1, s.2 ++ blanks (zoneCol s.2.length zone - (s.2.length : Int)))

theorem not_above {h₀ h : Heap} {L : Addr} {m : Str → Option Value} (F : Fr h₀ L h m) : h₀.get? L = none := by
  cases e : h₀.get? L with
  | none => rfl
  | some o => exact absurd (Nat.lt_of_lt_of_le (Heap.lt_size e) F.above) (Nat.lt_irrefl _)

theorem write_zone_spec {w : World} {p d o : Addr} {t1 t2 t3 tz tw : Tok} {k : Nat} {its : Array Value} {row : Str} {rows : List Str} {zone width : Int} (hpd : @Ne Nat p d) (hpo : @Ne Nat p o) (hdo : @Ne Nat d o) (hS : StrsAre its.toList rows) (hits : rows.length ≤ 50000) (hrow : row.length ≤ 50000) (hz0 : 2 ≤ zone) (hz1 : zone ≤ 9) (hw0 : 0 ≤ width) (hw1 : width ≤ 100) :
    Spec w 860 79 [.ref p, .int zone tz, .int width tw] (pgLed w p d o t1 t2 t3 row its k) (fun v l => v = .none ∧ PgOut w p d o t1 t2 (writeZone (rows, row) zone width) l) (fun _ _ => False) := by
  intro A outer A₀ base h₀ mean mg mb s R hh hA B X T S N hdp hun h hE
  obtain ⟨hd, dp, fr, gd, un⟩ := A
  dsimp only at hh hA hdp hun
  subst hh hA
  have hsz := StrsAre.size hS
  have hzb := zoneCol_bounds row.length (zone := zone) (by omega)
  unfold zoneCol at hzb
  have hmk : MulOk (Str.ofString " ") ((((row.length : Int)).fdiv zone + 1) * zone - (row.length : Int)) := blanks_ok (by omega) (by omega)
  have hbl := blanks_len ((((row.length : Int)).fdiv zone + 1) * zone - (row.length : Int))
  unfold blanks at hbl
  refine' enter_led (K := hd02.heap_39 w.params) (binds := [(Str.ofString "page", Value.ref p), (Str.ofString "zone", .int zone tz), (Str.ofString "width", .int width tw)]) X T S N ?k6 ?k7 ?k8 ?k9 ?kB ?_ ?c2 ?c3 ?c4 ?c5
  walk_at "mine_k"
  walk_at "mine_go"
  all_goals (first
    | exact h _ _ _ _ (Sub.of (by assumption)) (Led.of (by assumption)) ⟨rfl, by rw [show writeZone (rows, row) zone width = endRow (rows, row) from if_pos (by unfold zoneCol; dsimp only; omega)]; exact ⟨_, _, _, rfl, StrsAre.push1 hS _ _⟩⟩
    | exact h _ _ _ _ (Sub.of (by assumption)) (Led.of (by assumption)) ⟨rfl, by rw [show writeZone (rows, row) zone width = _ from if_neg (by unfold zoneCol; dsimp only; omega)]; exact ⟨_, _, _, rfl, hS⟩⟩
    | skip)

def withinRow (many width : Int) : Option Int := if 0 ≤ many ∧ many ≤ 255 then some (if 0 < width then Int.fmod many width else many) else none
theorem within_row_spec {w : World} {tm tw : Tok} {many width : Int} (hw0 : 0 ≤ width) (hw1 : width ≤ 100) (hm0 : -10 ≤ many) (hm1 : many ≤ 1000) :
    Spec w 860 86 [.int many tm, .int width tw] [] (fun v l => l = [] ∧ ∃ x t, withinRow many width = some x ∧ v = .int x t) (fun c l => l = [] ∧ withinRow many width = none ∧ c = Str.ofString "FC") := by
  intro A outer A₀ base h₀ mean mg mb s R hh hA B X T S N hdp hun h hE
  obtain ⟨hd, dp, fr, gd, un⟩ := A
  dsimp only at hh hA hdp hun
  subst hh hA
  refine' enter_led (K := hd02.heap_39 w.params) (binds := [(Str.ofString "many", .int many tm), (Str.ofString "width", .int width tw)]) X T S N ?k6 ?k7 ?k8 ?k9 ?kB ?_ ?c2 ?c3 ?c4 ?c5
  walk_at "mine_k"
  walk_at "mine_go"
  · exact h _ _ _ _ (Sub.of (by assumption)) (Led.of (by assumption)) ⟨rfl, _, _, by unfold withinRow; rw [if_pos (by omega), if_pos (by omega)], rfl⟩
  · exact h _ _ _ _ (Sub.of (by assumption)) (Led.of (by assumption)) ⟨rfl, _, _, by unfold withinRow; rw [if_pos (by omega), if_neg (by omega)], rfl⟩
  all_goals (
    unfold Stop
    rename Fr _ _ _ _ => Fx
    rename News _ _ _ _ => Nx
    refine' raise_spec ?a1 ?a2 ?aB ?aF ?aX ?aT ?aN ?a3 ?a4 ?a5 ?a6 ?_
    (case aB => exact B)
    (case aF => exact Fx)
    (case aX => exact X)
    (case aT => exact T)
    (case aN => exact Nx)
    (case a1 => exact rfl)
    (case a2 => exact rfl)
    (case a3 => simp only [Around.deeper]; omega)
    (case a4 => simp only [Around.deeper]; omega)
    (case a5 => exact rfl)
    (case a6 => exact rfl)
    intro e h' tk' x
    refine x.leave (by rfl) (by rfl) (not_above Fx) fun h'' x2 => hE _ _ _ _ _ x2 ⟨rfl, by unfold withinRow; rw [if_neg (by omega)], rfl⟩)
end Mine
namespace Mine

local macro_rules | `(tactic| walk_at "mine_k") => `(tactic| (
  (case k6 => k_is)
  (case k7 => k_is)
  (case k8 => (simp only [recursionLimit]; omega))
  (case k9 => exact BindsTo.of_eq rfl)
  (case c5 => decide)
  (case kB => exact locs rfl)
  (case c2 => exact rfl)
  (case c3 => exact rfl)
  (case c4 => exact rfl)
  intro L' h₁ F' N'
  (try dsimp only)))
local macro_rules | `(tactic| walk_at "mine_go") => `(tactic| (repeat' (first | (k_unfold; (try dsimp only)) | walk1 | (dsimp only; walk1))))
local macro_rules | `(tactic| walk_at "Exists") => `(tactic| refine Stop.intro ?_)
local macro_rules | `(tactic| walk_at "exec While") => `(tactic| refine Stop.intro ?_)
local macro_rules | `(tactic| walk_at "exec Raise some none") => `(tactic| refine Stop.intro ?_)
-- the premises of Spec.use
local macro_rules | `(tactic| walk_at "mine_use") => `(tactic| (
  (case b0 => exact rfl); (case b1 => exact rfl); (case b2 => assumption); (case b3 => assumption); (case b4 => assumption); (case b5 => assumption); (case b6 => assumption); (case b7 => exact fun _ h => nomatch h);
  (case b8 => simp only [Around.deeper]; omega); (case b9 => simp only [Around.deeper]; omega); (case b10 => rfl)))
local macro_rules | `(tactic| walk_at "call ref") => `(tactic| (k_here; (with_reducible show wpAny _ _ (call (Value.ref 65) _) _ _ _); k_dflt (refine' Spec.use (end_row_spec ?h1 ?h2 ?h3 ?h4) (rest := []) ?b0 ?b1 ?b2 ?b3 ?b4 ?b5 ?b6 ?b7 ?b8 ?b9 ?b10 ?_ ?bE; walk_at "mine_use"; (case h1 => assumption); (case h2 => assumption); (case h3 => assumption); (case h4 => omega); (case bE => exact fun _ _ _ _ _ _ _ z => z.elim)); intro v9 h9 tk9 led9 F9 N9 o9; obtain ⟨z9, t9, k9, y9⟩ := o9; subst z9 y9; (try simp only [List.append_nil] at N9); (try k_sweep)))

theorem withinRow_le {many width x : Int} (h : withinRow many width = some x) (hw : 0 ≤ width) : 0 ≤ x ∧ x ≤ 255 := by
  unfold withinRow at h
  split at h
  · rename_i hm
    obtain rfl := Option.some.inj h
    split
    · rename_i hw'
      have h1 := Int.fmod_nonneg_of_pos many hw'
      have h2 := Int.fmod_lt_of_pos many hw'
      have h3 : Int.fmod many width ≤ many := by
        rw [Int.fmod_eq_emod_of_nonneg _ (by omega)]
        have := Int.emod_add_mul_ediv many width
        have h4 : 0 ≤ width * (many / width) := Int.mul_nonneg (by omega) (Int.ediv_nonneg hm.1 (by omega))
        omega
      omega
    · exact hm
  · cases h

local macro_rules | `(tactic| walk_at "call ref") => `(tactic| (k_here; (with_reducible show wpAny _ _ (call (Value.ref 86) _) _ _ _); k_dflt (refine' Spec.use (within_row_spec ?h1 ?h2 ?h3 ?h4) ?b0 ?b1 ?b2 ?b3 ?b4 ?b5 ?b6 ?b7 ?b8 ?b9 ?b10 ?_ ?_; (case b6 => assumption); (case b7 => exact fun _ _ _ h => nomatch h); (case b0 => exact rfl); (case b1 => exact rfl); (case b2 => assumption); (case b3 => assumption); (case b4 => assumption); (case b5 => assumption); (case b8 => simp only [Around.deeper]; omega); (case b9 => simp only [Around.deeper]; omega); (case b10 => rfl); (case h1 => omega); (case h2 => omega); (case h3 => omega); (case h4 => omega); rotate_left; (intro e9 c9 h9 tk9 led9 x9 n9 o9; refine Stop.intro ?_); rotate_left; (intro v9 h9 tk9 led9 F9 N9 o9; obtain ⟨z9, x9, t9, hx9, y9⟩ := o9; subst z9 y9; (try simp only [List.nil_append] at N9); (have hb9 := withinRow_le hx9 (by omega)); (have hl9 := blanks_len x9); unfold blanks at hl9; (try k_sweep)))))
local macro_rules | `(tactic| walk_at "call ref") => `(tactic| (k_here; (with_reducible show wpAny _ _ (call (Value.ref 72) _) _ _ _); k_dflt (refine' Spec.use (write_text_spec ?h1 ?h2 ?h3 ?h4 ?h5 ?h6 ?h7 ?h8 ?h9) (rest := []) ?b0 ?b1 ?b2 ?b3 ?b4 ?b5 ?b6 ?b7 ?b8 ?b9 ?b10 ?_ ?bE; walk_at "mine_use"; (case h1 => assumption); (case h2 => assumption); (case h3 => assumption); (case h4 => assumption); (case h5 => omega); (case h6 => omega); (case h7 => omega); (case h8 => omega); (case h9 => omega); (case bE => exact fun _ _ _ _ _ _ _ z => z.elim); (intro v9 h9 tk9 led9 F9 N9 o9; obtain ⟨z9, t9, k9, its9, y9, S9⟩ := o9; subst z9 y9; (try simp only [List.append_nil] at N9); (try k_sweep)))))

theorem write_blanks_spec {w : World} {p d o : Addr} {t1 t2 t3 tm tw : Tok} {k : Nat} {its : Array Value} {row : Str} {rows : List Str} {many width : Int} (hpd : @Ne Nat p d) (hpo : @Ne Nat p o) (hdo : @Ne Nat d o) (hS : StrsAre its.toList rows) (hits : rows.length ≤ 40000) (hrow : row.length ≤ 40000) (hm0 : -10 ≤ many) (hm1 : many ≤ 1000) (hw0 : 0 ≤ width) (hw1 : width ≤ 100) :
    Spec w 850 93 [.ref p, .int many tm, .int width tw] (pgLed w p d o t1 t2 t3 row its k) (fun v l => v = .none ∧ ∃ x, withinRow many width = some x ∧ PgOut w p d o t1 t2 (writeText (rows, row) (blanks x) width) l)
      (fun c l => c = Str.ofString "FC" ∧ withinRow many width = none ∧ l = pgLed w p d o t1 t2 t3 row its k) := by
  intro A outer A₀ base h₀ mean mg mb s R hh hA B X T S N hdp hun h hE
  obtain ⟨hd, dp, fr, gd, un⟩ := A
  dsimp only at hh hA hdp hun
  subst hh hA
  have hsz := StrsAre.size hS
  refine' enter_led (K := hd02.heap_39 w.params) (binds := [(Str.ofString "page", Value.ref p), (Str.ofString "many", .int many tm), (Str.ofString "width", .int width tw)]) X T S N ?k6 ?k7 ?k8 ?k9 ?kB ?_ ?c2 ?c3 ?c4 ?c5
  walk_at "mine_k"
  walk_at "mine_go"
  · exact h _ _ _ _ (Sub.of (by assumption)) (Led.of (by assumption)) ⟨rfl, _, by assumption, _, _, _, rfl, by assumption⟩
  · rename_i e9 c9 h9 tk9 led9 x9 n9 o9
    obtain ⟨rfl, o9, rfl⟩ := o9
    exact x9.leave (by rfl) (by rfl) (not_above (by assumption)) fun h'' x2 => hE _ _ _ _ _ x2 ⟨rfl, o9, rfl⟩

def writeTab (s : PS) (column width : Int) : Option PS := if column < 1 then none else (withinRow (column - 1) width).map fun g => if g < (s.2.length : Int) then ((endRow s).1, (endRow s).2 ++ blanks (g - 0)) else (s.1, s.2 ++ blanks (g - (s.2.length : Int)))

theorem writeTab_lt {rows : List Str} {row : Str} {column width x : Int} (hc : ¬ column < 1) (hx : withinRow (column - 1) width = some x) (h : x < (row.length : Int)) : writeTab (rows, row) column width = some ((endRow (rows, row)).1, (endRow (rows, row)).2 ++ blanks (x - 0)) := by
  unfold writeTab
  rw [if_neg hc, hx, Option.map_some, if_pos h]
theorem writeTab_ge {rows : List Str} {row : Str} {column width x : Int} (hc : ¬ column < 1) (hx : withinRow (column - 1) width = some x) (h : ¬ x < (row.length : Int)) : writeTab (rows, row) column width = some (rows, row ++ blanks (x - (row.length : Int))) := by
  unfold writeTab
  rw [if_neg hc, hx, Option.map_some, if_neg h]

theorem write_tab_spec {w : World} {p d o : Addr} {t1 t2 t3 tm tw : Tok} {k : Nat} {its : Array Value} {row : Str} {rows : List Str} {column width : Int} (hpd : @Ne Nat p d) (hpo : @Ne Nat p o) (hdo : @Ne Nat d o) (hS : StrsAre its.toList rows) (hits : rows.length ≤ 40000) (hrow : row.length ≤ 40000) (hm0 : -5 ≤ column) (hm1 : column ≤ 1000) (hw0 : 0 ≤ width) (hw1 : width ≤ 100) :
    Spec w 850 100 [.ref p, .int column tm, .int width tw] (pgLed w p d o t1 t2 t3 row its k) (fun v l => v = .none ∧ ∃ st, writeTab (rows, row) column width = some st ∧ PgOut w p d o t1 t2 st l)
      (fun c l => c = Str.ofString "FC" ∧ writeTab (rows, row) column width = none ∧ l = pgLed w p d o t1 t2 t3 row its k) := by
  intro A outer A₀ base h₀ mean mg mb s R hh hA B X T S N hdp hun h hE
  obtain ⟨hd, dp, fr, gd, un⟩ := A
  dsimp only at hh hA hdp hun
  subst hh hA
  have hsz := StrsAre.size hS
  have hz : (Str.ofString "").length = 0 := by decide +kernel
  refine' enter_led (K := hd02.heap_39 w.params) (binds := [(Str.ofString "page", Value.ref p), (Str.ofString "column", .int column tm), (Str.ofString "width", .int width tw)]) X T S N ?k6 ?k7 ?k8 ?k9 ?kB ?_ ?c2 ?c3 ?c4 ?c5
  walk_at "mine_k"
  walk_at "mine_go"
  · unfold Stop
    rename Fr _ _ _ _ => Fx
    rename News _ _ _ _ => Nx
    refine' raise_spec ?a1 ?a2 ?aB ?aF ?aX ?aT ?aN ?a3 ?a4 ?a5 ?a6 ?_
    (case aB => exact B)
    (case aF => exact Fx)
    (case aX => exact X)
    (case aT => exact T)
    (case aN => exact Nx)
    (case a1 => exact rfl)
    (case a2 => exact rfl)
    (case a3 => simp only [Around.deeper]; omega)
    (case a4 => simp only [Around.deeper]; omega)
    (case a5 => exact rfl)
    (case a6 => exact rfl)
    intro e h' tk' x
    exact x.leave (by rfl) (by rfl) (not_above Fx) fun h'' x2 => hE _ _ _ _ _ x2 ⟨rfl, by unfold writeTab; rw [if_pos (by omega)], rfl⟩
  · rename withinRow _ _ = some _ => hx
    have hw := writeTab_lt (rows := rows) (row := row) (by omega) hx (by omega)
    exact h _ _ _ _ (Sub.of (by assumption)) (Led.of (by assumption)) ⟨rfl, _, hw, _, _, _, rfl, StrsAre.push1 hS _ _⟩
  · rename withinRow _ _ = some _ => hx
    have hw := writeTab_ge (rows := rows) (row := row) (by omega) hx (by omega)
    exact h _ _ _ _ (Sub.of (by assumption)) (Led.of (by assumption)) ⟨rfl, _, hw, _, _, _, rfl, hS⟩
  · rename_i e9 c9 h9 tk9 led9 x9 n9 o9
    obtain ⟨rfl, o9, rfl⟩ := o9
    exact x9.leave (by rfl) (by rfl) (not_above (by assumption)) fun h'' x2 => hE _ _ _ _ _ x2 ⟨rfl, by unfold writeTab; rw [if_neg (by omega), o9]; rfl, rfl⟩
end Mine
namespace Mine

def SpecP (w : World) (D : Nat) (f : Addr) (args : List Value) (led : List (Addr × Obj)) (Pre : Heap → Prop) (Ok : Value → List (Addr × Obj) → Prop) (Er : Str → List (Addr × Obj) → Prop) : Prop :=
  ∀ (A : Around) (outer : List Env) (A₀ : Around) (base h₀ : Heap) (mean : ExcName → Option Value) (mg mb : Str → Option Value) (s : Shared) (R : Result → Shared → Prop),
    A.handled = none → A.frames = some outer → Below A₀ base outer h₀ → (hd02.heap_39 w.params).In h₀ → TopW' mean mg mb h₀ → Sub h₀ s.heap → Led h₀ s.heap led → Pre h₀ → A.depth ≤ D → A.units ≤ 9 * D →
    (∀ v h' tk' led', Sub h₀ h' → Led h₀ h' led' → Ok v led' → R (.ok (.ret v)) { s with heap := h', toks := tk' }) →
    (∀ e c h' tk' led', Flight h₀ outer led' e c .none h' → Er c led' → R (.error (.ref e)) { s with heap := h', toks := tk' }) →
    codeAny (model PROG w) A (.call (.ref f) ⟨args, []⟩) R s

theorem SpecP.use {w : World} {D : Nat} {f : Addr} {args : List Value} {led rest : List (Addr × Obj)} {Pre : Heap → Prop} {Ok : Value → List (Addr × Obj) → Prop} {Er : Str → List (Addr × Obj) → Prop} (C : SpecP w D f args led Pre Ok Er)
    {A : Around} {outer : List Env} {A₀ : Around} {base h₀ : Heap} {mean : ExcName → Option Value} {mg mb : Str → Option Value} {s : Shared} {L a : Addr} {m : Str → Option Value} {cn : Str} {cs : Scope} {ccd : Value} {Q E : Value → Shared → Prop}
    (hh : A.handled = none) (hA : A.frames = some (envOf cn cs L a ccd :: outer)) (B : Below A₀ base outer h₀) (F : Fr h₀ L s.heap m) (X : (hd02.heap_39 w.params).In h₀) (T : TopW' mean mg mb h₀) (N : News h₀ L s.heap (led ++ rest)) (hap : ∀ q ∈ rest, ∀ q' ∈ led, q.1 ≠ q'.1)
    (hP : (∀ b o, h₀.get? b = some o → (hideAll s.heap (led.map (·.1))).get? b = some o) → (∀ q ∈ rest, (hideAll s.heap (led.map (·.1))).get? q.1 = some q.2) → Pre (hideAll s.heap (led.map (·.1)))) (hdp : A.depth ≤ D) (hun : A.units ≤ 9 * D) (hck : cs.kind = .function)
    (k : ∀ v h' tk' led', Fr h₀ L h' m → News h₀ L h' (led' ++ rest) → Ok v led' → Q v { s with heap := h', toks := tk' })
    (kE : ∀ e c h' tk' led', Flight h₀ (envOf cn cs L a ccd :: outer) (led' ++ rest) e c .none h' → h'.Ns L m → Er c led' → E (.ref e) { s with heap := h', toks := tk' }) :
    wpAny (model PROG w) A (call (.ref f) args) Q E s := by
  obtain ⟨B', S', L', st⟩ := base_of (cn := cn) (a := a) (ccd := ccd) B F N hck
  replace hP := hP st fun q hq => hideAll_get _ (N q (List.mem_append_right _ hq)).1 fun z => by
    obtain ⟨p, hp, e⟩ := List.mem_map.mp z
    exact hap q hq p hp e.symm
  refine wpAny_call (C A (envOf cn cs L a ccd :: outer) _ base _ mean mg mb s _ hh hA B' (fun a o e => st _ _ (X a o e)) (T.keeps st) S' L' hP hdp hun (fun v h' tk' led' S D o => ?_) fun e c h' tk' led' x o => ?_)
  · obtain ⟨F', N'⟩ := back_of F N hap S D
    exact k v h' tk' led' F' N' o
  · obtain ⟨G, dx, od, t, k1, k2, k3, k4, k5, k6, k7⟩ := x
    have hns : ∀ q ∈ led ++ rest, q.1 ∉ (envOf cn cs L a ccd :: outer).filterMap (·.frame) := fun q hq hm => by
      rw [List.filterMap_cons] at hm
      rcases List.mem_cons.mp hm with z | z
      · exact (N q hq).2.1 z
      · obtain ⟨o, ho⟩ := frames_in B.frames z
        rw [(N q hq).2.2] at ho; cases ho
    have nm : ∀ b o, h₀.get? b = some o → (hideAll s.heap (led.map (·.1))).get? b = some o := st
    refine kE e c h' tk' led' ⟨G, dx, od, t, fun b o hb hn => k1 b o (nm b o hb) hn, fun q hq => ?_, k3, k4, k5, ?_, (Heap.UpToSlots.of_keeps st).trans k7⟩ ?_ o
    · rcases List.mem_append.mp hq with hq | hq
      · refine ⟨(k2 q hq).1, ?_⟩
        cases z : h₀.get? q.1 with
        | none => rfl
        | some o => have := (k2 q hq).2; rw [st _ _ z] at this; cases this
      · have P := N q (List.mem_append_right _ hq)
        refine ⟨k1 _ _ (hideAll_get _ P.1 fun z => ?_) (hns q (List.mem_append_right _ hq)), P.2.2⟩
        obtain ⟨p, hp, e⟩ := List.mem_map.mp z
        exact hap q hq p hp e.symm
    · cases z : h₀.get? e with
      | none => rfl
      | some o => rw [st _ _ z] at k6; cases k6
    · have nL : L ∉ led.map (·.1) := fun q => by
        obtain ⟨p, hp, e⟩ := List.mem_map.mp q
        exact (N p (List.mem_append_left _ hp)).2.1 e
      obtain ⟨oL, es, ep, hL, r⟩ := F.ns
      exact k7.ns ⟨oL, es, ep, hideAll_get _ hL nL, r⟩

inductive Part where
  | text (x : Str) | zone | glue | tab (n : Int) | spc (n : Int)
def PartAt (h : Heap) (a : Addr) : Part → Prop
  | .text x => ∃ t1 t2, IsTup h a #[.str (Str.ofString "text") t1, .str x t2]
  | .zone => ∃ t1, IsTup h a #[.str (Str.ofString "zone") t1]
  | .glue => ∃ t1, IsTup h a #[.str (Str.ofString "glue") t1]
  | .tab n => ∃ t1 t2, IsTup h a #[.str (Str.ofString "tab") t1, .int n t2]
  | .spc n => ∃ t1 t2, IsTup h a #[.str (Str.ofString "spc") t1, .int n t2]
theorem PartAt.keeps {h h' : Heap} {a : Addr} {q : Part} (k : ∀ b o, h.get? b = some o → h'.get? b = some o) (x : PartAt h a q) : PartAt h' a q := by
  cases q <;> (first | (obtain ⟨t1, t2, x⟩ := x; exact ⟨t1, t2, x.keeps k⟩) | (obtain ⟨t1, x⟩ := x; exact ⟨t1, x.keeps k⟩))
def Part.ok : Part → Prop
  | .text x => x.length ≤ 400
  | .tab n => -2 ≤ n ∧ n ≤ 500
  | .spc n => -2 ≤ n ∧ n ≤ 500
  | _ => True
def Part.isText : Part → Bool
  | .text _ => true
  | _ => false
def writePart (s : PS) (q : Part) (zone width : Int) : Option PS :=
  match q with
  | .text x => some (writeText s x width)
  | .zone => some (writeZone s zone width)
  | .glue => some s
  | .tab n => writeTab s n width
  | .spc n => (withinRow n width).map fun x => writeText s (blanks x) width

local macro_rules | `(tactic| walk_at "mine_k") => `(tactic| (
  (case k6 => k_is)
  (case k7 => k_is)
  (case k8 => (simp only [recursionLimit]; omega))
  (case k9 => exact BindsTo.of_eq rfl)
  (case c5 => decide)
  (case kB => exact locs rfl)
  (case c2 => exact rfl)
  (case c3 => exact rfl)
  (case c4 => exact rfl)
  intro L' h₁ F' N'
  (try dsimp only)))
local macro_rules | `(tactic| walk_at "mine_go") => `(tactic| (repeat' (first | (k_unfold; (try dsimp only)) | walk1 | (dsimp only; walk1))))
local macro_rules | `(tactic| walk_at "Exists") => `(tactic| refine Stop.intro ?_)
local macro_rules | `(tactic| walk_at "exec While") => `(tactic| refine Stop.intro ?_)
local macro_rules | `(tactic| walk_at "exec Raise some none") => `(tactic| refine Stop.intro ?_)
-- the premises of Spec.use
local macro_rules | `(tactic| walk_at "mine_use") => `(tactic| (
  (case b0 => exact rfl); (case b1 => exact rfl); (case b2 => assumption); (case b3 => assumption); (case b4 => assumption); (case b5 => assumption); (case b6 => assumption); (case b7 => exact fun _ h => nomatch h);
  (case b8 => simp only [Around.deeper]; omega); (case b9 => simp only [Around.deeper]; omega); (case b10 => rfl)))
local macro_rules | `(tactic| walk_at "call ref") => `(tactic| (k_here; (with_reducible show wpAny _ _ (call (Value.ref 65) _) _ _ _); k_dflt (refine' Spec.use (end_row_spec ?h1 ?h2 ?h3 ?h4) (rest := []) ?b0 ?b1 ?b2 ?b3 ?b4 ?b5 ?b6 ?b7 ?b8 ?b9 ?b10 ?_ ?bE; walk_at "mine_use"; (case h1 => assumption); (case h2 => assumption); (case h3 => assumption); (case h4 => omega); (case bE => exact fun _ _ _ _ _ _ _ z => z.elim)); intro v9 h9 tk9 led9 F9 N9 o9; obtain ⟨z9, t9, k9, y9⟩ := o9; subst z9 y9; (try simp only [List.append_nil] at N9); (try k_sweep)))

local macro_rules | `(tactic| walk_at "call ref") => `(tactic| (k_here; (with_reducible show wpAny _ _ (call (Value.ref 72) _) _ _ _); k_dflt (refine' Spec.use (write_text_spec ?h1 ?h2 ?h3 ?h4 ?h5 ?h6 ?h7 ?h8 ?h9) (rest := []) ?b0 ?b1 ?b2 ?b3 ?b4 ?b5 ?b6 ?b7 ?b8 ?b9 ?b10 ?_ ?bE; walk_at "mine_use"; (case h1 => assumption); (case h2 => assumption); (case h3 => assumption); (case h4 => assumption); (case h5 => omega); (case h6 => omega); (case h7 => omega); (case h8 => omega); (case h9 => omega); (case bE => exact fun _ _ _ _ _ _ _ z => z.elim); (intro v9 h9 tk9 led9 F9 N9 o9; obtain ⟨z9, t9, k9, its9, y9, S9⟩ := o9; subst z9 y9; (try simp only [List.append_nil] at N9); (try k_sweep)))))
local macro_rules | `(tactic| walk_at "call ref") => `(tactic| (k_here; (with_reducible show wpAny _ _ (call (Value.ref 79) _) _ _ _); k_dflt (refine' Spec.use (write_zone_spec ?h1 ?h2 ?h3 ?h4 ?h5 ?h6 ?h7 ?h8 ?h9 ?h10) (rest := []) ?b0 ?b1 ?b2 ?b3 ?b4 ?b5 ?b6 ?b7 ?b8 ?b9 ?b10 ?_ ?bE; walk_at "mine_use"; (case h1 => assumption); (case h2 => assumption); (case h3 => assumption); (case h4 => assumption); (case h5 => omega); (case h6 => omega); (case h7 => omega); (case h8 => omega); (case h9 => omega); (case h10 => omega); (case bE => exact fun _ _ _ _ _ _ _ z => z.elim); (intro v9 h9 tk9 led9 F9 N9 o9; obtain ⟨z9, t9, k9, its9, y9, S9⟩ := o9; subst z9 y9; (try simp only [List.append_nil] at N9); (try k_sweep)))))
local macro_rules | `(tactic| walk_at "call ref") => `(tactic| (k_here; (with_reducible show wpAny _ _ (call (Value.ref 93) _) _ _ _); k_dflt (refine' Spec.use (write_blanks_spec ?h1 ?h2 ?h3 ?h4 ?h5 ?h6 ?h7 ?h8 ?h9 ?h10) (rest := []) ?b0 ?b1 ?b2 ?b3 ?b4 ?b5 ?b6 ?b7 ?b8 ?b9 ?b10 ?_ ?_; walk_at "mine_use"; (case h1 => assumption); (case h2 => assumption); (case h3 => assumption); (case h4 => assumption); (case h5 => omega); (case h6 => omega); (case h7 => omega); (case h8 => omega); (case h9 => omega); (case h10 => omega); rotate_left; (intro e9 c9 h9 tk9 led9 x9 n9 o9; refine Stop.intro ?_); rotate_left; (intro v9 h9 tk9 led9 F9 N9 o9; obtain ⟨z9, st9, hst9, t9, k9, its9, y9, S9⟩ := o9; subst z9 y9; (try simp only [List.append_nil] at N9); (try k_sweep)))))
local macro_rules | `(tactic| walk_at "call ref") => `(tactic| (k_here; (with_reducible show wpAny _ _ (call (Value.ref 100) _) _ _ _); k_dflt (refine' Spec.use (write_tab_spec ?h1 ?h2 ?h3 ?h4 ?h5 ?h6 ?h7 ?h8 ?h9 ?h10) (rest := []) ?b0 ?b1 ?b2 ?b3 ?b4 ?b5 ?b6 ?b7 ?b8 ?b9 ?b10 ?_ ?_; walk_at "mine_use"; (case h1 => assumption); (case h2 => assumption); (case h3 => assumption); (case h4 => assumption); (case h5 => omega); (case h6 => omega); (case h7 => omega); (case h8 => omega); (case h9 => omega); (case h10 => omega); rotate_left; (intro e9 c9 h9 tk9 led9 x9 n9 o9; refine Stop.intro ?_); rotate_left; (intro v9 h9 tk9 led9 F9 N9 o9; obtain ⟨z9, st9, hst9, t9, k9, its9, y9, S9⟩ := o9; subst z9 y9; (try simp only [List.append_nil] at N9); (try k_sweep)))))

theorem write_part_spec {w : World} {p d o a : Addr} {t1 t2 t3 tz tw : Tok} {k : Nat} {its : Array Value} {row : Str} {rows : List Str} {q : Part} {zone width : Int} (hpd : @Ne Nat p d) (hpo : @Ne Nat p o) (hdo : @Ne Nat d o) (hS : StrsAre its.toList rows) (hits : rows.length ≤ 40000) (hrow : row.length ≤ 40000) (hq : q.ok) (hz0 : 2 ≤ zone) (hz1 : zone ≤ 9) (hw0 : 0 ≤ width) (hw1 : width ≤ 100) :
    SpecP w 840 107 [.ref p, .ref a, .int zone tz, .int width tw] (pgLed w p d o t1 t2 t3 row its k) (fun h => PartAt h a q) (fun v l => v = .bool q.isText ∧ ∃ st, writePart (rows, row) q zone width = some st ∧ PgOut w p d o t1 t2 st l)
      (fun c l => c = Str.ofString "FC" ∧ writePart (rows, row) q zone width = none ∧ l = pgLed w p d o t1 t2 t3 row its k) := by
  intro A outer A₀ base h₀ mean mg mb s R hh hA B X T S N hP hdp hun h hE
  obtain ⟨hd, dp, fr, gd, un⟩ := A
  dsimp only at hh hA hdp hun
  subst hh hA
  have hsz := StrsAre.size hS
  cases q with
  | text x =>
    obtain ⟨u1, u2, hP⟩ := hP
    unfold Part.ok at hq
    dsimp only at hq
    refine' enter_led (K := hd02.heap_39 w.params) (binds := [(Str.ofString "page", Value.ref p), (Str.ofString "part", Value.ref a), (Str.ofString "zone", .int zone tz), (Str.ofString "width", .int width tw)]) X T S N ?k6 ?k7 ?k8 ?k9 ?kB ?_ ?c2 ?c3 ?c4 ?c5
    walk_at "mine_k"
    walk_at "mine_go"
    exact h _ _ _ _ (Sub.of (by assumption)) (Led.of (by assumption)) ⟨rfl, _, rfl, _, _, _, rfl, by assumption⟩
  | zone =>
    obtain ⟨u1, hP⟩ := hP
    refine' enter_led (K := hd02.heap_39 w.params) (binds := [(Str.ofString "page", Value.ref p), (Str.ofString "part", Value.ref a), (Str.ofString "zone", .int zone tz), (Str.ofString "width", .int width tw)]) X T S N ?k6 ?k7 ?k8 ?k9 ?kB ?_ ?c2 ?c3 ?c4 ?c5
    walk_at "mine_k"
    walk_at "mine_go"
    exact h _ _ _ _ (Sub.of (by assumption)) (Led.of (by assumption)) ⟨rfl, _, rfl, _, _, _, rfl, by assumption⟩
  | glue =>
    obtain ⟨u1, hP⟩ := hP
    refine' enter_led (K := hd02.heap_39 w.params) (binds := [(Str.ofString "page", Value.ref p), (Str.ofString "part", Value.ref a), (Str.ofString "zone", .int zone tz), (Str.ofString "width", .int width tw)]) X T S N ?k6 ?k7 ?k8 ?k9 ?kB ?_ ?c2 ?c3 ?c4 ?c5
    walk_at "mine_k"
    walk_at "mine_go"
    exact h _ _ _ _ (Sub.of (by assumption)) (Led.of (by assumption)) ⟨rfl, _, rfl, _, _, _, rfl, hS⟩
  | tab n =>
    obtain ⟨u1, u2, hP⟩ := hP
    unfold Part.ok at hq
    dsimp only at hq
    refine' enter_led (K := hd02.heap_39 w.params) (binds := [(Str.ofString "page", Value.ref p), (Str.ofString "part", Value.ref a), (Str.ofString "zone", .int zone tz), (Str.ofString "width", .int width tw)]) X T S N ?k6 ?k7 ?k8 ?k9 ?kB ?_ ?c2 ?c3 ?c4 ?c5
    walk_at "mine_k"
    walk_at "mine_go"
    · rename writeTab _ _ _ = some _ => hst
      exact h _ _ _ _ (Sub.of (by assumption)) (Led.of (by assumption)) ⟨rfl, _, hst, _, _, _, rfl, by assumption⟩
    · rename_i e9 c9 h9 tk9 led9 x9 n9 o9
      obtain ⟨rfl, o9, rfl⟩ := o9
      exact x9.leave (by rfl) (by rfl) (not_above (by assumption)) fun h'' x2 => hE _ _ _ _ _ x2 ⟨rfl, o9, rfl⟩
  | spc n =>
    obtain ⟨u1, u2, hP⟩ := hP
    unfold Part.ok at hq
    dsimp only at hq
    refine' enter_led (K := hd02.heap_39 w.params) (binds := [(Str.ofString "page", Value.ref p), (Str.ofString "part", Value.ref a), (Str.ofString "zone", .int zone tz), (Str.ofString "width", .int width tw)]) X T S N ?k6 ?k7 ?k8 ?k9 ?kB ?_ ?c2 ?c3 ?c4 ?c5
    walk_at "mine_k"
    walk_at "mine_go"
    · rename withinRow _ _ = some _ => hst
      exact h _ _ _ _ (Sub.of (by assumption)) (Led.of (by assumption)) ⟨rfl, _, by unfold writePart; dsimp only; rw [hst]; rfl, _, _, _, rfl, by assumption⟩
    · rename_i e9 c9 h9 tk9 led9 x9 n9 o9
      obtain ⟨rfl, o9, rfl⟩ := o9
      exact x9.leave (by rfl) (by rfl) (not_above (by assumption)) fun h'' x2 => hE _ _ _ _ _ x2 ⟨rfl, by unfold writePart; dsimp only; rw [o9]; rfl, rfl⟩
end Mine
namespace Mine

section
variable {prog : Program} {w : World} {A : Around} {E : Value → Shared → Prop} {s : Shared}
theorem loop_list {R : Result → Shared → Prop} {target : Expr} {body : List Stmt} {env : Env} {l : Addr} {vs : List Value} {h₀ : Heap} {m : Str → Option Value} {news : List (Addr × Obj)}
    (P : List Value → (Str → Option Value) → List (Addr × Obj) → Prop) (hh : A.handled = none) (F : Fr h₀ env.locals s.heap m) (N : News h₀ env.locals s.heap news) (h0 : P vs m news)
    (hL : ∀ rest m' news' h, P rest m' news' → Fr h₀ env.locals h m' → News h₀ env.locals h news' → h.IsList l vs.toArray)
    (step : ∀ it oi v rest m' news' h tk, (∀ q ∈ news', q.1 ≠ it) → P (v :: rest) m' news' → Fr h₀ env.locals h m' → News h₀ env.locals h (news' ++ [(it, oi)]) →
      wpAny (model prog w) A (assign target env v) (fun _ s₂ => wpAny (model prog w) A (execs body env) (fun f s₃ => match f with
          | .next | .cont => ∃ m₃ news₃ h₃ tk₃, s₃ = { s with heap := h₃, toks := tk₃ } ∧ Fr h₀ env.locals h₃ m₃ ∧ News h₀ env.locals h₃ (news₃ ++ [(it, oi)]) ∧ P rest m₃ news₃ ∧ ∀ q ∈ news₃, q.1 ≠ it
          | .brk => R (.ok .next) s₃
          | .ret v => R (.ok (.ret v)) s₃) (notedBy (model prog w) A env fun e s' => R (.error e) s') s₂) (notedBy (model prog w) A env fun e s' => R (.error e) s') { s with heap := h, toks := tk })
    (fin : ∀ m' news' h tk, P [] m' news' → Fr h₀ env.locals h m' → News h₀ env.locals h news' → R (.ok .next) { s with heap := h, toks := tk })
    (ht : ∀ it v, letOwnedTupleGo target (.ref it) v = pure () := by intro _ _; rfl) :
    wpAny (model prog w) A (pyIter (.ref l)) (fun it s₂ => codeAny (model prog w) A (.forLoop target it body [] env) R s₂) E s := by
  have hl := hL _ _ _ _ h0 F N
  refine wpAny_pyIter_list hl ?_
  have hfr := next_is_new F
  have hLt := F.ns.lt
  have hlt : l ≠ s.heap.objs.size := by
    obtain ⟨o, ho, _⟩ := hl
    exact Nat.ne_of_lt (Heap.lt_size ho)
  have F1 := F.push { cls := .type "list_iterator", data := .fields #[.ref l, .int 0 0] }
  have NP := News.push F N { cls := .type "list_iterator", data := .fields #[.ref l, .int 0 0] }
  have N1 : News h₀ env.locals (s.heap.push { cls := .type "list_iterator", data := .fields #[.ref l, .int 0 0] }) (news ++ [(s.heap.objs.size, { cls := .type "list_iterator", data := .fields #[.ref l, .int 0 0] })]) := fun q hq => by
    rcases List.mem_append.mp hq with hq | hq
    · exact NP q (List.mem_cons_of_mem _ hq)
    · obtain rfl := List.mem_singleton.mp hq
      exact NP _ List.mem_cons_self
  have hI1 : (s.heap.push { cls := .type "list_iterator", data := .fields #[.ref l, .int 0 0] }).IsListIter s.heap.objs.size l 0 := ⟨_, Heap.get?_push_size _ rfl, rfl, rfl⟩
  have hne1 : ∀ q ∈ news, q.1 ≠ s.heap.objs.size := fun q hq => Nat.ne_of_lt (Heap.lt_size (N q hq).1)
  have hLne : s.heap.objs.size ≠ env.locals := Nat.ne_of_gt hLt
  clear NP
  generalize hit : s.heap.objs.size = it at *
  refine codeAny_forLoop (fun n s' => ∃ dn rest m' news' h tk oi, s' = { s with heap := h, toks := tk } ∧ vs = dn ++ rest ∧ n = rest.length ∧ (∀ q ∈ news', q.1 ≠ it) ∧ P rest m' news' ∧ Fr h₀ env.locals h m' ∧ News h₀ env.locals h (news' ++ [(it, oi)]) ∧ h.IsListIter it l dn.length) (fun n s' hI => ?_) vs.length ⟨[], vs, m, news, _, s.toks, _, rfl, rfl, rfl, hne1, h0, F1, N1, hI1⟩ (ht it)
  obtain ⟨dn, rest, m', news', h, tk, oi, rfl, hvs, rfl, hne, hP, F', N', hI⟩ := hI
  have N'' : News h₀ env.locals h news' := fun q hq => N' q (List.mem_append_left _ hq)
  have hl' := hL _ _ _ _ hP F' N''
  cases rest with
  | nil =>
    refine wpAny_pyNext_list_end hh hI hl' (by rw [hvs]; simp) fun h' e => ?_
    refine wpAny_execs_nil (fin m' news' h' tk hP (fr_of_but F' hfr hLne fun b o hb => e b o hb) fun q hq => ⟨e _ _ (hne q hq) (N'' q hq).1, (N'' q hq).2⟩)
  | cons v rest =>
    refine wpAny_pyNext_list_item hI hl' (x := v) (by rw [hvs]; simp) fun h' i' e => ?_
    have F2 := fr_of_but F' hfr hLne fun b o hb => e.extBut b o hb
    obtain ⟨oi', ho', hc', hd'⟩ := i'
    have N2 : News h₀ env.locals h' (news' ++ [(it, oi')]) := fun q hq => by
      rcases List.mem_append.mp hq with hq | hq
      · exact ⟨e.extBut _ _ (hne q hq) (N'' q hq).1, (N'' q hq).2⟩
      · obtain rfl := List.mem_singleton.mp hq
        exact ⟨ho', hLne, hfr⟩
    refine wpAny_mono (step it oi' v rest m' news' h' tk hne hP F2 N2) (fun _ s₂ hs₂ => wpAny_mono hs₂ (fun f s₃ hf => ?_) fun _ _ x => x) fun _ _ x => x
    have fin' : (∃ m₃ news₃ h₃ tk₃, s₃ = { s with heap := h₃, toks := tk₃ } ∧ Fr h₀ env.locals h₃ m₃ ∧ News h₀ env.locals h₃ (news₃ ++ [(it, oi')]) ∧ P rest m₃ news₃ ∧ ∀ q ∈ news₃, q.1 ≠ it) → ∃ m, m < (v :: rest).length ∧ ∃ dn rest m' news' h tk oi, s₃ = { s with heap := h, toks := tk } ∧ vs = dn ++ rest ∧ m = rest.length ∧ (∀ q ∈ news', q.1 ≠ it) ∧ P rest m' news' ∧ Fr h₀ env.locals h m' ∧ News h₀ env.locals h (news' ++ [(it, oi)]) ∧ h.IsListIter it l dn.length := by
      rintro ⟨m₃, news₃, h₃, tk₃, rfl, F₃, N₃, hP₃, hne₃⟩
      refine ⟨rest.length, by simp, dn ++ [v], rest, m₃, news₃, h₃, tk₃, oi', rfl, by rw [hvs]; simp, rfl, hne₃, hP₃, F₃, N₃, ⟨oi', (N₃ (it, oi') (by simp)).1, hc', ?_⟩⟩
      rw [List.length_append, List.length_singleton]; exact hd'
    cases f with
    | next => exact fin' hf
    | cont => exact fin' hf
    | brk => exact hf
    | ret v => exact hf
end

theorem Flight.drop {h₀ h : Heap} {o : List Env} {led rest : List (Addr × Obj)} {e : Addr} {c : Str} {fl : Value} (x : Flight h₀ o (led ++ rest) e c fl h) : Flight h₀ o led e c fl h := by
  obtain ⟨B, dx, od, t, k1, k2, k⟩ := x
  exact ⟨B, dx, od, t, k1, fun q hq => k2 q (List.mem_append_left _ hq), k⟩

theorem writeText_len (s : PS) (x : Str) (w : Int) : (writeText s x w).1.length ≤ s.1.length + 1 + x.length ∧ (writeText s x w).2.length ≤ s.2.length + x.length := by
  have := chop_len w x
  have e0 : (Str.ofString "").length = 0 := by decide +kernel
  have a (y z : Str) : (y ++ z).length = y.length + z.length := by
    show (y.cps ++ z.cps).size = _
    rw [Array.size_append]; rfl
  unfold writeText breakFor endRow
  split <;> simp only [List.length_append, List.length_singleton, a, e0] <;> omega
theorem writePart_len {s s' : PS} {q : Part} {zone width : Int} (h : writePart s q zone width = some s') (hq : q.ok) (hz0 : 2 ≤ zone) (hz1 : zone ≤ 9) (hw0 : 0 ≤ width) : s'.1.length ≤ s.1.length + 401 ∧ s'.2.length ≤ s.2.length + 400 := by
  have a (y z : Str) : (y ++ z).length = y.length + z.length := by
    show (y.cps ++ z.cps).size = _
    rw [Array.size_append]; rfl
  have e0 : (Str.ofString "").length = 0 := by decide +kernel
  unfold writePart at h
  cases q with
  | text x =>
    obtain rfl := Option.some.inj h
    have := writeText_len s x width
    have hq : x.length ≤ 400 := hq
    omega
  | zone =>
    obtain rfl := Option.some.inj h
    have := zoneCol_bounds s.2.length (zone := zone) (by omega)
    unfold writeZone endRow
    split
    · simp only [List.length_append, List.length_singleton, e0]; omega
    · simp only [a, blanks_len]; omega
  | glue => obtain rfl := Option.some.inj h; omega
  | tab n =>
    dsimp only at h
    unfold writeTab at h
    split at h
    · cases h
    · obtain ⟨x, hx, rfl⟩ := Option.map_eq_some_iff.mp h
      have := withinRow_le hx hw0
      unfold endRow
      split
      · simp only [List.length_append, List.length_singleton, a, e0, blanks_len]; omega
      · simp only [a, blanks_len]; omega
  | spc n =>
    dsimp only at h
    obtain ⟨x, hx, rfl⟩ := Option.map_eq_some_iff.mp h
    have := withinRow_le hx hw0
    have := writeText_len s (blanks x) width
    rw [blanks_len] at this
    omega

def runParts (zone width : Int) : PS → Bool → List Part → PS × Bool × Bool
  | s, e, [] => (s, e, false)
  | s, e, q :: qs => match writePart s q zone width with
    | none => (s, e, true)
    | some s' => runParts zone width s' q.isText qs
def writeParts (s : PS) (qs : List Part) (zone width : Int) : PS × Bool :=
  match runParts zone width s true qs with
  | (s', _, true) => (s', true)
  | (s', true, false) => (endRow s', false)
  | (s', false, false) => (s', false)

inductive PartsAt (h : Heap) : List Value → List Part → Prop
  | nil : PartsAt h [] []
  | cons {a q vs qs} : PartAt h a q → q.ok → PartsAt h vs qs → PartsAt h (.ref a :: vs) (q :: qs)
theorem PartsAt.keeps {h h' : Heap} {vs : List Value} {qs : List Part} (k : ∀ b o, h.get? b = some o → h'.get? b = some o) (x : PartsAt h vs qs) : PartsAt h' vs qs := by
  induction x with
  | nil => exact .nil
  | cons a b _ ih => exact .cons (a.keeps k) b ih

local macro_rules | `(tactic| walk_at "mine_k") => `(tactic| (
  (case k6 => k_is)
  (case k7 => k_is)
  (case k8 => (simp only [recursionLimit]; omega))
  (case k9 => exact BindsTo.of_eq rfl)
  (case c5 => decide)
  (case kB => exact locs rfl)
  (case c2 => exact rfl)
  (case c3 => exact rfl)
  (case c4 => exact rfl)
  intro L' h₁ F' N'
  (try dsimp only)))
local macro_rules | `(tactic| walk_at "mine_go") => `(tactic| (repeat' (first | (k_unfold; (try dsimp only)) | walk1 | (dsimp only; walk1))))
local macro_rules | `(tactic| walk_at "Exists") => `(tactic| refine Stop.intro ?_)
local macro_rules | `(tactic| walk_at "exec While") => `(tactic| refine Stop.intro ?_)
local macro_rules | `(tactic| walk_at "exec Raise some none") => `(tactic| refine Stop.intro ?_)
-- the premises of Spec.use
local macro_rules | `(tactic| walk_at "mine_use") => `(tactic| (
  (case b0 => exact rfl); (case b1 => exact rfl); (case b2 => assumption); (case b3 => assumption); (case b4 => assumption); (case b5 => assumption); (case b6 => assumption); (case b7 => exact fun _ h => nomatch h);
  (case b8 => simp only [Around.deeper]; omega); (case b9 => simp only [Around.deeper]; omega); (case b10 => rfl)))
local macro_rules | `(tactic| walk_at "exec For") => `(tactic| refine Stop.intro ?_)
local macro_rules | `(tactic| walk_at "pyIter ref") => `(tactic| refine Stop.intro ?_)
local macro_rules | `(tactic| walk_at "call ref") => `(tactic| (k_here; (with_reducible show wpAny _ _ (call (Value.ref 65) _) _ _ _); k_dflt (refine' Spec.use (end_row_spec ?h1 ?h2 ?h3 ?h4) (rest := []) ?b0 ?b1 ?b2 ?b3 ?b4 ?b5 ?b6 ?b7 ?b8 ?b9 ?b10 ?_ ?bE; walk_at "mine_use"; (case h1 => assumption); (case h2 => assumption); (case h3 => assumption); (case h4 => omega); (case bE => exact fun _ _ _ _ _ _ _ z => z.elim)); intro v9 h9 tk9 led9 F9 N9 o9; obtain ⟨z9, t9, k9, y9⟩ := o9; subst z9 y9; (try simp only [List.append_nil] at N9); (try k_sweep)))
local macro_rules | `(tactic| walk_at "call ref") => `(tactic| (k_here; (with_reducible show wpAny _ _ (call (Value.ref 107) _) _ _ _); k_dflt (refine' SpecP.use (write_part_spec ?h1 ?h2 ?h3 ?h4 ?h5 ?h6 ?h7 ?h8 ?h9 ?h10 ?h11) ?b0 ?b1 ?b2 ?b3 ?b4 ?b5 ?b6 ?b7 ?bP ?b8 ?b9 ?b10 ?_ ?_; (case b0 => exact rfl); (case b1 => exact rfl); (case b2 => assumption); (case b3 => assumption); (case b4 => assumption); (case b5 => assumption); (case b6 => assumption); (case b7 => assumption); (case bP => exact fun k _ => PartAt.keeps k (by assumption)); (case b8 => simp only [Around.deeper]; omega); (case b9 => simp only [Around.deeper]; omega); (case b10 => rfl); (case h1 => assumption); (case h2 => assumption); (case h3 => assumption); (case h4 => assumption); (case h5 => omega); (case h6 => omega); (case h7 => assumption); (case h8 => omega); (case h9 => omega); (case h10 => omega); (case h11 => omega); rotate_left; (intro e9 c9 h9 tk9 led9 x9 n9 o9; refine Stop.intro ?_); rotate_left; (intro v9 h9 tk9 led9 F9 N9 o9; obtain ⟨z9, st9, hst9, t9, k9, its9, y9, S9⟩ := o9; subst z9 y9; (try k_sweep)))))

theorem pg_ne {w : World} {p d o it : Addr} {t1 t2 t3 t3' : Tok} {row row' : Str} {its its' : Array Value} {k k' : Nat} (h : ∀ q ∈ pgLed w p d o t1 t2 t3 row its k, q.1 ≠ it) : ∀ q ∈ pgLed w p d o t1 t2 t3' row' its' k', q.1 ≠ it := fun q hq => by
  have h1 := h _ (.head _)
  have h2 := h _ (.tail _ (.head _))
  have h3 := h _ (.tail _ (.tail _ (.head _)))
  rcases List.mem_cons.mp hq with rfl | hq
  · exact h1
  rcases List.mem_cons.mp hq with rfl | hq
  · exact h2
  obtain rfl := List.mem_singleton.mp hq
  exact h3

theorem write_parts_spec {w : World} {p d o l : Addr} {t1 t2 t3 tz tw : Tok} {k : Nat} {its : Array Value} {row : Str} {rows : List Str} {vs : List Value} {qs : List Part} {zone width : Int} (hpd : @Ne Nat p d) (hpo : @Ne Nat p o) (hdo : @Ne Nat d o) (hS : StrsAre its.toList rows) (hits : rows.length ≤ 20000) (hrow : row.length ≤ 20000) (hn : qs.length ≤ 20) (hz0 : 2 ≤ zone) (hz1 : zone ≤ 9) (hw0 : 0 ≤ width) (hw1 : width ≤ 100) :
    SpecP w 830 114 [.ref p, .ref l, .int zone tz, .int width tw] (pgLed w p d o t1 t2 t3 row its k) (fun h => h.IsList l vs.toArray ∧ PartsAt h vs qs) (fun v led => v = .none ∧ (writeParts (rows, row) qs zone width).2 = false ∧ PgOut w p d o t1 t2 (writeParts (rows, row) qs zone width).1 led)
      (fun c led => c = Str.ofString "FC" ∧ (writeParts (rows, row) qs zone width).2 = true ∧ PgOut w p d o t1 t2 (writeParts (rows, row) qs zone width).1 led) := by
  intro A outer A₀ base h₀ mean mg mb s R hh hA B X T S N hP hdp hun h hE
  obtain ⟨hd, dp, fr, gd, un⟩ := A
  dsimp only at hh hA hdp hun
  subst hh hA
  have hsz := StrsAre.size hS
  obtain ⟨hl, hps⟩ := hP
  refine' enter_led (K := hd02.heap_39 w.params) (binds := [(Str.ofString "page", Value.ref p), (Str.ofString "parts", Value.ref l), (Str.ofString "zone", .int zone tz), (Str.ofString "width", .int width tw)]) X T S N ?k6 ?k7 ?k8 ?k9 ?kB ?_ ?c2 ?c3 ?c4 ?c5
  walk_at "mine_k"
  walk_at "mine_go"
  rename Fr _ _ _ _ => F₂
  rename News _ _ _ _ => N₂
  unfold Stop
  refine wpAny_For ?_
  walk_at "mine_go"
  unfold Stop
  refine loop_list (h₀ := h₀) (vs := vs) (fun rest m' news' => ∃ qs' st e t3' k' its' pv, PartsAt h₀ rest qs' ∧ runParts zone width (rows, row) true qs = runParts zone width st e qs' ∧ st.1.length + 401 * qs'.length ≤ 20000 + 8020 ∧ st.2.length + 400 * qs'.length ≤ 20000 + 8000 ∧ StrsAre its'.toList st.1 ∧ news' = pgLed w p d o t1 t2 t3' st.2 its' k' ∧ m' = fun y => if y = Str.ofString "part" then pv else if y = Str.ofString "is_ended" then some (.bool e) else List.lookup y [(Str.ofString "page", Value.ref p), (Str.ofString "parts", Value.ref l), (Str.ofString "zone", .int zone tz), (Str.ofString "width", .int width tw)].reverse) rfl (frCongr F₂ (m' := fun y => if y = Str.ofString "part" then none else if y = Str.ofString "is_ended" then some (.bool true) else List.lookup y [(Str.ofString "page", Value.ref p), (Str.ofString "parts", Value.ref l), (Str.ofString "zone", .int zone tz), (Str.ofString "width", .int width tw)].reverse) ?_) N₂ ⟨qs, (rows, row), true, _, _, _, none, hps, rfl, by dsimp only; omega, by dsimp only; omega, hS, rfl, rfl⟩ (fun rest m' news' h' hp F' N' => Fr.lst F' hl) ?_ ?_
  · intro y
    by_cases hy : y = Str.ofString "part"
    · subst hy; rfl
    · simp only [if_neg hy]
  · intro it oi v rest m' news' h tk hne hp F' N'
    obtain ⟨qs', st, e, t3', k', its', pv, hps', hrun, hb1, hb2, hS', rfl, rfl⟩ := hp
    clear F₂ N₂ hps N
    cases hps' with
    | @cons a q _ qs'' ha hqk hps' =>
    rw [List.length_cons] at hb1 hb2
    have hap : ∀ q ∈ [(it, oi)], ∀ q' ∈ pgLed w p d o t1 t2 t3' st.2 its' k', q.1 ≠ q'.1 := fun q hq q' hq' => by
      obtain rfl := List.mem_singleton.mp hq
      exact (hne q' hq').symm
    walk_at "mine_go"
    · rename writePart _ _ _ _ = some _ => hst
      have hlen := writePart_len hst hqk hz0 hz1 hw0
      refine ⟨_, _, _, _, rfl, frCongr (by assumption) (fun y => ?_), by assumption, ⟨qs'', _, q.isText, _, _, _, some (.ref a), hps', ?_, ?_, ?_, by assumption, rfl, rfl⟩, pg_ne hne⟩
      · by_cases hy : y = Str.ofString "part"
        · subst hy; rfl
        · simp only [if_neg hy]
          by_cases hy : y = Str.ofString "is_ended"
          · subst hy; rfl
          · simp only [if_neg hy]
      · rw [hrun, runParts]; rw [show writePart st q zone width = _ from hst]
      · dsimp only at hlen; omega
      · dsimp only at hlen; omega
    · rename_i e9 c9 h9 tk9 led9 x9 n9 o9
      obtain ⟨rfl, o9, rfl⟩ := o9
      have hw : writeParts (rows, row) qs zone width = (st, true) := by
        unfold writeParts; rw [hrun, runParts, show writePart st q zone width = _ from o9]
      unfold Stop
      exact x9.drop.note rfl rfl fun h' x1 u1 => x1.back rfl fun h'' x2 u2 => x2.leaveHeld rfl (not_above F') fun h3 x3 => hE _ _ _ _ _ x3 ⟨rfl, by rw [hw], by rw [hw]; exact ⟨_, _, _, rfl, hS'⟩⟩
  · have h9' := h
    intro m' news' h tk hp F' N'
    obtain ⟨qs', st, e, t3', k', its', pv, hps', hrun, hb1, hb2, hS', rfl, rfl⟩ := hp
    clear F₂ N₂ hps N
    cases hps'
    have hsz' := StrsAre.size hS'
    dsimp only
    cases e
    · have hw : writeParts (rows, row) qs zone width = (st, false) := by unfold writeParts; rw [hrun, runParts]
      walk_at "mine_go"
      exact h9' _ _ _ _ (Sub.of F') (Led.of N') ⟨rfl, by rw [hw], by rw [hw]; exact ⟨_, _, _, rfl, hS'⟩⟩
    · have hw : writeParts (rows, row) qs zone width = (endRow st, false) := by unfold writeParts; rw [hrun, runParts]
      walk_at "mine_go"
      exact h9' _ _ _ _ (Sub.of (by assumption)) (Led.of (by assumption)) ⟨rfl, by rw [hw], by rw [hw]; exact ⟨_, _, _, rfl, StrsAre.push1 hS' _ _⟩⟩
end Mine
namespace Mine

local macro_rules | `(tactic| walk_at "mine_k") => `(tactic| (
  (case k6 => k_is)
  (case k7 => k_is)
  (case k8 => (simp only [recursionLimit]; omega))
  (case k9 => exact BindsTo.of_eq rfl)
  (case c5 => decide)
  (case kB => exact locs rfl)
  (case c2 => exact rfl)
  (case c3 => exact rfl)
  (case c4 => exact rfl)
  intro L' h₁ F' N'
  (try dsimp only)))
local macro_rules | `(tactic| walk_at "mine_go") => `(tactic| (repeat' (first | (k_unfold; (try dsimp only)) | walk1 | (dsimp only; walk1))))
local macro_rules | `(tactic| walk_at "exec While") => `(tactic| refine Stop.intro ?_)
local macro_rules | `(tactic| walk_at "exec Raise some none") => `(tactic| refine Stop.intro ?_)
-- the premises of Spec.use
local macro_rules | `(tactic| walk_at "mine_use") => `(tactic| (
  (case b0 => exact rfl); (case b1 => exact rfl); (case b2 => assumption); (case b3 => assumption); (case b4 => assumption); (case b5 => assumption); (case b6 => assumption); (case b7 => exact fun _ h => nomatch h);
  (case b8 => simp only [Around.deeper]; omega); (case b9 => simp only [Around.deeper]; omega); (case b10 => rfl)))
local macro_rules | `(tactic| walk_at "exec For") => `(tactic| refine Stop.intro ?_)
local macro_rules | `(tactic| walk_at "pyIter ref") => `(tactic| refine Stop.intro ?_)

theorem Led.drop2 {h₀ h : Heap} {x y : Addr × Obj} {l : List (Addr × Obj)} (L : Led h₀ h (x :: y :: l)) : Led h₀ h (x :: l) := fun q hq => by
  rcases List.mem_cons.mp hq with rfl | hq
  · exact L _ (.head _)
  · exact L _ (.tail _ (.tail _ hq))

theorem Led.pick {h₀ h : Heap} {x : Addr × Obj} {l : List (Addr × Obj)} (L : Led h₀ h l) (hx : x ∈ l) : Led h₀ h [x] := fun q hq => by
  obtain rfl := List.mem_singleton.mp hq
  exact L _ hx
theorem column_of_spec {w : World} {p d o : Addr} {t1 t2 t3 : Tok} {k : Nat} {its : Array Value} {row : Str} (hpd : @Ne Nat p d) (hpo : @Ne Nat p o) (hdo : @Ne Nat d o) (hrow : row.length ≤ 40000) :
    Spec w 800 121 [.ref p] (pgLed w p d o t1 t2 t3 row its k) (fun v l => l = pgLed w p d o t1 t2 t3 row its k ∧ ∃ t, v = .int ((row.length : Int) + 1) t) (fun _ _ => False) := by
  intro A outer A₀ base h₀ mean mg mb s R hh hA B X T S N hdp hun h hE
  obtain ⟨hd, dp, fr, gd, un⟩ := A
  dsimp only at hh hA hdp hun
  subst hh hA
  refine' enter_led (K := hd02.heap_39 w.params) (binds := [(Str.ofString "page", Value.ref p)]) X T S N ?k6 ?k7 ?k8 ?k9 ?kB ?_ ?c2 ?c3 ?c4 ?c5
  walk_at "mine_k"
  walk_at "mine_go"
  exact h _ _ _ _ (Sub.of (by assumption)) (Led.of (by assumption)) ⟨rfl, _, rfl⟩

def allRows (s : PS) : List Str := if s.2 = Str.ofString "" then s.1 else s.1 ++ [s.2]
theorem all_rows_of_spec {w : World} {p d o : Addr} {t1 t2 t3 : Tok} {k : Nat} {its : Array Value} {row : Str} {rows : List Str} (hpd : @Ne Nat p d) (hpo : @Ne Nat p o) (hdo : @Ne Nat d o) (hS : StrsAre its.toList rows) (hits : rows.length ≤ 40000) (hrow : row.length ≤ 40000) :
    Spec w 800 128 [.ref p] (pgLed w p d o t1 t2 t3 row its k) (fun v l => ∃ r its' k', l = (r, W.listOf its' k') :: pgLed w p d o t1 t2 t3 row its k ∧ v = .ref r ∧ StrsAre its'.toList (allRows (rows, row))) (fun _ _ => False) := by
  intro A outer A₀ base h₀ mean mg mb s R hh hA B X T S N hdp hun h hE
  obtain ⟨hd, dp, fr, gd, un⟩ := A
  dsimp only at hh hA hdp hun
  subst hh hA
  have hsz := StrsAre.size hS
  refine' enter_led (K := hd02.heap_39 w.params) (binds := [(Str.ofString "page", Value.ref p)]) X T S N ?k6 ?k7 ?k8 ?k9 ?kB ?_ ?c2 ?c3 ?c4 ?c5
  walk_at "mine_k"
  walk_at "mine_go"
  · rename (row != _) = true => hr
    have hr' : row ≠ Str.ofString "" := by simpa using hr
    refine h _ _ _ _ (Sub.of (by assumption)) (Led.drop2 (Led.of (by assumption))) ⟨_, _, _, rfl, rfl, ?_⟩
    rw [show allRows (rows, row) = rows ++ [row] from if_neg hr']
    exact StrsAre.append' (by assumption) (.cons _ _ .nil)
  · rename (row != _) = false => hr
    have hr' : row = Str.ofString "" := by simpa using hr
    refine h _ _ _ _ (Sub.of (by assumption)) (Led.drop2 (Led.of (by assumption))) ⟨_, _, _, rfl, rfl, ?_⟩
    rw [show allRows (rows, row) = rows from if_pos hr']
    simpa using (by assumption : StrsAre its.toList rows)

theorem law_part_spec {w : World} {t : Tok} {n : Int} (hn : 0 ≤ n) :
    Spec w 800 135 [.int n t] [] (fun v l => ∃ a ob q, v = .ref a ∧ l = [(a, ob)] ∧ Part.ok q ∧ ∀ h : Heap, h.get? a = some ob → PartAt h a q) (fun _ _ => False) := by
  intro A outer A₀ base h₀ mean mg mb s R hh hA B X T S N hdp hun h hE
  obtain ⟨hd, dp, fr, gd, un⟩ := A
  dsimp only at hh hA hdp hun
  subst hh hA
  have hsl : (Txt.slice (Str.ofString "pqrstuvwxyz") none (some (Int.fmod (Int.fdiv n 5) 12))).length ≤ 11 := by
    have h0 := Int.fmod_nonneg_of_pos (Int.fdiv n 5) (b := 12) (by decide)
    have h1 : (Str.ofString "pqrstuvwxyz").length = 11 := by decide +kernel
    have h2 := fact_slice_ns (Str.ofString "pqrstuvwxyz") (Int.fmod (Int.fdiv n 5) 12)
    rw [h1] at h2
    omega
  have h3 := Int.fmod_lt_of_pos (Int.fdiv n 5) (b := 3) (by decide)
  have h4 := Int.fmod_nonneg_of_pos (Int.fdiv n 5) (b := 3) (by decide)
  have hmk : MulOk (Txt.slice (Str.ofString "pqrstuvwxyz") none (some (Int.fmod (Int.fdiv n 5) 12))) (1 + Int.fmod (Int.fdiv n 5) 3) := mulOk_of 11 3 hsl (by omega) (by omega) (by decide) (by decide)
  have hml := len_mul_leN (N := 3) hsl (n := 1 + Int.fmod (Int.fdiv n 5) 3) (by omega)
  refine' enter_led (K := hd02.heap_39 w.params) (binds := [(Str.ofString "number", Value.int n t)]) X T S N ?k6 ?k7 ?k8 ?k9 ?kB ?_ ?c2 ?c3 ?c4 ?c5
  walk_at "mine_k"
  walk_at "mine_go"
  all_goals (first
    | (refine h _ _ _ _ (Sub.of (by assumption)) (Led.pick (Led.of (by assumption)) (.head _)) ?_; refine ⟨_, _, .text _, rfl, rfl, ?_, fun hx hg => ⟨_, _, _, hg, rfl, _, rfl⟩⟩; exact Nat.le_trans hml (by decide))
    | (refine h _ _ _ _ (Sub.of (by assumption)) (Led.pick (Led.of (by assumption)) (.head _)) ?_; refine ⟨_, _, .zone, rfl, rfl, ?_, fun hx hg => ⟨_, _, hg, rfl, _, rfl⟩⟩; exact trivial)
    | (refine h _ _ _ _ (Sub.of (by assumption)) (Led.pick (Led.of (by assumption)) (.tail _ (.tail _ (.tail _ (.head _))))) ?_; refine ⟨_, _, .glue, rfl, rfl, ?_, fun hx hg => ⟨_, _, hg, rfl, _, rfl⟩⟩; exact trivial)
    | (refine h _ _ _ _ (Sub.of (by assumption)) (Led.pick (Led.of (by assumption)) (.tail _ (.tail _ (.head _)))) ?_; refine ⟨_, _, .tab _, rfl, rfl, ?_, fun hx hg => ⟨_, _, _, hg, rfl, _, rfl⟩⟩; exact And.intro (by omega) (by omega))
    | (refine h _ _ _ _ (Sub.of (by assumption)) (Led.pick (Led.of (by assumption)) (.tail _ (.head _))) ?_; refine ⟨_, _, .spc _, rfl, rfl, ?_, fun hx hg => ⟨_, _, _, hg, rfl, _, rfl⟩⟩; exact And.intro (by omega) (by omega)))
end Mine
namespace Mine

local macro_rules | `(tactic| walk_at "mine_k") => `(tactic| (
  (case k6 => k_is)
  (case k7 => k_is)
  (case k8 => (simp only [recursionLimit]; omega))
  (case k9 => exact BindsTo.of_eq rfl)
  (case c5 => decide)
  (case kB => exact locs rfl)
  (case c2 => exact rfl)
  (case c3 => exact rfl)
  (case c4 => exact rfl)
  intro L' h₁ F' N'
  (try dsimp only)))
local macro_rules | `(tactic| walk_at "mine_go") => `(tactic| (repeat' (first | (k_unfold; (try dsimp only)) | walk1 | (dsimp only; walk1))))
local macro_rules | `(tactic| walk_at "Exists") => `(tactic| refine Stop.intro ?_)
local macro_rules | `(tactic| walk_at "exec While") => `(tactic| refine Stop.intro ?_)
local macro_rules | `(tactic| walk_at "exec Raise some none") => `(tactic| refine Stop.intro ?_)
-- the premises of Spec.use
local macro_rules | `(tactic| walk_at "mine_use") => `(tactic| (
  (case b0 => exact rfl); (case b1 => exact rfl); (case b2 => assumption); (case b3 => assumption); (case b4 => assumption); (case b5 => assumption); (case b6 => assumption); (case b7 => exact fun _ h => nomatch h);
  (case b8 => simp only [Around.deeper]; omega); (case b9 => simp only [Around.deeper]; omega); (case b10 => rfl)))
local macro_rules | `(tactic| walk_at "exec For") => `(tactic| refine Stop.intro ?_)
local macro_rules | `(tactic| walk_at "pyIter ref") => `(tactic| refine Stop.intro ?_)

local macro_rules | `(tactic| walk_at "exec Try") => `(tactic| refine Stop.intro ?_)
local macro_rules | `(tactic| walk_at "noteFrame ref") => `(tactic| refine Stop.intro ?_)
local macro_rules | `(tactic| walk_at "bind") => `(tactic| refine Stop.intro ?_)
local macro_rules | `(tactic| walk_at "getAttr ref") => `(tactic| refine Stop.intro ?_)
local macro_rules | `(tactic| walk_at "call ref") => `(tactic| (k_here; (with_reducible show wpAny _ _ (call (Value.ref 114) _) _ _ _); k_dflt (refine' SpecP.use (write_parts_spec ?h1 ?h2 ?h3 ?h4 ?h5 ?h6 ?h7 ?h8 ?h9 ?h10 ?h11) (rest := []) ?b0 ?b1 ?b2 ?b3 ?b4 ?b5 ?b6 ?b7 ?bP ?b8 ?b9 ?b10 ?_ ?_; (case b0 => exact rfl); (case b1 => exact rfl); (case b2 => assumption); (case b3 => assumption); (case b4 => assumption); (case b5 => assumption); (case b6 => assumption); (case b7 => exact fun _ h => nomatch h); (case bP => exact fun k _ => ⟨Heap.IsList.at (by assumption) (k _), PartsAt.keeps k (by assumption)⟩); (case b8 => simp only [Around.deeper]; omega); (case b9 => simp only [Around.deeper]; omega); (case b10 => rfl); (case h1 => assumption); (case h2 => assumption); (case h3 => assumption); (case h4 => assumption); (case h5 => omega); (case h6 => omega); (case h7 => omega); (case h8 => omega); (case h9 => omega); (case h10 => omega); (case h11 => omega); rotate_left; (intro e9 c9 h9 tk9 led9 x9 n9 o9; refine Stop.intro ?_); rotate_left; (intro v9 h9 tk9 led9 F9 N9 o9; obtain ⟨z9, y9, o9⟩ := o9; subst z9; (try simp only [List.append_nil] at N9); (try k_sweep)))))

theorem Flight.frames {h₁ h : Heap} {l : List Env} {led : List (Addr × Obj)} {e : Addr} {c : Str} {fl : Value} (x : Flight h₁ l led e c fl h) : (∀ b o, h₁.get? b = some o → b ∉ l.filterMap (·.frame) → h.get? b = some o) ∧ (∀ q ∈ led, h.get? q.1 = some q.2 ∧ h₁.get? q.1 = none) ∧ h₁.UpToSlots h ∧ h₁.get? e = none ∧
    ∃ dx vs od t, h.get? e = some (excV dx vs) ∧ h.get? dx = some od ∧ (∀ h : Heap, h.get? dx = some od → ∃ mA, h.Ns dx mA ∧ mA (Str.ofString "code") = some (.str c t)) ∧ ∀ b ∈ l.filterMap (·.frame), b ≠ dx ∧ b ≠ e ∧ ∀ q ∈ led, q.1 ≠ b := by
  obtain ⟨B, dx, od, t, k1, k2, k3, k4, k5, k6, k7⟩ := x
  obtain ⟨b1, b2, b3, vs, T, oT, ts, b4, b5⟩ := k3
  refine ⟨fun b o hb hn => b1 _ _ (k1 b o hb hn), fun q hq => ⟨b1 _ _ (k2 q hq).1, (k2 q hq).2⟩, k7, k6, dx, vs, od, t, b4, b1 _ _ k4, k5, fun b hb => ?_⟩
  obtain ⟨z1, o', z2, z3⟩ := b3.mem hb
  refine ⟨fun z => ?_, fun z => ?_, fun q hq z => ?_⟩
  · rw [z, k4] at z1; cases z1
  · rw [z, b4] at z2; injection z2 with z2; subst z2; exact z3 vs rfl
  · rw [← z, (k2 q hq).1] at z1; cases z1

theorem catch_own {w : World} {A : Around} {s : Shared} {h₀ h₁ : Heap} {outer : List Env} {led : List (Addr × Obj)} {e L a : Addr} {c n : Str} {m : Str → Option Value} {mean : ExcName → Option Value} {mg mb : Str → Option Value} {cn : Str} {cs : Scope} {ccd : Value} {Q : Flow → Shared → Prop} {E : Value → Shared → Prop} {np pos : Pos} {b₀ : Stmt} {suite : List Stmt} {rest : List ExceptHandler}
    (hfr : A.frames = some (envOf cn cs L a ccd :: outer)) (x : Flight h₁ (envOf cn cs L a ccd :: outer) led e c .none s.heap) (hns : s.heap.Ns L m) (X : (hd02.heap_39 w.params).In h₀) (T : TopW' mean mg mb h₀)
    (kp : ∀ b o, h₀.get? b = some o → h₁.get? b = some o) (hn : ∀ b o, h₀.get? b = some o → b ∉ (envOf cn cs L a ccd :: outer).filterMap (·.frame)) (hab : h₀.objs.size ≤ L)
    (k : ∀ h₅ h' tk E', Flight h₁ (envOf cn cs L a ccd :: outer) led e c .none h₅ → Fr h₀ L h' (fun y => if y = n then some (.ref e) else m y) → (∀ b o, b ≠ L → h₅.get? b = some o → h'.get? b = some o) →
      wpAny (model PROG w) (A.mark (some (.ref e))) (execs (b₀ :: suite) (envOf cn cs L a ccd)) (fun f s₄ => wpAny (model PROG w) A (do bindName (envOf cn cs L a ccd) n .none; unbindBehindTheSuite (envOf cn cs L a ccd) n pos) (fun _ s₅ => Q f s₅) E s₄) E' { s with heap := h', toks := tk })
    (hk : cs.kind = .function) (hlo : (envOf cn cs L a ccd).kindOf n = some .local) (hx : (envOf cn cs L a ccd).kindOf "BasicError" = some .globalImplicit) :
    wpAny (model PROG w) A (noteFrame (.ref e) (envOf cn cs L a ccd)) (fun _ s₂ => wpAny (model PROG w) A (setFlight (.ref e) none) (fun _ s₃ => wpAny (model PROG w) A (handleBy (.ref e) (envOf cn cs L a ccd) (.ExceptHandler (some (.Name (Str.ofString "BasicError") np)) (some n) (b₀ :: suite) pos :: rest)) Q E s₃) E s₂) E s := by
  refine x.note hfr rfl fun h₃ x3 u3 => x3.set (fr := none) fun h₄ x4 u4 => ?_
  have ns4 := u4.ns (u3.ns hns)
  obtain ⟨y1, y2, y3, y4, dx, vs, od, t, y5, y6, y7, y8⟩ := x4.frames
  have F4 : Fr h₀ L h₄ m := ⟨ns4, fun b o hb => y1 b o (kp b o hb) (hn b o hb), hab⟩
  refine wpAny_handleBy_cons (codeAny_handlers_test (name_K F4 X (topRead_of T) (by k_is) ?_ hk hx)) (by intro q; cases q)
  obtain ⟨nm, q, bs, dd, k0, k1, k2, k3, k5, mN, hC, hNs, n1, n2, n3, n4, n5, n6⟩ := excClass (X.keeps F4.keep)
  refine wpAny_excMatches_sub_self hC y5 rfl (by decide +kernel) (codeAny_handlers_suite_as ?_)
  refine x4.set (fr := none) fun h₅ x5 u5 => ?_
  have ns5 := u5.ns ns4
  obtain ⟨y1, y2, y3, y4, dx, vs, od, t, y5, y6, y7, y8⟩ := x5.frames
  have F5 : Fr h₀ L h₅ m := ⟨ns5, fun b o hb => y1 b o (kp b o hb) (hn b o hb), hab⟩
  refine wpAny_storeName_local hlo F5.ns (fun h' hn' hs' => ?_) (by show (cs.kind == .class || (cs.kind == .module && L != mainGlobals)) = false; rw [hk]; rfl)
  exact k h₅ h' _ _ x5 (F5.set hn' hs') fun b o hb e => hs'.extBut b o hb e

theorem tried_use {w : World} {p d o l : Addr} {t1 t2 t3 tz tw : Tok} {k : Nat} {its : Array Value} {row : Str} {rows : List Str} {vs : List Value} {qs : List Part} {zone width : Int} (hpd : @Ne Nat p d) (hpo : @Ne Nat p o) (hdo : @Ne Nat d o) (hS : StrsAre its.toList rows) (hits : rows.length ≤ 20000) (hrow : row.length ≤ 20000) (hn : qs.length ≤ 20) (hz0 : 2 ≤ zone) (hz1 : zone ≤ 9) (hw0 : 0 ≤ width) (hw1 : width ≤ 100)
    {A A₀ : Around} {base h₀ : Heap} {mean : ExcName → Option Value} {mg mb : Str → Option Value} {s : Shared} {L a : Addr} {m : Str → Option Value} {cn : Str} {cs : Scope} {ccd : Value} {Q E : Value → Shared → Prop} {rest : List (Addr × Obj)}
    (hh : A.handled = none) (hA : A.frames = some [envOf cn cs L a ccd]) (B : Below A₀ base [] h₀) (F : Fr h₀ L s.heap m) (X : (hd02.heap_39 w.params).In h₀) (T : TopW' mean mg mb h₀) (N : News h₀ L s.heap (pgLed w p d o t1 t2 t3 row its k ++ rest)) (hap : ∀ q ∈ rest, ∀ q' ∈ pgLed w p d o t1 t2 t3 row its k, q.1 ≠ q'.1)
    (hP : (∀ b o', h₀.get? b = some o' → (hideAll s.heap ((pgLed w p d o t1 t2 t3 row its k).map (·.1))).get? b = some o') → (∀ q ∈ rest, (hideAll s.heap ((pgLed w p d o t1 t2 t3 row its k).map (·.1))).get? q.1 = some q.2) → (hideAll s.heap ((pgLed w p d o t1 t2 t3 row its k).map (·.1))).IsList l vs.toArray ∧ PartsAt (hideAll s.heap ((pgLed w p d o t1 t2 t3 row its k).map (·.1))) vs qs)
    (hdp : A.depth ≤ 820) (hun : A.units ≤ 9 * 820) (hck : cs.kind = .function)
    (kQ : ∀ h' tk' led' t, Fr h₀ L h' m → News h₀ L h' (led' ++ rest) → PgOut w p d o t1 t2 (writeParts (rows, row) qs zone width).1 led' → Q (.str (if (writeParts (rows, row) qs zone width).2 = true then Str.ofString "FC" else Str.ofString "") t) { s with heap := h', toks := tk' }) :
    wpAny (model PROG w) A (call (.ref 142) [.ref p, .ref l, .int zone tz, .int width tw]) Q E s := by
  obtain ⟨B', S', L', st⟩ := base_of (cn := cn) (a := a) (ccd := ccd) B F N hck
  replace hP := hP st fun q hq => hideAll_get _ (N q (List.mem_append_right _ hq)).1 fun z => by
    obtain ⟨p, hp, e⟩ := List.mem_map.mp z
    exact hap q hq p hp e.symm
  obtain ⟨hl, hps⟩ := hP
  have hb : ∀ {h' led'}, Sub (hideAll s.heap ((pgLed w p d o t1 t2 t3 row its k).map (·.1))) h' → Led (hideAll s.heap ((pgLed w p d o t1 t2 t3 row its k).map (·.1))) h' led' → Fr h₀ L h' m ∧ News h₀ L h' (led' ++ rest) := fun S D => back_of F N hap S D
  have X1 := X.keeps st
  have T1 : TopW' mean mg mb _ := T.keeps st
  have nLh : h₀.get? L = none := not_above F
  have habL := F.above
  have hNsL : (hideAll s.heap ((pgLed w p d o t1 t2 t3 row its k).map (·.1))).Ns L m := by
    obtain ⟨oL, es, ep, hL, r⟩ := F.ns
    exact ⟨oL, es, ep, hideAll_get _ hL fun q => by
      obtain ⟨p, hp, e⟩ := List.mem_map.mp q
      exact (N p (List.mem_append_left _ hp)).2.1 e, r⟩
  have hrest : ∀ q ∈ rest, (hideAll s.heap ((pgLed w p d o t1 t2 t3 row its k).map (·.1))).get? q.1 = some q.2 ∧ q.1 ≠ L ∧ h₀.get? q.1 = none := fun q hq => ⟨hideAll_get _ (N q (List.mem_append_right _ hq)).1 fun z => by
    obtain ⟨p, hp, e⟩ := List.mem_map.mp z
    exact hap q hq p hp e.symm, (N q (List.mem_append_right _ hq)).2⟩
  have hsz0 : h₀.objs.size ≤ (hideAll s.heap ((pgLed w p d o t1 t2 t3 row its k).map (·.1))).objs.size := by
    rw [hideAll_size]; exact (Sub.of F).size
  generalize hideAll s.heap ((pgLed w p d o t1 t2 t3 row its k).map (·.1)) = h₁ at *
  clear N F hap
  obtain ⟨hd, dp, fr, gd, un⟩ := A
  dsimp only at hh hA hdp hun
  subst hh hA
  have hsz := StrsAre.size hS
  refine wpAny_call ?_
  refine' enter_led (K := hd02.heap_39 w.params) (binds := [(Str.ofString "page", Value.ref p), (Str.ofString "parts", Value.ref l), (Str.ofString "zone", .int zone tz), (Str.ofString "width", .int width tw)]) X1 T1 S' L' ?k6 ?k7 ?k8 ?k9 ?kB ?_ ?c2 ?c3 ?c4 ?c5
  walk_at "mine_k"
  have XT := And.intro X T
  clear X T
  walk_at "mine_go"
  unfold Stop
  refine wpAny_Try_except ?_
  walk_at "mine_go"
  · rename PgOut _ _ _ _ _ _ _ _ => o9
    rename (writeParts (rows, row) qs zone width).2 = false => y9
    obtain ⟨F2, N2⟩ := hb (Sub.of (by assumption)) (Led.of (by assumption))
    rw [y9] at kQ
    exact kQ _ _ _ _ F2 N2 o9
  · rename Fr _ _ _ _ => F'
    rename_i e9 c9 h9 tk9 led9 x9 n9 o9
    obtain ⟨rfl, y9, o9⟩ := o9
    obtain ⟨X, T⟩ := XT
    unfold Stop
    have hL1 := hNsL.lt
    have hLL := F'.above
    refine catch_own rfl x9.drop n9 X T st (fun b ob hb' hm => ?_) (Nat.le_trans hsz0 hLL) (fun h₅ h' tk E' x5 F5 k5 => ?_) rfl rfl rfl
    · rw [List.filterMap_cons, List.filterMap_cons] at hm
      rcases List.mem_cons.mp hm with z | hm
      · exact absurd (Heap.lt_size hb') (by rw [z]; exact Nat.not_lt.mpr (Nat.le_trans hsz0 hLL))
      rcases List.mem_cons.mp hm with z | hm
      · rw [z, nLh] at hb'; cases hb'
      · cases hm
    obtain ⟨y1, y2, y3, y4, dx, vs', od, t, y5, y6, y7, y8⟩ := x5.frames
    obtain ⟨oL, es, ep, hL, r⟩ := y3.ns hNsL
    have N5 : News h₀ _ h' ((L, oL) :: (led9 ++ rest)) := fun q hq => by
      rcases List.mem_cons.mp hq with rfl | hq
      · exact ⟨k5 _ _ (Nat.ne_of_lt (Nat.lt_of_lt_of_le hL1 hLL)) hL, Nat.ne_of_lt (Nat.lt_of_lt_of_le hL1 hLL), nLh⟩
      rcases List.mem_append.mp hq with hq | hq
      · have z := (y8 _ (.head _)).2.2 q hq
        refine ⟨k5 _ _ z (y2 q hq).1, z, ?_⟩
        cases zz : h₀.get? q.1 with
        | none => rfl
        | some o' => have := (y2 q hq).2; rw [st _ _ zz] at this; cases this
      · have z := hrest q hq
        have zl := Nat.ne_of_lt (Nat.lt_of_lt_of_le (Heap.lt_size z.1) hLL)
        refine ⟨k5 _ _ zl (y1 _ _ z.1 fun hm => ?_), zl, z.2.2⟩
        rw [List.filterMap_cons, List.filterMap_cons] at hm
        rcases List.mem_cons.mp hm with w1 | hm
        · exact zl w1
        rcases List.mem_cons.mp hm with w1 | hm
        · exact z.2.1 w1
        · cases hm
    have he' := k5 _ _ ((y8 _ (.head _)).2.1).symm y5
    have hd' := k5 _ _ ((y8 _ (.head _)).1).symm y6
    clear n9 x9 F' B' T1 X1
    walk_at "mine_go"
    unfold Stop
    obtain ⟨nm, q, bs, dd, k0, k1, k2, k3, k6, mN, hC, hNs, n1, n2, n3, n4, n5, n6⟩ := excClass (X.keeps F5.keep)
    obtain ⟨mA, hA1, hA2⟩ := y7 h' hd'
    refine load_exc (bmB := []) F.attrBase_Exception hC hNs n4 n5 n1 (by rw [typeLookup_type, builtinLookup_eq_fast]; kernel_rfl) he' hA1 hA2 rfl ?_
    dsimp only
    refine name_goes_keeps F5 N5 (fun h6 v6 F6 N6 => ?_)
    dsimp only
    rw [y9] at kQ
    have hL6 := (N6 _ (.head _)).1
    have keep6 : Fr h₀ L h6 m := ⟨⟨oL, es, ep, hL6, r⟩, F6.keep, habL⟩
    refine kQ _ _ led9 _ keep6 (fun q hq => ⟨(N6 q (.tail _ hq)).1, fun z => ?_, (N6 q (.tail _ hq)).2.2⟩) o9
    rcases List.mem_append.mp hq with hq | hq
    · exact (y8 _ (.tail _ (.head _))).2.2 q hq z
    · exact (hrest q hq).2.1 z
end Mine
namespace Mine

inductive PartsL (tl : List (Addr × Obj)) : List Value → List Part → Prop
  | nil : PartsL tl [] []
  | cons {a ob q vs qs} : (a, ob) ∈ tl → (∀ h : Heap, h.get? a = some ob → PartAt h a q) → q.ok → PartsL tl vs qs → PartsL tl (.ref a :: vs) (q :: qs)
theorem PartsL.app {tl : List (Addr × Obj)} {vs vs' : List Value} {qs qs' : List Part} (x : PartsL tl vs qs) (y : PartsL tl vs' qs') : PartsL tl (vs ++ vs') (qs ++ qs') := by
  induction x with
  | nil => exact y
  | cons a b c _ ih => exact .cons a b c ih
theorem PartsL.mono {tl tl' : List (Addr × Obj)} {vs : List Value} {qs : List Part} (x : PartsL tl vs qs) (k : ∀ p ∈ tl, p ∈ tl') : PartsL tl' vs qs := by
  induction x with
  | nil => exact .nil
  | cons a b c _ ih => exact .cons (k _ a) b c ih
theorem PartsL.at {h : Heap} {tl : List (Addr × Obj)} {vs : List Value} {qs : List Part} (x : PartsL tl vs qs) (k : ∀ p ∈ tl, h.get? p.1 = some p.2) : PartsAt h vs qs := by
  induction x with
  | nil => exact .nil
  | cons a b c _ ih => exact .cons (b h (k _ a)) c ih
theorem PartsL.length {tl : List (Addr × Obj)} {vs : List Value} {qs : List Part} (x : PartsL tl vs qs) : vs.length = qs.length := by
  induction x with
  | nil => rfl
  | cons a b c _ ih => simp [ih]

theorem ints_cons {v : Value} {vs : List Value} {ns : List Int} (h : IntsAre (v :: vs) ns) : ∃ n t r, v = .int n t ∧ ns = n :: r ∧ IntsAre vs r := by
  cases h with
  | cons => exact ⟨_, _, _, rfl, rfl, by assumption⟩

theorem PartAt.tup {h : Heap} {a : Addr} {q : Part} (x : PartAt h a q) : ∃ o, h.get? a = some o ∧ o.cls = .type "tuple" ∧ ∃ n vt, o.data = .seq vt n := by
  cases q <;> (first | (obtain ⟨_, _, o, h1, h2, n, h3⟩ := x; exact ⟨o, h1, h2, n, _, h3⟩) | (obtain ⟨_, o, h1, h2, n, h3⟩ := x; exact ⟨o, h1, h2, n, _, h3⟩))

theorem comp_parts {w : World} {A A₀ : Around} {base h₀ : Heap} {mean : ExcName → Option Value} {mg mb : Str → Option Value} {s : Shared} {L a : Addr} {cn : Str} {cs : Scope} {ccd : Value} {Q : Flow → Shared → Prop} {E : Value → Shared → Prop} {np np2 cpos px pos py spos : Pos} {iter : Expr} {scope : Scope} {y : Str}
    (hsw : swapsWith (.ListComp (.Call (.Name (Str.ofString "_law_part") np) [.Name (Str.ofString "number") np2] [] cpos) [⟨.Name (Str.ofString "number") px, iter, [], 0⟩] scope pos) (some (.Name y py)) spos.line (envOf cn cs L a ccd) = pure true) (hy : (envOf cn cs L a ccd).kindOf y = some .local) (hp : ((envOf cn cs L a ccd).scope.kind == .class || ((envOf cn cs L a ccd).scope.kind == .module && (envOf cn cs L a ccd).locals != (envOf cn cs L a ccd).globals)) = false)
    (hh : A.handled = none) (hA : A.frames = some [envOf cn cs L a ccd]) (B : Below A₀ base [] h₀) (X : (hd02.heap_39 w.params).In h₀) (T : TopW' mean mg mb h₀) (hdp : A.depth ≤ 800) (hun : A.units ≤ 9 * 800) (hck : cs.kind = .function)
    (hfree : ∀ y ∈ scope.names, y.2 ≠ .free) (hcell : ∀ y ∈ scope.names, y.2 ≠ .cell) (hkind : scope.kind = .function) (hnames : ∀ y ∈ scope.names, y.2 = .local → scope.names.lookup y.1 = some .local)
    (hx : scope.names.lookup (Str.ofString "number") = some .local) (hf : scope.names.lookup (Str.ofString "_law_part") = some .globalImplicit)
    (h : wpAny (model PROG w) A (eval iter (envOf cn cs L a ccd)) (fun xv s₁ => ∃ ax vs ns m news, xv = .ref ax ∧ Fr h₀ L s₁.heap m ∧ News h₀ L s₁.heap news ∧ (∀ h, News h₀ L h news → h.IsList ax vs.toArray) ∧ IntsAre vs ns ∧ (∀ n ∈ ns, 0 ≤ n) ∧ vs.length ≤ 100 ∧
      ∀ D h' tk accs qs tl k, Fr h₀ L h' (fun z => if z = y then some (.ref D) else m z) → News h₀ L h' ((D, W.listOf accs.toArray k) :: (tl ++ news)) → PartsL tl accs qs → accs.length = vs.length → Q .next { s₁ with heap := h', toks := tk }) E s)
    (hs : ∀ x, foldedSetIterable iter (envOf cn cs L a ccd) x = pure x := by intro _; rfl) :
    wpAny (model PROG w) A (exec (.Assign [.Name y py] (.ListComp (.Call (.Name (Str.ofString "_law_part") np) [.Name (Str.ofString "number") np2] [] cpos) [⟨.Name (Str.ofString "number") px, iter, [], 0⟩] scope pos) spos) (envOf cn cs L a ccd)) Q E s := by
  rw [exec_Assign_Name_used _ _ _ _ hsw]
  refine wpAny_bind (wpAny_standAt (wpAny_bind ?_))
  show wpAny _ A (do let _ ← comprehension (.ListComp (.Call (.Name (Str.ofString "_law_part") np) [.Name (Str.ofString "number") np2] [] cpos) [⟨.Name (Str.ofString "number") px, iter, [], 0⟩] scope pos) scope (envOf cn cs L a ccd) _ (newList []) false (eval iter (envOf cn cs L a ccd)) (some (assign (.Name y py) (envOf cn cs L a ccd)))) _ _ s
  refine wpAny_bind (wpAny_mono (wpAny_comprehension_use (Q := fun _ s' => Q .next s') rfl hs hfree hkind hnames (wpAny_mono h (fun xv s₁ h₁ => ?_) fun _ _ e => e))
    (fun _ s' hq => wpAny_pure (wpAny_pure hq)) fun _ _ e => e)
  obtain ⟨ax, vs, ns, m, news, rfl, F, N, hax, hI, hn0, hlen, hQ⟩ := h₁
  refine wpAny_pyIter_list (hax _ N) (wpAny_newObj_type (hd := by size_fits) (wpAny_newFunctionEnv hcell (by intro y hy; simp at hy) (fun h₁ hns₁ hsb₁ => ?_) hkind))
  dsimp only at hns₁ hsb₁ ⊢
  have F1 := F.push { cls := .type "list_iterator", data := .fields #[.ref ax, .int 0 0] }
  have N1 := News.push F N { cls := .type "list_iterator", data := .fields #[.ref ax, .int 0 0] }
  have hH1 := Heap.size_push s₁.heap { cls := .type "list_iterator", data := .fields #[.ref ax, .int 0 0] }
  have hlI : ∀ q ∈ news, q.1 < s₁.heap.objs.size := fun q hq => Heap.lt_size (N q hq).1
  have hLI := F.ns.lt
  generalize s₁.heap.push { cls := .type "list_iterator", data := .fields #[.ref ax, .int 0 0] } = H1 at *
  have F2 := F1.push { cls := .type "list", dict := none, data := .seq ([] : List Value).toArray }
  have N2 := News.push F1 N1 { cls := .type "list", dict := none, data := .seq ([] : List Value).toArray }
  have hH2 := Heap.size_push H1 { cls := .type "list", dict := none, data := .seq ([] : List Value).toArray }
  generalize H1.push { cls := .type "list", dict := none, data := .seq ([] : List Value).toArray } = H2 at *
  have hC0 : h₀.get? H2.objs.size = none := no_at F2
  have hD0 : h₀.get? H1.objs.size = none := no_at F1
  have hI0 : h₀.get? s₁.heap.objs.size = none := no_at F
  generalize hIe : s₁.heap.objs.size = I at *
  generalize hDe : H1.objs.size = D at *
  generalize hCe : H2.objs.size = C at *
  have hDI : D ≠ I := by rw [hH1]; exact Nat.succ_ne_self _
  have hCI : C ≠ I := by rw [hH2, hH1]; omega
  have hCD : C ≠ D := by rw [hH2]; exact Nat.succ_ne_self _
  have hLCI : I ≠ L ∧ D ≠ L ∧ C ≠ L := ⟨Nat.ne_of_gt hLI, by rw [hH1]; exact Nat.ne_of_gt (Nat.lt_succ_of_lt hLI), by rw [hH2, hH1]; exact Nat.ne_of_gt (Nat.lt_succ_of_lt (Nat.lt_succ_of_lt hLI))⟩
  have hoff : ∀ q ∈ news, q.1 ≠ I ∧ q.1 ≠ D ∧ q.1 ≠ C := fun q hq => by
    have := hlI q hq
    exact ⟨Nat.ne_of_lt this, by rw [hH1]; exact Nat.ne_of_lt (Nat.lt_succ_of_lt this), by rw [hH2, hH1]; exact Nat.ne_of_lt (Nat.lt_succ_of_lt (Nat.lt_succ_of_lt this))⟩
  have k3 : ∀ b o, b ≠ C → H2.get? b = some o → h₁.get? b = some o := fun b o hb e => hsb₁.extBut b o hb (Heap.get?_push_of_some _ e)
  have F3 : Fr h₀ L h₁ m := fr_of_but F2 hC0 hLCI.2.2 k3
  obtain ⟨oC, _, _, hoC, _⟩ := id hns₁
  have N3 : News h₀ L h₁ ((I, { cls := .type "list_iterator", data := .fields #[.ref ax, .int 0 0] }) :: (D, W.listOf #[] 0) :: (C, oC) :: ([] ++ news)) := fun q hq => by
    rcases List.mem_cons.mp hq with rfl | hq
    · exact ⟨k3 _ _ hCI.symm (N2 _ (.tail _ (.head _))).1, hLCI.1, hI0⟩
    rcases List.mem_cons.mp hq with rfl | hq
    · exact ⟨k3 _ _ hCD.symm (N2 _ (.head _)).1, hLCI.2.1, hD0⟩
    rcases List.mem_cons.mp hq with rfl | hq
    · exact ⟨hoC, hLCI.2.2, hC0⟩
    · exact ⟨k3 _ _ (hoff q hq).2.2 (N2 _ (.tail _ (.tail _ hq))).1, (N q hq).2⟩
  have hit : h₁.IsListIter I ax 0 := ⟨_, (N3 _ (.head _)).1, rfl, rfl⟩
  clear N2 F2 N1 F1 hsb₁ hoC
  have loop : ∀ R : Result → Shared → Prop, (∀ f s', wpAny (model PROG w) A (assign (.Name y py) (envOf cn cs L a ccd) (.ref D)) (fun _ s'' => ∃ m, s''.heap.Ns C m ∧ ∀ h', Heap.SameBut C s''.heap h' → Q .next { s'' with heap := h' }) E s' → R (.ok f) s') → ∀ s₂ : Shared, s₂ = { s₁ with heap := h₁, toks := s₁.toks + ([] : List (Str × Value)).length } →
      codeAny (model PROG w) A (.compLoop (.ListComp (.Call (.Name (Str.ofString "_law_part") np) [.Name (Str.ofString "number") np2] [] cpos) [⟨.Name (Str.ofString "number") px, iter, [], 0⟩] scope pos) 0 (.ref I) (.ref D) (compEnv scope C (envOf cn cs L a ccd))) R s₂ := by
    intro R hR
    rintro s₂ rfl
    obtain ⟨Iv, hIv⟩ : ∃ Iv : Nat → Shared → Prop, ∀ n s', Iv n s' ↔ (∃ dn rest nr accs qs tl oi k oC mc h tk, s' = { s₁ with heap := h, toks := tk } ∧ vs = dn ++ rest ∧ n = rest.length ∧ IntsAre rest nr ∧ (∀ n ∈ nr, 0 ≤ n) ∧ accs.length = dn.length ∧ PartsL tl accs qs ∧ Fr h₀ L h m ∧ News h₀ L h ((I, oi) :: (D, W.listOf accs.toArray k) :: (C, oC) :: (tl ++ news)) ∧ h.IsListIter I ax dn.length ∧ h.Ns C mc ∧ ∀ q ∈ tl, q.1 ≠ I ∧ q.1 ≠ D ∧ q.1 ≠ C) := ⟨fun n s' => _, fun _ _ => Iff.rfl⟩
    refine codeAny_compLoop_list Iv (fun n s' hInv => ?_) vs.length ((hIv _ _).mpr ⟨[], vs, ns, [], [], [], _, 0, oC, _, h₁, _, rfl, rfl, rfl, hI, hn0, rfl, .nil, F3, N3, hit, hns₁, fun q hq => nomatch hq⟩)
    obtain ⟨dn, rest, nr, accs, qs, tl, oi, k, oC', mc, h, tk, rfl, hvs, rfl, hIr, hnr, hal, hP, F', N', hit', hns', hoff'⟩ := (hIv _ _).mp hInv
    clear hInv
    have Nn : News h₀ L h news := fun q hq => N' q (.tail _ (.tail _ (.tail _ (List.mem_append_right _ hq))))
    have hoffA : ∀ q ∈ tl ++ news, q.1 ≠ I ∧ q.1 ≠ D ∧ q.1 ≠ C := fun q hq => (List.mem_append.mp hq).elim (hoff' q) (hoff q)
    cases rest with
    | nil =>
      refine wpAny_pyNext_list_end hh hit' (hax _ Nn) (by rw [hvs]; simp) fun h' e => ?_
      have Fa : Fr h₀ L h' m := fr_of_but F' hI0 hLCI.1 fun b o hb q => e b o hb q
      have Na : News h₀ L h' ((D, W.listOf accs.toArray k) :: (C, oC') :: (tl ++ news)) := fun q hq => by
        rcases List.mem_cons.mp hq with rfl | hq
        · exact ⟨e _ _ hDI (N' _ (.tail _ (.head _))).1, (N' _ (.tail _ (.head _))).2⟩
        rcases List.mem_cons.mp hq with rfl | hq
        · exact ⟨e _ _ hCI (N' _ (.tail _ (.tail _ (.head _)))).1, (N' _ (.tail _ (.tail _ (.head _)))).2⟩
        · have z := N' q (.tail _ (.tail _ (.tail _ hq)))
          exact ⟨e _ _ (hoffA q hq).1 z.1, z.2⟩
      have hoC' := (N' (C, oC') (.tail _ (.tail _ (.head _)))).1
      refine hR _ _ ?_
      refine wpAny_assign_Name (wpAny_storeName_local hy Fa.ns (fun h₂ hn₂ hs₂ => ?_) hp)
      have Fb := Fa.set hn₂ hs₂
      have Nb := Na.set hs₂
      refine ⟨mc, ?_, fun h'' e2 => ?_⟩
      · obtain ⟨o, es, ep, h1, r⟩ := hns'
        rw [hoC'] at h1; obtain rfl := Option.some.inj h1
        exact ⟨oC', es, ep, (Nb _ (.tail _ (.head _))).1, r⟩
      · refine hQ D h'' _ accs qs tl k (fr_of_but Fb hC0 hLCI.2.2 fun b o hb q => e2.extBut b o hb q) (fun q hq => ?_) hP (by rw [hal, hvs]; simp)
        rcases List.mem_cons.mp hq with rfl | hq
        · exact ⟨e2.extBut _ _ hCD.symm (Nb _ (.head _)).1, (Nb _ (.head _)).2⟩
        · have z := Nb q (.tail _ (.tail _ hq))
          exact ⟨e2.extBut _ _ (hoffA q hq).2.2 z.1, z.2⟩
    | cons v rest =>
      obtain ⟨n, tn, nr', rfl, rfl, hIr'⟩ := ints_cons hIr
      refine wpAny_pyNext_list_item hit' (hax _ Nn) (x := .int n tn) (by rw [hvs]; simp) fun h2 i2 e2 => ?_
      refine wpAny_assign_Name (wpAny_storeName_local (m := mc) hx (?_) (fun h3 hn3 hs3 => ?_) (by simp [compEnv, hkind]))
      · obtain ⟨o, es, ep, h1, r⟩ := hns'
        exact ⟨o, es, ep, e2.extBut _ _ hCI h1, r⟩
      have e3 : ∀ b o, b ≠ I → b ≠ C → h.get? b = some o → h3.get? b = some o := fun b o n1 n2 q => hs3.extBut _ _ n2 (e2.extBut _ _ n1 q)
      have F3' := fr_of_but2 F' hI0 hC0 hLCI.1 hLCI.2.2 e3
      obtain ⟨oi2, hoi2, hc2, hd2⟩ := i2
      obtain ⟨oC3, esC, epC, hoC3, rC⟩ := id hn3
      have N3' : News h₀ L h3 ([] ++ ((I, oi2) :: (D, W.listOf accs.toArray k) :: (C, oC3) :: (tl ++ news))) := fun q hq => by
        rcases List.mem_cons.mp hq with rfl | hq
        · exact ⟨hs3.extBut _ _ hCI.symm hoi2, hLCI.1, hI0⟩
        rcases List.mem_cons.mp hq with rfl | hq
        · exact ⟨e3 _ _ hDI hCD.symm (N' _ (.tail _ (.head _))).1, (N' _ (.tail _ (.head _))).2⟩
        rcases List.mem_cons.mp hq with rfl | hq
        · exact ⟨hoC3, hLCI.2.2, hC0⟩
        · have z := N' q (.tail _ (.tail _ (.tail _ hq)))
          exact ⟨e3 _ _ (hoffA q hq).1 (hoffA q hq).2.2 z.1, z.2⟩
      refine wpAny_Call_ofName (Calls.Name_function_global hkind hf (Calls.loadGlobal_global (mg := mg) (T.g.keeps F3'.keep) (mg_of X T.g (by k_is)) ?_))
      refine callWith_K X (by k_is) ?_
      walk1
      refine wpAny_Name (wpAny_loadName_local (env := compEnv scope C (envOf cn cs L a ccd)) hkind hx hn3 (if_pos rfl) ?_)
      iterate 3 (first | walk1 | (dsimp only; walk1) | skip)
      refine Spec.use (law_part_spec (hnr n (.head _))) hh hA B F3' X T N3' (fun _ _ _ hq => nomatch hq) hdp hun hck (fun v h' tk' led' F9 N9 o9 => ?_) fun _ _ _ _ _ _ _ z => z.elim
      obtain ⟨ta, ob, q, rfl, rfl, hqok, hPA⟩ := o9
      obtain ⟨ot, ho1, ho2, nn, vt, ho3⟩ := (hPA h' (N9 _ (.head _)).1).tup
      have gI := (N9 (I, oi2) (.tail _ (.head _))).1
      have gD := (N9 (D, W.listOf accs.toArray k) (.tail _ (.tail _ (.head _)))).1
      have gC := (N9 (C, oC3) (.tail _ (.tail _ (.tail _ (.head _))))).1
      have htI : ta ≠ I := fun z => by rw [z, gI] at ho1; obtain rfl := Option.some.inj ho1; rw [hc2] at ho2; injection ho2 with e; exact absurd e (by decide)
      have htD : ta ≠ D := fun z => by rw [z, gD] at ho1; obtain rfl := Option.some.inj ho1; have e : Value.type "list" = Value.type "tuple" := ho2; injection e with e; exact absurd e (by decide)
      have htC : ta ≠ C := fun z => by
        rw [z, gC] at ho1; obtain rfl := Option.some.inj ho1
        have r := rC.1; rw [ho3] at r; cases r
      refine wpAny_list_append_plain ⟨k, gD⟩ (fun h'' pl hs'' => ?_) (by rw [List.size_toArray, hal]; rw [hvs] at hlen; simp at hlen; unfold sizeLine; omega)
      obtain ⟨k', gD'⟩ := pl
      rw [List.push_toArray] at gD'
      have F10 := fr_of_but F9 hD0 hLCI.2.1 fun b o hb e => hs''.extBut b o hb e
      refine ⟨rest.length, by simp, (hIv _ _).mpr ⟨dn ++ [.int n tn], rest, nr', accs ++ [.ref ta], qs ++ [q], (ta, ob) :: tl, oi2, k', oC3, (fun x => if x = Str.ofString "number" then some (Value.int n tn) else mc x), h'', _, rfl, by rw [hvs]; simp, rfl, hIr', fun n hn => hnr n (.tail _ hn), by simp [hal], PartsL.app (hP.mono fun p hp => .tail _ hp) (.cons (.head _) hPA hqok .nil), F10, fun q hq => ?_, ⟨oi2, hs''.extBut _ _ hDI.symm gI, hc2, ?_⟩, ?_, fun q hq => ?_⟩⟩
      · rcases List.mem_cons.mp hq with rfl | hq
        · exact ⟨hs''.extBut _ _ hDI.symm gI, hLCI.1, hI0⟩
        rcases List.mem_cons.mp hq with rfl | hq
        · exact ⟨gD', hLCI.2.1, hD0⟩
        rcases List.mem_cons.mp hq with rfl | hq
        · exact ⟨hs''.extBut _ _ hCD gC, hLCI.2.2, hC0⟩
        rcases List.mem_cons.mp hq with rfl | hq
        · exact ⟨hs''.extBut _ _ htD (N9 _ (.head _)).1, (N9 _ (.head _)).2⟩
        · have z := N9 q (.tail _ (.tail _ (.tail _ (.tail _ hq))))
          exact ⟨hs''.extBut _ _ (hoffA q hq).2.1 z.1, z.2⟩
      · rw [List.length_append, List.length_singleton]; exact hd2
      · exact ⟨oC3, esC, epC, hs''.extBut _ _ hCD gC, rC⟩
      · rcases List.mem_cons.mp hq with rfl | hq
        · exact ⟨htI, htD, htC⟩
        · exact hoff' q hq
  exact codeAny_compStart_list (loop _ (fun _ _ h => h) _ rfl) (wpAny_pyIter_listiter hit (loop _ (fun _ _ h => h) _ rfl))
end Mine
namespace Mine
theorem strs_at {vs us : List Value} {rows : List Str} (h : StrsAre vs rows) : StrsAre us rows → ∀ j (h1 : j < vs.length) (h2 : j < us.length), ∃ x t u, vs[j] = Value.str x t ∧ us[j] = Value.str x u := by
  induction h generalizing us with
  | nil => intro _ j h1; exact absurd h1 (Nat.not_lt_zero _)
  | cons y t _ ih =>
    intro h' j h1 h2
    cases h' with
    | cons _ u r =>
      cases j with
      | zero => exact ⟨y, t, u, rfl, rfl⟩
      | succ j => exact ih r j (Nat.lt_of_succ_lt_succ h1) (Nat.lt_of_succ_lt_succ h2)
theorem all_true (n : Nat) : (List.range n).all (fun _ => true) = true := by simp
section
variable {prog : Program} {w : World} {A : Around} {E : Value → Shared → Prop} {s : Shared}
theorem strs_eqAt {vs us : Array Value} {rows : List Str} (h : StrsAre vs.toList rows) (h' : StrsAre us.toList rows) (j : Nat) (h1 : j < vs.size) (h2 : j < us.size) : SeqAt.EqAt A.in1 s vs[j] us[j] true := by
  obtain ⟨x, t, u, e1, e2⟩ := strs_at h h' j (by simpa using h1) (by simpa using h2)
  rw [Array.getElem_toList] at e1 e2
  rw [e1, e2]
  have := SeqAt.EqAt.str_str (A := A.in1) (s := s) x t x u
  rwa [beq_self_eq_true] at this
theorem eq_strs {a b : Addr} {vs us : Array Value} {rows : List Str} {Q : Value → Shared → Prop} (hl : s.heap.IsList a vs) (hi : StrsAre vs.toList rows) (hl' : s.heap.IsList b us) (hi' : StrsAre us.toList rows) (hu : A.units < cLine)
    (h : Q (.bool true) s) : wpAny (model prog w) A (compareOp .Eq (.ref a) (.ref b)) Q E s := by
  have hs : vs.size = us.size := by
    have z1 := hi.len_eq
    have z2 := hi'.len_eq
    simp only [Array.length_toList] at z1 z2
    omega
  refine SeqAt.RcAt.lists (e := fun _ => true) hl hl' hs hu (fun j h1 h2 => strs_eqAt hi hi' j h1 h2) prog w E Q ?_
  rw [all_true]; exact h
theorem ne_strs {a b : Addr} {vs us : Array Value} {rows : List Str} {Q : Value → Shared → Prop} (hl : s.heap.IsList a vs) (hi : StrsAre vs.toList rows) (hl' : s.heap.IsList b us) (hi' : StrsAre us.toList rows) (hu : A.units < cLine)
    (h : Q (.bool false) s) : wpAny (model prog w) A (compareOp .NotEq (.ref a) (.ref b)) Q E s := by
  have hs : vs.size = us.size := by
    have z1 := hi.len_eq
    have z2 := hi'.len_eq
    simp only [Array.length_toList] at z1 z2
    omega
  refine SeqAt.RcNeAt.lists (e := fun _ => true) hl hl' hs hu (fun j h1 h2 => strs_eqAt hi hi' j h1 h2) prog w E Q ?_
  rw [all_true]; exact h
end
end Mine
namespace Mine
theorem runParts_append (z w : Int) : ∀ (xs ys : List Part) (s : PS) (e : Bool), runParts z w s e (xs ++ ys) = if (runParts z w s e xs).2.2 = true then runParts z w s e xs else runParts z w (runParts z w s e xs).1 (runParts z w s e xs).2.1 ys
  | [], ys, s, e => by simp [runParts]
  | q :: xs, ys, s, e => by
    match h : writePart s q z w with
    | none => simp only [List.cons_append, runParts, h, if_true]
    | some s' =>
      simp only [List.cons_append, runParts, h]
      exact runParts_append z w xs ys s' q.isText
theorem runParts_flag (z w : Int) (q : Part) (xs : List Part) (s : PS) (e e' : Bool) : (runParts z w s e (q :: xs)).1 = (runParts z w s e' (q :: xs)).1 ∧ (runParts z w s e (q :: xs)).2.2 = (runParts z w s e' (q :: xs)).2.2 ∧ ((runParts z w s e (q :: xs)).2.2 = false → (runParts z w s e (q :: xs)).2.1 = (runParts z w s e' (q :: xs)).2.1) := by
  match h : writePart s q z w with
  | none => simp [runParts, h]
  | some s' => simp [runParts, h]
def res (r : PS × Bool × Bool) : PS × Bool := if r.2.2 = true then (r.1, true) else if r.2.1 = true then (endRow r.1, false) else (r.1, false)
theorem writeParts_res (s : PS) (qs : List Part) (z w : Int) : writeParts s qs z w = res (runParts z w s true qs) := by
  unfold writeParts res
  rcases runParts z w s true qs with ⟨s', _ | _, _ | _⟩ <;> rfl
theorem glue_res (s : PS) (qs : List Part) (z w : Int) : writeParts s (qs ++ [.glue]) z w = ((runParts z w s true qs).1, (runParts z w s true qs).2.2) := by
  rw [writeParts_res, runParts_append]
  rcases runParts z w s true qs with ⟨s', e, _ | _⟩
  · simp [runParts, res, writePart, Part.isText]
  · simp [res]
-- the place of a writing that was cut at i: nothing refused yet
def At (z w : Int) (s0 : PS) (qs : List Part) (i : Nat) (S : PS) : Prop := ∃ e, runParts z w s0 true (qs.take i) = (S, e, false)
theorem At.zero (z w : Int) (s0 : PS) (qs : List Part) : At z w s0 qs 0 s0 := ⟨true, rfl⟩
theorem At.mid {z w : Int} {s0 S : PS} {qs : List Part} {i j : Nat} (h : At z w s0 qs i S) (hij : i < j) (hj : j ≤ qs.length) :
    (writeParts S ((qs.take j).drop i ++ [.glue]) z w).2 = false → At z w s0 qs j (writeParts S ((qs.take j).drop i ++ [.glue]) z w).1 := by
  obtain ⟨e, h⟩ := h
  rw [glue_res]
  dsimp only
  intro hr
  have hs : qs.take j = qs.take i ++ (qs.take j).drop i := by
    conv => lhs; rw [← List.take_append_drop i (qs.take j)]
    rw [List.take_take, Nat.min_eq_left (Nat.le_of_lt hij)]
  obtain ⟨q, xs, hx⟩ : ∃ q xs, (qs.take j).drop i = q :: xs := by
    cases hd : (qs.take j).drop i with
    | nil =>
      have := congrArg List.length hd
      rw [List.length_drop, List.length_take, List.length_nil] at this
      omega
    | cons q xs => exact ⟨q, xs, rfl⟩
  unfold At
  rw [hx] at hr hs ⊢
  rw [hs, runParts_append, h]
  simp only [Bool.false_eq_true, if_false]
  obtain ⟨f1, f2, f3⟩ := runParts_flag z w q xs S e true
  refine ⟨(runParts z w S e (q :: xs)).2.1, ?_⟩
  rw [← f1]
  rw [← f2] at hr
  rw [← hr]

theorem At.last {z w : Int} {s0 S : PS} {qs : List Part} {i : Nat} (h : At z w s0 qs i S) (hi : i < qs.length) : writeParts s0 qs z w = writeParts S (qs.drop i) z w := by
  obtain ⟨e, h⟩ := h
  rw [writeParts_res, writeParts_res]
  conv => lhs; rw [← List.take_append_drop i qs]
  rw [runParts_append, h]
  simp only [Bool.false_eq_true, if_false]
  obtain ⟨q, xs, hx⟩ : ∃ q xs, qs.drop i = q :: xs := by
    cases hd : qs.drop i with
    | nil =>
      have := congrArg List.length hd
      rw [List.length_drop, List.length_nil] at this
      omega
    | cons q xs => exact ⟨q, xs, rfl⟩
  rw [hx]
  obtain ⟨f1, f2, f3⟩ := runParts_flag z w q xs S e true
  unfold res
  rw [← f1, ← f2]
  by_cases hr : (runParts z w S e (q :: xs)).2.2 = true
  · rw [if_pos hr, if_pos hr]
  · rw [f3 (by simpa using hr)]
theorem At.stop {z w : Int} {s0 S : PS} {qs : List Part} {i j : Nat} (h : At z w s0 qs i S) (hij : i < j) (hj : j ≤ qs.length) (hr : (writeParts S ((qs.take j).drop i ++ [.glue]) z w).2 = true) :
    writeParts s0 qs z w = ((writeParts S ((qs.take j).drop i ++ [.glue]) z w).1, true) := by
  obtain ⟨e, h⟩ := h
  rw [glue_res] at hr ⊢
  dsimp only at hr ⊢
  have hs : qs = qs.take i ++ ((qs.take j).drop i ++ qs.drop j) := by
    conv => lhs; rw [← List.take_append_drop j qs]
    conv => lhs; lhs; rw [← List.take_append_drop i (qs.take j)]
    rw [List.take_take, Nat.min_eq_left (Nat.le_of_lt hij), List.append_assoc]
  obtain ⟨q, xs, hx⟩ : ∃ q xs, (qs.take j).drop i = q :: xs := by
    cases hd : (qs.take j).drop i with
    | nil =>
      have := congrArg List.length hd
      rw [List.length_drop, List.length_take, List.length_nil] at this
      omega
    | cons q xs => exact ⟨q, xs, rfl⟩
  rw [hx] at hr hs ⊢
  obtain ⟨f1, f2, f3⟩ := runParts_flag z w q xs S e true
  rw [writeParts_res]
  have h2 : runParts z w s0 true qs = runParts z w S e (q :: xs) := by
    have e1 : runParts z w s0 true qs = runParts z w s0 true (qs.take i ++ (q :: xs ++ qs.drop j)) := congrArg (runParts z w s0 true) hs
    rw [e1, runParts_append, h]
    simp only [Bool.false_eq_true, if_false]
    rw [runParts_append, if_pos (by rw [f2]; exact hr)]
  rw [h2]
  unfold res
  rw [if_pos (by rw [f2]; exact hr), f1]
end Mine
namespace Mine
theorem execs_mid2 {M : Model} {A : Around} {E : Value → Shared → Prop} {s : Shared} {env : Env} {st1 st2 : Stmt} {rest : List Stmt} {Q : Flow → Shared → Prop} (Mid : Shared → Prop)
    (h1 : wpAny M A (exec st1 env) (fun f s' => f = .next ∧ wpAny M A (exec st2 env) (fun f s'' => f = .next ∧ Mid s'') E s') E s) (h2 : ∀ s', Mid s' → wpAny M A (execs rest env) Q E s') : wpAny M A (execs (st1 :: st2 :: rest) env) Q E s :=
  execs_mid (fun s' => wpAny M A (exec st2 env) (fun f s'' => f = .next ∧ Mid s'') E s') h1 fun s' h => execs_mid Mid h h2

inductive M2 (h₀ : Heap) (L : Addr) (s s' : Shared) : Prop where
  | mk (m0 : Str → Option Value) (h : Heap) (tk : Nat) (D : Addr) (vs : List Value) (ns : List Int) (k : Nat) (width zone : Int) (tw tz : Tok) (e : s' = { s with heap := h, toks := tk }) (F : Fr h₀ L h (fun y => if y = Str.ofString "width" then some (.int width tw) else if y = Str.ofString "zone" then some (.int zone tz) else if y = Str.ofString "some" then some (.ref D) else m0 y)) (N : News h₀ L h [(D, W.listOf (List.toArray vs) k)]) (hI : IntsAre vs ns) (hn0 : ∀ n ∈ ns, 0 ≤ n) (hl0 : 3 ≤ ns.length) (hl1 : ns.length ≤ 13) (hw0 : 0 ≤ width) (hw1 : width ≤ 100) (hz0 : 2 ≤ zone) (hz1 : zone ≤ 9)
inductive M3 (h₀ : Heap) (L : Addr) (m0 : Str → Option Value) (s s' : Shared) : Prop where
  | mk (h : Heap) (tk : Nat) (D : Addr) (vs : List Value) (ns : List Int) (k : Nat) (width zone : Int) (tw tz : Tok) (PL : Addr) (pvs : List Value) (qs : List Part) (tl : List (Addr × Obj)) (kp : Nat) (e : s' = { s with heap := h, toks := tk }) (F : Fr h₀ L h (fun y => if y = Str.ofString "parts" then some (.ref PL) else if y = Str.ofString "width" then some (.int width tw) else if y = Str.ofString "zone" then some (.int zone tz) else if y = Str.ofString "some" then some (.ref D) else m0 y)) (N : News h₀ L h ((PL, W.listOf (List.toArray pvs) kp) :: (D, W.listOf (List.toArray vs) k) :: tl)) (hI : IntsAre vs ns) (hn0 : ∀ n ∈ ns, 0 ≤ n) (hl0 : 3 ≤ ns.length) (hl1 : ns.length ≤ 13) (hw0 : 0 ≤ width) (hw1 : width ≤ 100) (hz0 : 2 ≤ zone) (hz1 : zone ≤ 9) (hp : PartsL tl pvs qs) (hlen : pvs.length = ns.length)
theorem stage12 {M : Model} {A : Around} {E : Value → Shared → Prop} {s : Shared} {env : Env} {st1 st2 : Stmt} {rest : List Stmt} {Q : Flow → Shared → Prop} {h₀ : Heap} {L : Addr} {m0 : Str → Option Value} (F0 : Fr h₀ L s.heap m0)
    (h1 : ∀ E : Value → Shared → Prop, wpAny M A (exec st1 env) (fun f s' => f = .next ∧ wpAny M A (exec st2 env) (fun f s'' => f = .next ∧ M2 h₀ L s s'') E s') E s) (h2 : ∀ s', M2 h₀ L s s' → wpAny M A (execs rest env) Q E s') : wpAny M A (execs (st1 :: st2 :: rest) env) Q E s := execs_mid2 (M2 h₀ L s) (h1 _) h2
theorem stage3 {M : Model} {A : Around} {E : Value → Shared → Prop} {s2 : Shared} {env : Env} {st1 : Stmt} {rest : List Stmt} {Q : Flow → Shared → Prop} {h₀ : Heap} {L D : Addr} {m0 : Str → Option Value} {width zone : Int} {tw tz : Tok} (F2 : Fr h₀ L s2.heap (fun y => if y = Str.ofString "width" then some (.int width tw) else if y = Str.ofString "zone" then some (.int zone tz) else if y = Str.ofString "some" then some (.ref D) else m0 y))
    (h1 : ∀ E : Value → Shared → Prop, wpAny M A (exec st1 env) (fun f s' => f = .next ∧ M3 h₀ L m0 s2 s') E s2) (h2 : ∀ s', M3 h₀ L m0 s2 s' → wpAny M A (execs rest env) Q E s') : wpAny M A (execs (st1 :: rest) env) Q E s2 := execs_mid (M3 h₀ L m0 s2) (h1 _) h2
theorem b8 (x : Int) : 2 ≤ 2 + x.fmod 8 ∧ 2 + x.fmod 8 ≤ 9 := by
  have z1 := Int.fmod_nonneg_of_pos x (b := 8) (by decide)
  have z2 := Int.fmod_lt_of_pos x (b := 8) (by decide)
  omega
theorem b20 (x : Int) : 0 ≤ 4 + x.fmod 20 ∧ 4 + x.fmod 20 ≤ 100 := by
  have z1 := Int.fmod_nonneg_of_pos x (b := 20) (by decide)
  have z2 := Int.fmod_lt_of_pos x (b := 20) (by decide)
  omega
theorem news_third {h₀ h : Heap} {L : Addr} {a b c : Addr × Obj} {r : List (Addr × Obj)} (N : News h₀ L h (a :: b :: c :: r)) : News h₀ L h [c] := fun q hq => by
  obtain rfl := List.mem_singleton.mp hq
  exact N _ (.tail _ (.tail _ (.head _)))
section
variable {prog : Program} {w : World} {A : Around} {E : Value → Shared → Prop} {s : Shared}
theorem loop_tup {R : Result → Shared → Prop} {target : Expr} {body : List Stmt} {env : Env} {l : Addr} {vs : List Value} {h₀ : Heap} {m : Str → Option Value} {news : List (Addr × Obj)}
    (P : List Value → (Str → Option Value) → List (Addr × Obj) → Prop) (hh : A.handled = none) (F : Fr h₀ env.locals s.heap m) (N : News h₀ env.locals s.heap news) (h0 : P vs m news)
    (hL : ∀ rest m' news' h, P rest m' news' → Fr h₀ env.locals h m' → News h₀ env.locals h news' → h.IsTuple l vs.toArray)
    (step : ∀ it oi v rest m' news' h tk, (∀ q ∈ news, @LT.lt Nat _ q.1 it) → (∀ q ∈ news', q.1 ≠ it) → P (v :: rest) m' news' → Fr h₀ env.locals h m' → News h₀ env.locals h (news' ++ [(it, oi)]) →
      wpAny (model prog w) A (assign target env v) (fun _ s₂ => wpAny (model prog w) A (execs body env) (fun f s₃ => match f with
          | .next | .cont => ∃ m₃ news₃ h₃ tk₃, s₃ = { s with heap := h₃, toks := tk₃ } ∧ Fr h₀ env.locals h₃ m₃ ∧ News h₀ env.locals h₃ (news₃ ++ [(it, oi)]) ∧ P rest m₃ news₃ ∧ ∀ q ∈ news₃, q.1 ≠ it
          | .brk => R (.ok .next) s₃
          | .ret v => R (.ok (.ret v)) s₃) (notedBy (model prog w) A env fun e s' => R (.error e) s') s₂) (notedBy (model prog w) A env fun e s' => R (.error e) s') { s with heap := h, toks := tk })
    (fin : ∀ m' news' h tk, P [] m' news' → Fr h₀ env.locals h m' → News h₀ env.locals h news' → R (.ok .next) { s with heap := h, toks := tk })
    (ht : ∀ it v, letOwnedTupleGo target (.ref it) v = pure () := by intro _ _; rfl) :
    wpAny (model prog w) A (pyIter (.ref l)) (fun it s₂ => codeAny (model prog w) A (.forLoop target it body [] env) R s₂) E s := by
  have hl := hL _ _ _ _ h0 F N
  refine wpAny_pyIter_tuple hl ?_
  have hfr := next_is_new F
  have hLt := F.ns.lt
  have hlt : l ≠ s.heap.objs.size := by
    obtain ⟨o, ho, _⟩ := hl
    exact Nat.ne_of_lt (Heap.lt_size ho)
  have F1 := F.push { cls := .type "tuple_iterator", data := .fields #[.ref l, .int 0 0] }
  have NP := News.push F N { cls := .type "tuple_iterator", data := .fields #[.ref l, .int 0 0] }
  have N1 : News h₀ env.locals (s.heap.push { cls := .type "tuple_iterator", data := .fields #[.ref l, .int 0 0] }) (news ++ [(s.heap.objs.size, { cls := .type "tuple_iterator", data := .fields #[.ref l, .int 0 0] })]) := fun q hq => by
    rcases List.mem_append.mp hq with hq | hq
    · exact NP q (List.mem_cons_of_mem _ hq)
    · obtain rfl := List.mem_singleton.mp hq
      exact NP _ List.mem_cons_self
  have hI1 : (s.heap.push { cls := .type "tuple_iterator", data := .fields #[.ref l, .int 0 0] }).IsTupleIter s.heap.objs.size l 0 := ⟨_, Heap.get?_push_size _ rfl, rfl, rfl⟩
  have hne1 : ∀ q ∈ news, q.1 ≠ s.heap.objs.size := fun q hq => Nat.ne_of_lt (Heap.lt_size (N q hq).1)
  have hlt1 : ∀ q ∈ news, @LT.lt Nat _ q.1 s.heap.objs.size := fun q hq => Heap.lt_size (N q hq).1
  have hLne : s.heap.objs.size ≠ env.locals := Nat.ne_of_gt hLt
  clear NP
  generalize hit : s.heap.objs.size = it at *
  refine codeAny_forLoop (fun n s' => ∃ dn rest m' news' h tk oi, s' = { s with heap := h, toks := tk } ∧ vs = dn ++ rest ∧ n = rest.length ∧ (∀ q ∈ news', q.1 ≠ it) ∧ P rest m' news' ∧ Fr h₀ env.locals h m' ∧ News h₀ env.locals h (news' ++ [(it, oi)]) ∧ h.IsTupleIter it l dn.length) (fun n s' hI => ?_) vs.length ⟨[], vs, m, news, _, s.toks, _, rfl, rfl, rfl, hne1, h0, F1, N1, hI1⟩ (ht it)
  obtain ⟨dn, rest, m', news', h, tk, oi, rfl, hvs, rfl, hne, hP, F', N', hI⟩ := hI
  have N'' : News h₀ env.locals h news' := fun q hq => N' q (List.mem_append_left _ hq)
  have hl' := hL _ _ _ _ hP F' N''
  cases rest with
  | nil =>
    refine wpAny_pyNext_tuple_end hh hI hl' (by rw [hvs]; simp) fun h' e => ?_
    refine wpAny_execs_nil (fin m' news' h' tk hP (fr_of_but F' hfr hLne fun b o hb => e b o hb) fun q hq => ⟨e _ _ (hne q hq) (N'' q hq).1, (N'' q hq).2⟩)
  | cons v rest =>
    refine wpAny_pyNext_tuple_item hI hl' (x := v) (by rw [hvs]; simp) fun h' i' e => ?_
    have F2 := fr_of_but F' hfr hLne fun b o hb => e.extBut b o hb
    obtain ⟨oi', ho', hc', hd'⟩ := i'
    have N2 : News h₀ env.locals h' (news' ++ [(it, oi')]) := fun q hq => by
      rcases List.mem_append.mp hq with hq | hq
      · exact ⟨e.extBut _ _ (hne q hq) (N'' q hq).1, (N'' q hq).2⟩
      · obtain rfl := List.mem_singleton.mp hq
        exact ⟨ho', hLne, hfr⟩
    refine wpAny_mono (step it oi' v rest m' news' h' tk hlt1 hne hP F2 N2) (fun _ s₂ hs₂ => wpAny_mono hs₂ (fun f s₃ hf => ?_) fun _ _ x => x) fun _ _ x => x
    have fin' : (∃ m₃ news₃ h₃ tk₃, s₃ = { s with heap := h₃, toks := tk₃ } ∧ Fr h₀ env.locals h₃ m₃ ∧ News h₀ env.locals h₃ (news₃ ++ [(it, oi')]) ∧ P rest m₃ news₃ ∧ ∀ q ∈ news₃, q.1 ≠ it) → ∃ m, m < (v :: rest).length ∧ ∃ dn rest m' news' h tk oi, s₃ = { s with heap := h, toks := tk } ∧ vs = dn ++ rest ∧ m = rest.length ∧ (∀ q ∈ news', q.1 ≠ it) ∧ P rest m' news' ∧ Fr h₀ env.locals h m' ∧ News h₀ env.locals h (news' ++ [(it, oi)]) ∧ h.IsTupleIter it l dn.length := by
      rintro ⟨m₃, news₃, h₃, tk₃, rfl, F₃, N₃, hP₃, hne₃⟩
      refine ⟨rest.length, by simp, dn ++ [v], rest, m₃, news₃, h₃, tk₃, oi', rfl, by rw [hvs]; simp, rfl, hne₃, hP₃, F₃, N₃, ⟨oi', (N₃ (it, oi') (by simp)).1, hc', ?_⟩⟩
      rw [List.length_append, List.length_singleton]; exact hd'
    cases f with
    | next => exact fin' hf
    | cont => exact fin' hf
    | brk => exact hf
    | ret v => exact hf
end



theorem hap_of {d o : Nat} {rest led : List (Addr × Obj)} (h1 : ∀ q ∈ led, @LE.le Nat _ d q.1 ∧ @LE.le Nat _ q.1 o) (h2 : ∀ q ∈ rest, @LT.lt Nat _ q.1 d ∨ @LT.lt Nat _ o q.1) : ∀ q ∈ rest, ∀ q' ∈ led, q.1 ≠ q'.1 := fun q hq q' hq' e => by
  have z1 := h1 q' hq'
  have z2 := h2 q hq
  rw [e] at z2
  rcases z2 with z2 | z2
  · exact absurd z1.1 (Nat.not_le.mpr z2)
  · exact absurd z1.2 (Nat.not_le.mpr z2)
theorem pg_between {w : World} {d p o : Nat} {t1 t2 t3 : Tok} {row : Str} {its : Array Value} {k : Nat} (h1 : d < p) (h2 : p < o) : ∀ q ∈ pgLed w p d o t1 t2 t3 row its k, @LE.le Nat _ d q.1 ∧ @LE.le Nat _ q.1 o := fun q hq => by
  rcases List.mem_cons.mp hq with rfl | hq
  · exact ⟨Nat.le_of_lt h1, Nat.le_of_lt h2⟩
  rcases List.mem_cons.mp hq with rfl | hq
  · exact ⟨Nat.le_refl _, Nat.le_of_lt (Nat.lt_trans h1 h2)⟩
  obtain rfl := List.mem_singleton.mp hq
  exact ⟨Nat.le_of_lt (Nat.lt_trans h1 h2), Nat.le_refl _⟩
theorem allLt_mem {d : Nat} : ∀ {l : List (Addr × Obj)}, AllLt d l → ∀ q ∈ l, @LT.lt Nat _ q.1 d
  | [], _, _, hq => nomatch hq
  | p :: r, h, q, hq => by
    rcases List.mem_cons.mp hq with rfl | hq
    · exact h.1
    · exact allLt_mem h.2 q hq
theorem pg_first {h₀ h : Heap} {L : Addr} {x1 x2 x3 x4 a b c : Addr × Obj} {r : List (Addr × Obj)} (N : News h₀ L h (x1 :: x2 :: x3 :: x4 :: a :: b :: c :: r)) : News h₀ L h ([a, b, c] ++ (x1 :: x2 :: x3 :: x4 :: r)) := fun q hq => N q (by
  simp only [List.mem_cons, List.mem_append, List.not_mem_nil, or_false] at hq ⊢
  rcases hq with (h | h | h) | h | h | h | h | h <;> simp [h])
theorem pg_second {h₀ h : Heap} {L : Addr} {x1 x2 x3 x4 a b c a' b' c' : Addr × Obj} {r : List (Addr × Obj)} (N : News h₀ L h (x1 :: x2 :: x3 :: x4 :: a :: b :: c :: a' :: b' :: c' :: r)) : News h₀ L h ([a', b', c'] ++ (x1 :: x2 :: x3 :: x4 :: a :: b :: c :: r)) := fun q hq => N q (by
  simp only [List.mem_cons, List.mem_append, List.not_mem_nil, or_false] at hq ⊢
  rcases hq with (h | h | h) | h | h | h | h | h | h | h | h <;> simp [h])
theorem pg_back1 {h₀ h : Heap} {L : Addr} {x1 x2 x3 x4 a b c : Addr × Obj} {r : List (Addr × Obj)} (N : News h₀ L h ([a, b, c] ++ (x1 :: x2 :: x3 :: x4 :: r))) : News h₀ L h (x4 :: a :: b :: c :: r) := fun q hq => N q (by
  simp only [List.mem_cons, List.mem_append, List.not_mem_nil, or_false] at hq ⊢
  rcases hq with h | h | h | h | h <;> simp [h])
theorem pg_back2 {h₀ h : Heap} {L : Addr} {x1 x2 x3 x4 a b c a' b' c' : Addr × Obj} {r : List (Addr × Obj)} (N : News h₀ L h ([a', b', c'] ++ (x1 :: x2 :: x3 :: x4 :: a :: b :: c :: r))) : News h₀ L h (x4 :: a :: b :: c :: a' :: b' :: c' :: r) := fun q hq => N q (by
  simp only [List.mem_cons, List.mem_append, List.not_mem_nil, or_false] at hq ⊢
  rcases hq with h | h | h | h | h | h | h | h <;> simp [h])

theorem head_call {w : World} {A A₀ : Around} {base h₀ : Heap} {mean : ExcName → Option Value} {mg mb : Str → Option Value} {s : Shared} {L a : Addr} {m : Str → Option Value} {cn : Str} {cs : Scope} {ccd : Value} {Q E : Value → Shared → Prop} {d p o : Nat} {a1 a2 t tg tt tx tz tw : Tok} {its : Array Value} {k : Nat} {row X : Str} {rows : List Str} {lst ta tb : Addr} {rest : List (Addr × Obj)} {zone width : Int}
    (hh : A.handled = none) (hA : A.frames = some [envOf cn cs L a ccd]) (B : Below A₀ base [] h₀) (F : Fr h₀ L s.heap m) (KX : (hd02.heap_39 w.params).In h₀) (T : TopW' mean mg mb h₀)
    (N : News h₀ L s.heap (pgLed w p d o a1 a2 t row its k ++ ((lst, W.listOf #[Value.ref ta, Value.ref tb] 0) :: (tb, { cls := .type "tuple", data := .seq #[Value.str (Str.ofString "glue") tg] }) :: (ta, { cls := .type "tuple", data := .seq #[Value.str (Str.ofString "text") tt, .str X tx] }) :: rest)))
    (hap : ∀ q ∈ ((lst, W.listOf #[Value.ref ta, Value.ref tb] 0) :: (tb, { cls := .type "tuple", data := .seq #[Value.str (Str.ofString "glue") tg] }) :: (ta, { cls := .type "tuple", data := .seq #[Value.str (Str.ofString "text") tt, .str X tx] }) :: rest : List (Addr × Obj)), @LT.lt Nat _ q.1 d ∨ @LT.lt Nat _ o q.1)
    (hdp : A.depth ≤ 800) (hun : A.units ≤ 9 * 800) (hck : cs.kind = .function) (e1 : d < p) (e2 : p < o) (hS : StrsAre its.toList rows) (hr : rows.length ≤ 100) (hr2 : row.length ≤ 100) (hX : X.length ≤ 4) (hz0 : 2 ≤ zone) (hz1 : zone ≤ 9) (hw0 : 0 ≤ width) (hw1 : width ≤ 100)
    (kQ : ∀ h' tk' led', Fr h₀ L h' m → News h₀ L h' (led' ++ ((lst, W.listOf #[Value.ref ta, Value.ref tb] 0) :: (tb, { cls := .type "tuple", data := .seq #[Value.str (Str.ofString "glue") tg] }) :: (ta, { cls := .type "tuple", data := .seq #[Value.str (Str.ofString "text") tt, .str X tx] }) :: rest)) → PgOut w p d o a1 a2 (writeText (rows, row) X width) led' → Q .none { s with heap := h', toks := tk' }) :
    wpAny (model PROG w) A (call (.ref 114) [.ref p, .ref lst, .int zone tz, .int width tw]) Q E s := by
  refine SpecP.use (write_parts_spec (qs := [.text X, .glue]) (vs := [Value.ref ta, Value.ref tb]) (Nat.ne_of_gt e1) (Nat.ne_of_lt e2) (Nat.ne_of_lt (Nat.lt_trans e1 e2)) hS (by omega) (by omega) (Nat.le_of_ble_eq_true rfl) hz0 hz1 hw0 hw1) hh hA B F KX T N (hap_of (pg_between e1 e2) hap) (fun _ k => ⟨⟨_, k _ (.head _), rfl, _, rfl⟩, .cons ⟨_, _, _, k _ (.tail _ (.tail _ (.head _))), rfl, _, rfl⟩ (by show X.length ≤ 400; omega) (.cons ⟨_, _, k _ (.tail _ (.head _)), rfl, _, rfl⟩ trivial .nil)⟩) (by omega) (by omega) hck (fun v h' tk' led' F8 N8 o8 => ?_) fun e c h' tk' led' x n o => ?_
  · obtain ⟨rfl, _, o8⟩ := o8
    exact kQ _ _ _ F8 N8 o8
  · exact absurd o.2.1 (by show ¬ (false = true); decide)

theorem ne_swap1 {w : World} {p d o it : Addr} {t1 t2 t3 t3' : Tok} {row row' : Str} {its its' : Array Value} {k k' : Nat} {x : Addr × Obj} {R : List (Addr × Obj)} (h : ∀ q ∈ x :: (pgLed w p d o t1 t2 t3 row its k ++ R), q.1 ≠ it) : ∀ q ∈ x :: (pgLed w p d o t1 t2 t3' row' its' k' ++ R), q.1 ≠ it := fun q hq => by
  rcases List.mem_cons.mp hq with rfl | hq
  · exact h _ (.head _)
  rcases List.mem_append.mp hq with hq | hq
  · exact pg_ne (fun q hq => h q (.tail _ (List.mem_append_left _ hq))) q hq
  · exact h q (.tail _ (List.mem_append_right _ hq))
theorem ne_swap2 {w : World} {p d o it : Addr} {t1 t2 t3 t3' : Tok} {row row' : Str} {its its' : Array Value} {k k' : Nat} {x : Addr × Obj} {R P : List (Addr × Obj)} (h : ∀ q ∈ x :: (P ++ (pgLed w p d o t1 t2 t3 row its k ++ R)), q.1 ≠ it) : ∀ q ∈ x :: (P ++ (pgLed w p d o t1 t2 t3' row' its' k' ++ R)), q.1 ≠ it := fun q hq => by
  rcases List.mem_cons.mp hq with rfl | hq
  · exact h _ (.head _)
  rcases List.mem_append.mp hq with hq | hq
  · exact h q (.tail _ (List.mem_append_left _ hq))
  rcases List.mem_append.mp hq with hq | hq
  · exact pg_ne (fun q hq => h q (.tail _ (List.mem_append_right _ (List.mem_append_left _ hq)))) q hq
  · exact h q (.tail _ (List.mem_append_right _ (List.mem_append_right _ hq)))

structure Cst where
  (D : Addr) (vs : List Value) (ns : List Int) (k2 : Nat) (width zone : Int) (tw tz : Tok) (PL : Addr) (pvs : List Value) (qs : List Part) (tl : List (Addr × Obj)) (kp : Nat) (d1 p1 o1 d2 p2 o2 : Nat) (a1 a2 b1 b2 : Tok)
def Cst.rest (c : Cst) : List (Addr × Obj) := (c.PL, W.listOf c.pvs.toArray c.kp) :: (c.D, W.listOf c.vs.toArray c.k2) :: c.tl
def Cst.led (c : Cst) (w : World) (r1 r2 : Str) (t t' : Tok) (its its' : Array Value) (k k' : Nat) : List (Addr × Obj) := pgLed w c.p1 c.d1 c.o1 c.a1 c.a2 t r1 its k ++ (pgLed w c.p2 c.d2 c.o2 c.b1 c.b2 t' r2 its' k' ++ c.rest)
structure Cst.Ok (c : Cst) : Prop where
  (hI : IntsAre c.vs c.ns) (hn0 : ∀ n ∈ c.ns, 0 ≤ n) (hl0 : 3 ≤ c.ns.length) (hl1 : c.ns.length ≤ 13) (hw0 : 0 ≤ c.width) (hw1 : c.width ≤ 100) (hz0 : 2 ≤ c.zone) (hz1 : c.zone ≤ 9)
  (hp : PartsL c.tl c.pvs c.qs) (hlen : c.pvs.length = c.ns.length) (ord : c.d1 < c.p1 ∧ c.p1 < c.o1 ∧ c.o1 < c.d2 ∧ c.d2 < c.p2 ∧ c.p2 < c.o2) (low : @LT.lt Nat _ c.PL c.d1 ∧ @LT.lt Nat _ c.D c.d1 ∧ AllLt c.d1 c.tl)
def Cst.vars (c : Cst) (m0 : Str → Option Value) : Str → Option Value := fun y => if y = Str.ofString "whole" then some (.ref c.p1) else if y = Str.ofString "pieces" then some (.ref c.p2) else if y = Str.ofString "parts" then some (.ref c.PL) else if y = Str.ofString "width" then some (.int c.width c.tw) else if y = Str.ofString "zone" then some (.int c.zone c.tz) else if y = Str.ofString "some" then some (.ref c.D) else m0 y
inductive Cst.St (c : Cst) (w : World) (h₀ : Heap) (L : Addr) (m : Str → Option Value) (S1 S2 : PS) (h : Heap) : Prop where
  | mk (F : Fr h₀ L h m) (t t' : Tok) (its its' : Array Value) (k k' : Nat) (N : News h₀ L h (c.led w S1.2 S2.2 t t' its its' k k')) (hS : StrsAre its.toList S1.1) (hS' : StrsAre its'.toList S2.1)
def PS0 : PS := ([], Str.ofString "")
inductive M4 (w : World) (h₀ : Heap) (L : Addr) (m0 : Str → Option Value) (s s' : Shared) : Prop where
  | mk (h : Heap) (tk : Nat) (c : Cst) (e : s' = { s with heap := h, toks := tk }) (ok : c.Ok) (st : c.St w h₀ L (c.vars m0) PS0 PS0 h)
theorem stage4 {w : World} {A : Around} {E : Value → Shared → Prop} {s2 : Shared} {env : Env} {st1 : Stmt} {rest : List Stmt} {Q : Flow → Shared → Prop} {h₀ : Heap} {L D PL : Addr} {m0 : Str → Option Value} {width zone : Int} {tw tz : Tok} (F2 : Fr h₀ L s2.heap (fun y => if y = Str.ofString "parts" then some (.ref PL) else if y = Str.ofString "width" then some (.int width tw) else if y = Str.ofString "zone" then some (.int zone tz) else if y = Str.ofString "some" then some (.ref D) else m0 y))
    (h1 : ∀ E : Value → Shared → Prop, wpAny (model PROG w) A (exec st1 env) (fun f s' => f = .next ∧ M4 w h₀ L m0 s2 s') E s2) (h2 : ∀ s', M4 w h₀ L m0 s2 s' → wpAny (model PROG w) A (execs rest env) Q E s') : wpAny (model PROG w) A (execs (st1 :: rest) env) Q E s2 := execs_mid (M4 w h₀ L m0 s2) (h1 _) h2
theorem reorder {h₀ h : Heap} {L : Addr} {a l2 x2 d2 l1 x1 d1 : Addr × Obj} {r : List (Addr × Obj)} (N : News h₀ L h (a :: l2 :: x2 :: d2 :: l1 :: x1 :: d1 :: r)) : News h₀ L h (x1 :: d1 :: l1 :: x2 :: d2 :: l2 :: r) := fun q hq => N q (by
  simp only [List.mem_cons] at hq ⊢
  rcases hq with h | h | h | h | h | h | h <;> simp [h])
inductive M5 (w : World) (h₀ : Heap) (L : Addr) (m0 : Str → Option Value) (s s' : Shared) : Prop where
  | mk (h : Heap) (tk : Nat) (x : Str) (c : Cst) (e : s' = { s with heap := h, toks := tk }) (ok : c.Ok) (hx : x.length ≤ 4) (st : c.St w h₀ L (fun y => if y = Str.ofString "page" then some (.ref c.p2) else c.vars m0 y) (writeText PS0 x c.width) (writeText PS0 x c.width) h)
theorem stage5 {w : World} {A : Around} {E : Value → Shared → Prop} {s2 : Shared} {env : Env} {st1 : Stmt} {rest : List Stmt} {Q : Flow → Shared → Prop} {h₀ : Heap} {L : Addr} {m0 : Str → Option Value} {c : Cst} (F2 : Fr h₀ L s2.heap (c.vars m0))
    (h1 : ∀ E : Value → Shared → Prop, wpAny (model PROG w) A (exec st1 env) (fun f s' => f = .next ∧ M5 w h₀ L m0 s2 s') E s2) (h2 : ∀ s', M5 w h₀ L m0 s2 s' → wpAny (model PROG w) A (execs rest env) Q E s') : wpAny (model PROG w) A (execs (st1 :: rest) env) Q E s2 := execs_mid (M5 w h₀ L m0 s2) (h1 _) h2
theorem stage6 {w : World} {A : Around} {E : Value → Shared → Prop} {s2 : Shared} {env : Env} {st1 : Stmt} {rest : List Stmt} {Q : Flow → Shared → Prop} {h₀ : Heap} {L : Addr} {m0 : Str → Option Value} {c : Cst} (F2 : Fr h₀ L s2.heap (fun y => if y = Str.ofString "page" then some (.ref c.p2) else c.vars m0 y))
    (h1 : ∀ E : Value → Shared → Prop, wpAny (model PROG w) A (exec st1 env) (fun f s' => f = .next ∧ M5 w h₀ L m0 s2 s') E s2) (h2 : ∀ s', M5 w h₀ L m0 s2 s' → wpAny (model PROG w) A (execs rest env) Q E s') : wpAny (model PROG w) A (execs (st1 :: rest) env) Q E s2 := execs_mid (M5 w h₀ L m0 s2) (h1 _) h2
inductive M7 (w : World) (h₀ : Heap) (L : Addr) (m0 : Str → Option Value) (s s' : Shared) : Prop where
  | mk (h : Heap) (tk : Nat) (x : Str) (c : Cst) (tr ta : Tok) (e : s' = { s with heap := h, toks := tk }) (ok : c.Ok) (hx : x.length ≤ 4) (st : c.St w h₀ L (fun y => if y = Str.ofString "at" then some (.int 0 ta) else if y = Str.ofString "refused" then some (.str (Str.ofString "") tr) else if y = Str.ofString "page" then some (.ref c.p2) else c.vars m0 y) (writeText PS0 x c.width) (writeText PS0 x c.width) h)
theorem stage7 {w : World} {A : Around} {E : Value → Shared → Prop} {s2 : Shared} {env : Env} {st1 : Stmt} {rest : List Stmt} {Q : Flow → Shared → Prop} {h₀ : Heap} {L : Addr} {m0 : Str → Option Value} {c : Cst} (F2 : Fr h₀ L s2.heap (fun y => if y = Str.ofString "page" then some (.ref c.p2) else c.vars m0 y))
    (h1 : ∀ E : Value → Shared → Prop, wpAny (model PROG w) A (exec st1 env) (fun f s' => f = .next ∧ M7 w h₀ L m0 s2 s') E s2) (h2 : ∀ s', M7 w h₀ L m0 s2 s' → wpAny (model PROG w) A (execs rest env) Q E s') : wpAny (model PROG w) A (execs (st1 :: rest) env) Q E s2 := execs_mid (M7 w h₀ L m0 s2) (h1 _) h2
def Prog (z w : Int) (W0 : PS) (qs : List Part) (i : Nat) (S : PS) (r : Str) : Prop := (r = Str.ofString "" ∧ i < qs.length ∧ At z w W0 qs i S) ∨ (r = Str.ofString "" ∧ qs.length ≤ i ∧ writeParts W0 qs z w = (S, false)) ∨ (r = Str.ofString "FC" ∧ writeParts W0 qs z w = (S, true))
inductive M8 (w : World) (h₀ : Heap) (L : Addr) (m0 : Str → Option Value) (s s' : Shared) : Prop where
  | mk (h : Heap) (tk : Nat) (x : Str) (c : Cst) (S2 : PS) (r : Str) (tr : Tok) (va pe pl : Option Value) (e : s' = { s with heap := h, toks := tk }) (ok : c.Ok) (hx : x.length ≤ 4) (st : c.St w h₀ L (fun y => if y = Str.ofString "at" then va else if y = Str.ofString "refused" then some (.str r tr) else if y = Str.ofString "end" then pe else if y = Str.ofString "is_last" then pl else if y = Str.ofString "page" then some (.ref c.p2) else c.vars m0 y) (writeText PS0 x c.width) S2 h)
    (hres : (r = Str.ofString "" ∧ writeParts (writeText PS0 x c.width) c.qs c.zone c.width = (S2, false)) ∨ (r = Str.ofString "FC" ∧ writeParts (writeText PS0 x c.width) c.qs c.zone c.width = (S2, true))) (hb1 : S2.1.length ≤ 20000) (hb2 : S2.2.length ≤ 20000)
theorem stage8 {w : World} {A : Around} {E : Value → Shared → Prop} {s2 : Shared} {env : Env} {st1 : Stmt} {rest : List Stmt} {Q : Flow → Shared → Prop} {h₀ : Heap} {L : Addr} {m0 : Str → Option Value} {c : Cst} {tr ta : Tok} (F2 : Fr h₀ L s2.heap (fun y => if y = Str.ofString "at" then some (.int 0 ta) else if y = Str.ofString "refused" then some (.str (Str.ofString "") tr) else if y = Str.ofString "page" then some (.ref c.p2) else c.vars m0 y))
    (h1 : ∀ E : Value → Shared → Prop, wpAny (model PROG w) A (exec st1 env) (fun f s' => f = .next ∧ M8 w h₀ L m0 s2 s') E s2) (h2 : ∀ s', M8 w h₀ L m0 s2 s' → wpAny (model PROG w) A (execs rest env) Q E s') : wpAny (model PROG w) A (execs (st1 :: rest) env) Q E s2 := execs_mid (M8 w h₀ L m0 s2) (h1 _) h2
theorem some_ok {ws : List Value} {l : List Int} {x : Int} (hI : IntsAre ws (List.map (fun k' : Int => if k' < 0 then -k' else k') (List.take 10 l) ++ [x, 5, 10])) (hx : 0 ≤ x) : (∀ n ∈ List.map (fun k' : Int => if k' < 0 then -k' else k') (List.take 10 l) ++ [x, 5, 10], (0 : Int) ≤ n) ∧ 3 ≤ (List.map (fun k' : Int => if k' < 0 then -k' else k') (List.take 10 l) ++ [x, 5, 10]).length ∧ (List.map (fun k' : Int => if k' < 0 then -k' else k') (List.take 10 l) ++ [x, 5, 10]).length ≤ 13 := by
  refine ⟨fun n hn => ?_, ?_, ?_⟩
  · rcases List.mem_append.mp hn with hn | hn
    · obtain ⟨z, _, rfl⟩ := List.mem_map.mp hn
      split <;> omega
    · simp at hn
      omega
  · simp
  · simp; omega

section
variable {prog : Program} {w : World} {A : Around} {E : Value → Shared → Prop} {s : Shared} {h₀ : Heap} {L l a b : Addr} {m : Str → Option Value} {news : List (Addr × Obj)}
theorem len_own {vs : List Value} {n : Nat} {Q : Value → Shared → Prop} (hl : s.heap.IsList l vs.toArray) (hk : vs.length = n) (hz : n ≤ 16384) (h : Q (.int (n : Int) (s.toks + 1)) { s with toks := s.toks + 1 + 1 }) :
    wpAny (model prog w) A (call (.builtin "len") [.ref l]) Q E s := kun_lenL hl (by rw [List.size_toArray, hk]) (by omega) h
theorem pick_mid (vs : List Value) {i : Nat} {y : Int} (h0 : 0 ≤ y) : slicePick vs.toArray (some (i : Int)) (some y) none = ((vs.take y.toNat).drop i).toArray := by
  have e : sliceBounds (some (i : Int)) (some y) none vs.toArray.size = (((min i vs.toArray.size : Nat) : Int), ((min y.toNat vs.toArray.size : Nat) : Int), 1) := by
    simp only [sliceBounds, Option.getD_none, show (1 : Int) > 0 by decide, if_true, if_neg (show ¬ ((i : Int) < 0) by omega), if_neg (show ¬ (y < 0) by omega)]
    congr 1
    · omega
    · congr 1
      omega
  rw [kmk_pick_nat _ e, List.size_toArray, kmk_drop_min, List.drop_take]
  congr 1
  by_cases h1 : y.toNat ≤ vs.length
  · by_cases h2 : i ≤ vs.length
    · rw [Nat.min_eq_left h1, Nat.min_eq_left h2]
    · rw [List.drop_of_length_le (by omega), List.take_nil, List.take_nil]
  · rw [Nat.min_eq_right (by omega)]
    by_cases h2 : i ≤ vs.length
    · rw [Nat.min_eq_left h2, List.take_of_length_le (by simp), List.take_of_length_le (by simp; omega)]
    · rw [List.drop_of_length_le (by omega), List.take_nil, List.take_nil]
theorem slice_own {value slice : PySem.Expr} {vs : List Value} {n i : Nat} {y : Int} {t1 t2 : Tok} {Q : Value → Shared → Prop} (F : Fr h₀ L s.heap m) (N : News h₀ L s.heap news) (hl : s.heap.IsList l vs.toArray) (hk : vs.length = n) (hn : n ≤ 16384) (h0 : 0 ≤ y)
    (h : ∀ D h', Fr h₀ L h' m → News h₀ L h' ((D, W.listOf ((vs.take y.toNat).drop i).toArray 0) :: news) → (∀ p ∈ news, p.1 < D) → Q (.ref D) { s with heap := h' })
    (hs : subscripted slice false (.ref l) (.ref s.heap.objs.size) = operate [.ref s.heap.objs.size, .ref l] (getItem (.ref l) (.ref s.heap.objs.size))) (ht : ∀ r, letTemporaryGo value (.ref l) r = pure ()) :
    wpAny (model prog w) A (subscriptTail value slice (.ref l) (.ref s.heap.objs.size)) Q E { s with heap := s.heap.push { cls := .type "slice", data := .fields #[.int (i : Int) t1, .int y t2, .none] } } := by
  refine kmk_slice F N hl (.int _ _) (.int _ _) (fun D h' F' N' l1 => h D h' F' ?_ l1) hs ht (by rw [List.size_toArray]; unfold sizeLine; omega)
  rw [pick_mid vs h0] at N'
  exact N'
theorem add_own {vs ws : List Value} {Q : Value → Shared → Prop} (F : Fr h₀ L s.heap m) (N : News h₀ L s.heap news) (ha : s.heap.IsList a vs.toArray) (hb : s.heap.IsList b ws.toArray) (h1 : vs.length ≤ 16384) (h2 : ws.length ≤ 16384)
    (h : ∀ D h', Fr h₀ L h' m → News h₀ L h' ((D, W.listOf (vs ++ ws).toArray 0) :: news) → (∀ p ∈ news, p.1 < D) → Q (.ref D) { s with heap := h' }) : wpAny (model prog w) A (binaryOp .Add (.ref a) (.ref b)) Q E s :=
  kmk_add_lit F N ha hb rfl h (by simp only [sizeLine_eq]; omega)
end

theorem PartsL.take {tl : List (Addr × Obj)} {vs : List Value} {qs : List Part} (x : PartsL tl vs qs) : ∀ j, PartsL tl (vs.take j) (qs.take j) := by
  induction x with
  | nil => intro j; simpa using PartsL.nil
  | cons a b c _ ih => intro j; cases j with
    | zero => exact .nil
    | succ j => exact .cons a b c (ih j)
theorem PartsL.drop {tl : List (Addr × Obj)} {vs : List Value} {qs : List Part} (x : PartsL tl vs qs) : ∀ j, PartsL tl (vs.drop j) (qs.drop j) := by
  induction x with
  | nil => intro j; simpa using PartsL.nil
  | cons a b c d ih => intro j; cases j with
    | zero => exact .cons a b c d
    | succ j => exact ih j
theorem PartsL.oks {tl : List (Addr × Obj)} {vs : List Value} {qs : List Part} (x : PartsL tl vs qs) : ∀ q ∈ qs, q.ok := by
  induction x with
  | nil => intro q hq; cases hq
  | cons a b c d ih => intro q hq; rcases List.mem_cons.mp hq with rfl | hq
                       · exact c
                       · exact ih q hq
theorem runParts_len {z w : Int} (hz0 : 2 ≤ z) (hz1 : z ≤ 9) (hw0 : 0 ≤ w) : ∀ (qs : List Part) (s : PS) (e : Bool), (∀ q ∈ qs, q.ok) → (runParts z w s e qs).1.1.length ≤ s.1.length + 401 * qs.length ∧ (runParts z w s e qs).1.2.length ≤ s.2.length + 400 * qs.length
  | [], s, e, _ => by simp [runParts]
  | q :: qs, s, e, h => by
    match hw : writePart s q z w with
    | none => simp only [runParts, hw]; omega
    | some s' =>
      have h1 := writePart_len hw (h q (.head _)) hz0 hz1 hw0
      have h2 := runParts_len hz0 hz1 hw0 qs s' q.isText fun q hq => h q (.tail _ hq)
      simp only [runParts, hw, List.length_cons]
      omega
theorem writeParts_len {z w : Int} (hz0 : 2 ≤ z) (hz1 : z ≤ 9) (hw0 : 0 ≤ w) {qs : List Part} (s : PS) (h : ∀ q ∈ qs, q.ok) : (writeParts s qs z w).1.1.length ≤ s.1.length + 401 * qs.length + 1 ∧ (writeParts s qs z w).1.2.length ≤ s.2.length + 400 * qs.length := by
  have := runParts_len hz0 hz1 hw0 qs s true h
  have e0 : (Str.ofString "").length = 0 := by decide +kernel
  rw [writeParts_res]
  unfold res
  split
  · dsimp only; omega
  · split
    · simp only [endRow, List.length_append, List.length_singleton, e0]; omega
    · dsimp only; omega
theorem Prog.step {z w : Int} {W0 S : PS} {qs X : List Part} {i j : Nat} (hat : At z w W0 qs i S) (hlt : i < qs.length) (hij : i < j) (hX : (qs.length ≤ j ∧ X = (qs.take j).drop i ++ []) ∨ (j < qs.length ∧ X = (qs.take j).drop i ++ [.glue])) :
    Prog z w W0 qs j (writeParts S X z w).1 (if (writeParts S X z w).2 = true then Str.ofString "FC" else Str.ofString "") := by
  rcases hX with ⟨hj, rfl⟩ | ⟨hj, rfl⟩
  · rw [List.append_nil, List.take_of_length_le hj]
    have e := hat.last hlt
    by_cases hf : (writeParts S (qs.drop i) z w).2 = true
    · rw [if_pos hf]
      exact .inr (.inr ⟨rfl, by rw [e, ← hf]⟩)
    · rw [if_neg hf]
      exact .inr (.inl ⟨rfl, hj, by rw [e, ← Bool.eq_false_iff.mpr hf]⟩)
  · by_cases hf : (writeParts S ((qs.take j).drop i ++ [.glue]) z w).2 = true
    · rw [if_pos hf]
      exact .inr (.inr ⟨rfl, hat.stop hij (Nat.le_of_lt hj) hf⟩)
    · rw [if_neg hf]
      exact .inl ⟨rfl, hj, hat.mid hij (Nat.le_of_lt hj) (Bool.eq_false_iff.mpr hf)⟩

theorem piece_call {w : World} {A A₀ : Around} {base h₀ : Heap} {mean : ExcName → Option Value} {mg mb : Str → Option Value} {s : Shared} {L a : Addr} {m : Str → Option Value} {cn : Str} {cs : Scope} {ccd : Value} {Q E : Value → Shared → Prop} {d p o : Nat} {a1 a2 t tz tw : Tok} {its : Array Value} {k kx : Nat} {row : Str} {rows : List Str} {x : Addr} {vs : List Value} {qs : List Part} {xs P1 R : List (Addr × Obj)} {zone width : Int}
    (hh : A.handled = none) (hA : A.frames = some [envOf cn cs L a ccd]) (B : Below A₀ base [] h₀) (F : Fr h₀ L s.heap m) (KX : (hd02.heap_39 w.params).In h₀) (T : TopW' mean mg mb h₀)
    (N : News h₀ L s.heap (xs ++ (P1 ++ (pgLed w p d o a1 a2 t row its k ++ R)))) (hx : (x, W.listOf vs.toArray kx) ∈ xs) (hps : PartsL (xs ++ R) vs qs)
    (hxs : ∀ q ∈ xs, @LT.lt Nat _ o q.1) (hP1 : ∀ q ∈ P1, @LT.lt Nat _ q.1 d) (hR : ∀ q ∈ R, @LT.lt Nat _ q.1 d)
    (hdp : A.depth ≤ 820) (hun : A.units ≤ 9 * 820) (hck : cs.kind = .function) (e1 : d < p) (e2 : p < o) (hS : StrsAre its.toList rows) (hr : rows.length ≤ 20000) (hr2 : row.length ≤ 20000) (hn : qs.length ≤ 20) (hz0 : 2 ≤ zone) (hz1 : zone ≤ 9) (hw0 : 0 ≤ width) (hw1 : width ≤ 100)
    (kQ : ∀ h' tk' t' its' k' tr, Fr h₀ L h' m → News h₀ L h' (P1 ++ (pgLed w p d o a1 a2 t' (writeParts (rows, row) qs zone width).1.2 its' k' ++ R)) → StrsAre its'.toList (writeParts (rows, row) qs zone width).1.1 → Q (.str (if (writeParts (rows, row) qs zone width).2 = true then Str.ofString "FC" else Str.ofString "") tr) { s with heap := h', toks := tk' }) :
    wpAny (model PROG w) A (call (.ref 142) [.ref p, .ref x, .int zone tz, .int width tw]) Q E s := by
  have mem : ∀ {b : Addr × Obj} {l1 l2 l3 l4 : List (Addr × Obj)}, b ∈ l3 ++ (l1 ++ l2 ++ l4) ↔ b ∈ l1 ++ (l2 ++ (l3 ++ l4)) := by
    intro b l1 l2 l3 l4
    simp only [List.mem_append]
    constructor
    · rintro (h | (h | h) | h) <;> simp [h]
    · rintro (h | h | h | h) <;> simp [h]
  refine tried_use (rest := xs ++ P1 ++ R) (Nat.ne_of_gt e1) (Nat.ne_of_lt e2) (Nat.ne_of_lt (Nat.lt_trans e1 e2)) hS hr hr2 hn hz0 hz1 hw0 hw1 hh hA B F KX T (fun q hq => N q (mem.mp hq)) (hap_of (pg_between e1 e2) fun q hq => ?_) (fun _ kk => ⟨⟨_, kk _ (List.mem_append_left _ (List.mem_append_left _ hx)), rfl, _, rfl⟩, hps.at fun q hq => ?_⟩) hdp hun hck (fun h' tk' led' tr F8 N8 o8 => ?_)
  · rcases List.mem_append.mp hq with hq | hq
    · rcases List.mem_append.mp hq with hq | hq
      · exact .inr (hxs q hq)
      · exact .inl (hP1 q hq)
    · exact .inl (hR q hq)
  · rcases List.mem_append.mp hq with hq | hq
    · exact kk q (List.mem_append_left _ (List.mem_append_left _ hq))
    · exact kk q (List.mem_append_right _ hq)
  · obtain ⟨t9, k9, its9, rfl, S9⟩ := o8
    exact kQ h' tk' t9 its9 k9 tr F8 (fun q hq => N8 q (mem.mpr (List.mem_append_right _ hq))) S9

theorem piece_last {w : World} {A A₀ : Around} {base h₀ : Heap} {mean : ExcName → Option Value} {mg mb : Str → Option Value} {s : Shared} {L a : Addr} {m : Str → Option Value} {cn : Str} {cs : Scope} {ccd : Value} {Q E : Value → Shared → Prop} {d p o : Nat} {a1 a2 t tz tw : Tok} {its : Array Value} {k kx : Nat} {row : Str} {rows : List Str} {x : Addr} {X1 X2 : Addr × Obj} {vs : List Value} {qs X : List Part} {P1 R : List (Addr × Obj)} {zone width : Int}
    (hh : A.handled = none) (hA : A.frames = some [envOf cn cs L a ccd]) (B : Below A₀ base [] h₀) (F : Fr h₀ L s.heap m) (KX : (hd02.heap_39 w.params).In h₀) (T : TopW' mean mg mb h₀)
    (N : News h₀ L s.heap ((x, W.listOf (vs ++ []).toArray kx) :: X1 :: X2 :: (P1 ++ (pgLed w p d o a1 a2 t row its k ++ R)))) (hps : PartsL R vs qs) (hXe : qs ++ [] = X)
    (ho : @LT.lt Nat _ o x ∧ @LT.lt Nat _ o X1.1 ∧ @LT.lt Nat _ o X2.1) (hP1 : ∀ q ∈ P1, @LT.lt Nat _ q.1 d) (hR : ∀ q ∈ R, @LT.lt Nat _ q.1 d)
    (hdp : A.depth ≤ 820) (hun : A.units ≤ 9 * 820) (hck : cs.kind = .function) (e1 : d < p) (e2 : p < o) (hS : StrsAre its.toList rows) (hr : rows.length ≤ 20000) (hr2 : row.length ≤ 20000) (hn : X.length ≤ 20) (hz0 : 2 ≤ zone) (hz1 : zone ≤ 9) (hw0 : 0 ≤ width) (hw1 : width ≤ 100)
    (kQ : ∀ h' tk' t' its' k' tr, Fr h₀ L h' m → News h₀ L h' (P1 ++ (pgLed w p d o a1 a2 t' (writeParts (rows, row) X zone width).1.2 its' k' ++ R)) → StrsAre its'.toList (writeParts (rows, row) X zone width).1.1 → Q (.str (if (writeParts (rows, row) X zone width).2 = true then Str.ofString "FC" else Str.ofString "") tr) { s with heap := h', toks := tk' }) :
    wpAny (model PROG w) A (call (.ref 142) [.ref p, .ref x, .int zone tz, .int width tw]) Q E s := by
  subst hXe
  obtain ⟨o1, o2, o3⟩ := ho
  exact piece_call (xs := [(x, W.listOf (vs ++ []).toArray kx), X1, X2]) hh hA B F KX T N (.head _) ((hps.mono fun q hq => List.mem_append_right _ hq).app .nil) (by
    intro q hq
    rcases List.mem_cons.mp hq with rfl | hq
    · exact o1
    rcases List.mem_cons.mp hq with rfl | hq
    · exact o2
    obtain rfl := List.mem_singleton.mp hq
    exact o3) hP1 hR hdp hun hck e1 e2 hS hr hr2 hn hz0 hz1 hw0 hw1 kQ

theorem piece_mid {w : World} {A A₀ : Around} {base h₀ : Heap} {mean : ExcName → Option Value} {mg mb : Str → Option Value} {s : Shared} {L a : Addr} {m : Str → Option Value} {cn : Str} {cs : Scope} {ccd : Value} {Q E : Value → Shared → Prop} {d p o : Nat} {a1 a2 t tz tw tg : Tok} {its : Array Value} {k kx : Nat} {row : Str} {rows : List Str} {x g : Addr} {X1 X2 : Addr × Obj} {vs : List Value} {qs X : List Part} {P1 R : List (Addr × Obj)} {zone width : Int}
    (hh : A.handled = none) (hA : A.frames = some [envOf cn cs L a ccd]) (B : Below A₀ base [] h₀) (F : Fr h₀ L s.heap m) (KX : (hd02.heap_39 w.params).In h₀) (T : TopW' mean mg mb h₀)
    (N : News h₀ L s.heap ((x, W.listOf (vs ++ [Value.ref g]).toArray kx) :: X1 :: (g, { cls := .type "tuple", data := .seq #[Value.str (Str.ofString "glue") tg] }) :: X2 :: (P1 ++ (pgLed w p d o a1 a2 t row its k ++ R)))) (hps : PartsL R vs qs) (hXe : qs ++ [.glue] = X)
    (ho : @LT.lt Nat _ o x ∧ @LT.lt Nat _ o X1.1 ∧ @LT.lt Nat _ o X2.1 ∧ @LT.lt Nat _ o g) (hP1 : ∀ q ∈ P1, @LT.lt Nat _ q.1 d) (hR : ∀ q ∈ R, @LT.lt Nat _ q.1 d)
    (hdp : A.depth ≤ 820) (hun : A.units ≤ 9 * 820) (hck : cs.kind = .function) (e1 : d < p) (e2 : p < o) (hS : StrsAre its.toList rows) (hr : rows.length ≤ 20000) (hr2 : row.length ≤ 20000) (hn : X.length ≤ 20) (hz0 : 2 ≤ zone) (hz1 : zone ≤ 9) (hw0 : 0 ≤ width) (hw1 : width ≤ 100)
    (kQ : ∀ h' tk' t' its' k' tr, Fr h₀ L h' m → News h₀ L h' (P1 ++ (pgLed w p d o a1 a2 t' (writeParts (rows, row) X zone width).1.2 its' k' ++ R)) → StrsAre its'.toList (writeParts (rows, row) X zone width).1.1 → Q (.str (if (writeParts (rows, row) X zone width).2 = true then Str.ofString "FC" else Str.ofString "") tr) { s with heap := h', toks := tk' }) :
    wpAny (model PROG w) A (call (.ref 142) [.ref p, .ref x, .int zone tz, .int width tw]) Q E s := by
  subst hXe
  obtain ⟨o1, o2, o3, o4⟩ := ho
  exact piece_call (xs := [(x, W.listOf (vs ++ [Value.ref g]).toArray kx), X1, (g, { cls := .type "tuple", data := .seq #[Value.str (Str.ofString "glue") tg] }), X2]) hh hA B F KX T N (.head _) ((hps.mono fun q hq => List.mem_append_right _ hq).app (.cons (q := .glue) (ob := { cls := .type "tuple", data := .seq #[Value.str (Str.ofString "glue") tg] }) (List.mem_append_left _ (.tail _ (.tail _ (.head _)))) (fun hx hg => ⟨_, _, hg, rfl, _, rfl⟩) trivial .nil)) (by
    intro q hq
    rcases List.mem_cons.mp hq with rfl | hq
    · exact o1
    rcases List.mem_cons.mp hq with rfl | hq
    · exact o2
    rcases List.mem_cons.mp hq with rfl | hq
    · exact o4
    obtain rfl := List.mem_singleton.mp hq
    exact o3) hP1 hR hdp hun hck e1 e2 hS hr hr2 hn hz0 hz1 hw0 hw1 kQ

theorem iter_vars {h₀ h : Heap} {L : Addr} {m : Str → Option Value} {va vr vl ve va' vr' vl' ve' : Option Value}
    (F : Fr h₀ L h (fun y => if y = Str.ofString "at" then va else if y = Str.ofString "refused" then vr else if y = Str.ofString "is_last" then vl else if y = Str.ofString "end" then ve else if y = Str.ofString "at" then va' else if y = Str.ofString "refused" then vr' else if y = Str.ofString "end" then ve' else if y = Str.ofString "is_last" then vl' else m y)) :
    Fr h₀ L h (fun y => if y = Str.ofString "at" then va else if y = Str.ofString "refused" then vr else if y = Str.ofString "end" then ve else if y = Str.ofString "is_last" then vl else m y) := frCongr F fun y => by
  by_cases hy1 : y = Str.ofString "at"
  · subst hy1; rfl
  by_cases hy2 : y = Str.ofString "refused"
  · subst hy2; rfl
  by_cases hy3 : y = Str.ofString "is_last"
  · subst hy3; rfl
  by_cases hy4 : y = Str.ofString "end"
  · subst hy4; rfl
  simp only [if_neg hy1, if_neg hy2, if_neg hy3, if_neg hy4]

inductive P5 (w : World) (m0 : Str → Option Value) (D : Addr) (vs : List Value) (k2 : Nat) (width zone : Int) (tw tz : Tok) (PL : Addr) (pvs : List Value) (tl : List (Addr × Obj)) (kp : Nat) (d1 p1 o1 d2 p2 o2 : Nat) (a1 a2 b1 b2 : Tok) (D9 : Addr) (x : Str) (rest : List Value) (m' : Str → Option Value) (news' : List (Addr × Obj)) : Prop where
  | mk (S1 S2 : PS) (pg : Option Value) (t t' : Tok) (its its' : Array Value) (k k' : Nat)
    (hcase : (rest = [Value.ref p1, .ref p2] ∧ S1 = PS0 ∧ S2 = PS0) ∨ (rest = [.ref p2] ∧ S1 = writeText PS0 x width ∧ S2 = PS0 ∧ pg = some (.ref p1)) ∨ (rest = [] ∧ S1 = writeText PS0 x width ∧ S2 = writeText PS0 x width ∧ pg = some (.ref p2)))
    (em : m' = fun y => if y = Str.ofString "page" then pg else if y = Str.ofString "whole" then some (.ref p1) else if y = Str.ofString "pieces" then some (.ref p2) else if y = Str.ofString "parts" then some (.ref PL) else if y = Str.ofString "width" then some (.int width tw) else if y = Str.ofString "zone" then some (.int zone tz) else if y = Str.ofString "some" then some (.ref D) else m0 y)
    (en : news' = (D9, { cls := .type "tuple", data := .seq #[Value.ref p1, Value.ref p2] }) :: (pgLed w p1 d1 o1 a1 a2 t S1.2 its k ++ (pgLed w p2 d2 o2 b1 b2 t' S2.2 its' k' ++ ((PL, W.listOf pvs.toArray kp) :: (D, W.listOf vs.toArray k2) :: tl)))) (hS1 : StrsAre its.toList S1.1) (hS2 : StrsAre its'.toList S2.1)
inductive I8 (w : World) (h₀ : Heap) (L : Addr) (m0 : Str → Option Value) (s : Shared) (c : Cst) (x : Str) (n : Nat) (s' : Shared) : Prop where
  | mk (h : Heap) (tk : Nat) (S2 : PS) (r : Str) (tr : Tok) (i : Nat) (ta : Tok) (pe pl : Option Value) (t t' : Tok) (its its' : Array Value) (k k' : Nat) (e : s' = { s with heap := h, toks := tk }) (hn : n = 20 - i) (hi : i ≤ 16)
    (F : Fr h₀ L h (fun y => if y = Str.ofString "at" then some (.int (i : Int) ta) else if y = Str.ofString "refused" then some (.str r tr) else if y = Str.ofString "end" then pe else if y = Str.ofString "is_last" then pl else if y = Str.ofString "page" then some (.ref c.p2) else c.vars m0 y))
    (N : News h₀ L h (c.led w (writeText PS0 x c.width).2 S2.2 t t' its its' k k')) (hS1 : StrsAre its.toList (writeText PS0 x c.width).1) (hS2 : StrsAre its'.toList S2.1)
    (hp : Prog c.zone c.width (writeText PS0 x c.width) c.qs i S2 r) (hb1 : S2.1.length ≤ 200 + 1000 * i) (hb2 : S2.2.length ≤ 200 + 1000 * i)
inductive M9 (w : World) (h₀ : Heap) (L : Addr) (m0 : Str → Option Value) (s s' : Shared) : Prop where
  | mk (h : Heap) (tk : Nat) (c : Cst) (S : PS) (r : Str) (tr : Tok) (va pe pl : Option Value) (e : s' = { s with heap := h, toks := tk }) (ok : c.Ok) (st : c.St w h₀ L (fun y => if y = Str.ofString "at" then va else if y = Str.ofString "refused" then some (.str r tr) else if y = Str.ofString "end" then pe else if y = Str.ofString "is_last" then pl else if y = Str.ofString "page" then some (.ref c.p2) else c.vars m0 y) S S h) (hb1 : S.1.length ≤ 20000) (hb2 : S.2.length ≤ 20000)
theorem stage9 {w : World} {A : Around} {E : Value → Shared → Prop} {s2 : Shared} {env : Env} {st1 : Stmt} {rest : List Stmt} {Q : Flow → Shared → Prop} {h₀ : Heap} {L : Addr} {m0 : Str → Option Value} {c : Cst} {va pe pl : Option Value} {r : Str} {tr : Tok} (F2 : Fr h₀ L s2.heap (fun y => if y = Str.ofString "at" then va else if y = Str.ofString "refused" then some (.str r tr) else if y = Str.ofString "end" then pe else if y = Str.ofString "is_last" then pl else if y = Str.ofString "page" then some (.ref c.p2) else c.vars m0 y))
    (h1 : ∀ E : Value → Shared → Prop, wpAny (model PROG w) A (exec st1 env) (fun f s' => f = .next ∧ M9 w h₀ L m0 s2 s') E s2) (h2 : ∀ s', M9 w h₀ L m0 s2 s' → wpAny (model PROG w) A (execs rest env) Q E s') : wpAny (model PROG w) A (execs (st1 :: rest) env) Q E s2 := execs_mid (M9 w h₀ L m0 s2) (h1 _) h2
theorem whole_call {w : World} {A A₀ : Around} {base h₀ : Heap} {mean : ExcName → Option Value} {mg mb : Str → Option Value} {s : Shared} {L a : Addr} {m : Str → Option Value} {cn : Str} {cs : Scope} {ccd : Value} {Q E : Value → Shared → Prop} {d p o : Nat} {a1 a2 t tz tw : Tok} {its : Array Value} {k kx : Nat} {row : Str} {rows : List Str} {x : Addr} {vs : List Value} {qs : List Part} {P1 R : List (Addr × Obj)} {zone width : Int}
    (hh : A.handled = none) (hA : A.frames = some [envOf cn cs L a ccd]) (B : Below A₀ base [] h₀) (F : Fr h₀ L s.heap m) (KX : (hd02.heap_39 w.params).In h₀) (T : TopW' mean mg mb h₀)
    (N : News h₀ L s.heap (pgLed w p d o a1 a2 t row its k ++ (P1 ++ ((x, W.listOf vs.toArray kx) :: R)))) (hps : PartsL R vs qs)
    (hP1 : ∀ q ∈ P1, @LT.lt Nat _ o q.1) (hx : @LT.lt Nat _ x d) (hR : ∀ q ∈ R, @LT.lt Nat _ q.1 d)
    (hdp : A.depth ≤ 820) (hun : A.units ≤ 9 * 820) (hck : cs.kind = .function) (e1 : d < p) (e2 : p < o) (hS : StrsAre its.toList rows) (hr : rows.length ≤ 20000) (hr2 : row.length ≤ 20000) (hn : qs.length ≤ 20) (hz0 : 2 ≤ zone) (hz1 : zone ≤ 9) (hw0 : 0 ≤ width) (hw1 : width ≤ 100)
    (kQ : ∀ h' tk' t' its' k' tr, Fr h₀ L h' m → News h₀ L h' (pgLed w p d o a1 a2 t' (writeParts (rows, row) qs zone width).1.2 its' k' ++ (P1 ++ ((x, W.listOf vs.toArray kx) :: R))) → StrsAre its'.toList (writeParts (rows, row) qs zone width).1.1 → Q (.str (if (writeParts (rows, row) qs zone width).2 = true then Str.ofString "FC" else Str.ofString "") tr) { s with heap := h', toks := tk' }) :
    wpAny (model PROG w) A (call (.ref 142) [.ref p, .ref x, .int zone tz, .int width tw]) Q E s := by
  refine tried_use (Nat.ne_of_gt e1) (Nat.ne_of_lt e2) (Nat.ne_of_lt (Nat.lt_trans e1 e2)) hS hr hr2 hn hz0 hz1 hw0 hw1 hh hA B F KX T N (hap_of (pg_between e1 e2) fun q hq => ?_) (fun _ kk => ⟨⟨_, kk _ (List.mem_append_right _ (.head _)), rfl, _, rfl⟩, hps.at fun q hq => kk q (List.mem_append_right _ (.tail _ hq))⟩) hdp hun hck (fun h' tk' led' tr F8 N8 o8 => ?_)
  · rcases List.mem_append.mp hq with hq | hq
    · exact .inr (hP1 q hq)
    rcases List.mem_cons.mp hq with rfl | hq
    · exact .inl hx
    · exact .inl (hR q hq)
  · obtain ⟨t9, k9, its9, rfl, S9⟩ := o8
    exact kQ h' tk' t9 its9 k9 tr F8 N8 S9

theorem Spec.use2 {w : World} {D : Nat} {f : Addr} {args : List Value} {led rest : List (Addr × Obj)} {Ok : Value → List (Addr × Obj) → Prop} (C : Spec w D f args led Ok fun _ _ => False)
    {A : Around} {outer : List Env} {A₀ : Around} {base h₀ : Heap} {mean : ExcName → Option Value} {mg mb : Str → Option Value} {s : Shared} {L a : Addr} {m : Str → Option Value} {cn : Str} {cs : Scope} {ccd : Value} {Q E : Value → Shared → Prop}
    (hh : A.handled = none) (hA : A.frames = some (envOf cn cs L a ccd :: outer)) (B : Below A₀ base outer h₀) (F : Fr h₀ L s.heap m) (X : (hd02.heap_39 w.params).In h₀) (T : TopW' mean mg mb h₀) (N : News h₀ L s.heap (led ++ rest)) (hap : ∀ q ∈ rest, ∀ q' ∈ led, q.1 ≠ q'.1)
    (hdp : A.depth ≤ D) (hun : A.units ≤ 9 * D) (hck : cs.kind = .function)
    (k : ∀ v h' tk' led', Fr h₀ L h' m → News h₀ L h' (led' ++ rest) → (∀ q ∈ rest, ∀ q' ∈ led', q.1 ≠ q'.1) → Ok v led' → Q v { s with heap := h', toks := tk' }) :
    wpAny (model PROG w) A (call (.ref f) args) Q E s := by
  obtain ⟨B', S', L', st⟩ := base_of (cn := cn) (a := a) (ccd := ccd) B F N hck
  have hr : ∀ q ∈ rest, (hideAll s.heap (led.map (·.1))).get? q.1 = some q.2 := fun q hq => hideAll_get _ (N q (List.mem_append_right _ hq)).1 fun z => by
    obtain ⟨p, hp, e⟩ := List.mem_map.mp z
    exact hap q hq p hp e.symm
  refine wpAny_call (C A (envOf cn cs L a ccd :: outer) _ base _ mean mg mb s _ hh hA B' (fun a o e => st _ _ (X a o e)) (T.keeps st) S' L' hdp hun (fun v h' tk' led' S D o => ?_) fun e c h' tk' led' x o => o.elim)
  obtain ⟨F', N'⟩ := back_of F N hap S D
  exact k v h' tk' led' F' N' (fun q hq q' hq' z => by
    have h1 := (D q' hq').2
    rw [← z, hr q hq] at h1; cases h1) o
end Mine
namespace Mine
inductive Late : Prop where
  | mk
local macro_rules | `(tactic| walk_at "mine_go") => `(tactic| (repeat' (first | (k_unfold; (try dsimp only)) | walk1 | (dsimp only; walk1))))
local macro_rules | `(tactic| walk_at "And") => `(tactic| refine Stop.intro ?_)
local macro_rules | `(tactic| walk_at "pyIter ref") => `(tactic| ((with_reducible rename Late => hLate9); refine Stop.intro ?_))
local macro_rules | `(tactic| walk_at "Exists") => `(tactic| ((with_reducible rename Late => hLate9); refine Stop.intro ?_))
local macro_rules | `(tactic| walk_at "call ref") => `(tactic| ((with_reducible rename Late => hLate9); ((with_reducible show wpAny _ _ (call (Value.ref _) _) _ _ _); refine Stop.intro ?_)))
local macro_rules | `(tactic| walk_at "compareOp NotEq ref ref") => `(tactic| ((with_reducible rename Late => hLate9); refine Stop.intro ?_))
local macro_rules | `(tactic| walk_at "compareOp Eq ref ref") => `(tactic| ((with_reducible rename Late => hLate9); refine Stop.intro ?_))
local macro_rules | `(tactic| walk_at "exec For") => `(tactic| refine Stop.intro ?_)
local macro_rules | `(tactic| walk_at "call builtin:len") => `(tactic| ((with_reducible rename Late => hLate9); (k_here; (with_reducible show wpAny _ _ (call (Value.builtin "len") [Value.ref _]) _ _ _); k_dflt (refine' len_own ?k1 ?k2 ?k3 ?_; (case k1 => exact News.isList (by k_asm) (by k_mem)); (case k2 => assumption); (case k3 => omega); k_whole))))
local macro_rules | `(tactic| walk_at "subscriptTail Name Slice ref ref") => `(tactic| ((with_reducible rename Late => hLate9); (k_here; (with_reducible show wpAny _ _ (subscriptTail _ (PySem.Expr.Slice _ _ none _) (Value.ref _) (Value.ref _)) _ _ _); k_dflt (refine' slice_own ?F ?N ?l ?k ?n ?y ?_ ?s ?t; (case F => k_asm); (case N => k_asm); (case l => exact News.isList (by k_asm) (by k_mem)); (case k => assumption); (case n => omega); (case y => first | omega | l_idx | (k_fmods; omega)); (case s => with_unfolding_all rfl); (case t => kmk_pure)); intro D' h' F' N' l1; (try k_lt l1); (try k_sweep))))
local macro_rules | `(tactic| walk_at "binaryOp Add ref ref") => `(tactic| ((with_reducible rename Late => hLate9); (k_here; (with_reducible show wpAny _ _ (binaryOp _ (Value.ref _) (Value.ref _)) _ _ _); k_dflt (refine' add_own ?F ?N ?a ?b ?h1 ?h2 ?_; (case F => k_asm); (case N => k_asm); (case a => exact News.isList (by k_asm) (by k_mem)); (case b => exact News.isList (by k_asm) (by k_mem)); (case h1 => ((try simp only [List.length_drop, List.length_take, List.length_cons, List.length_nil]); omega)); (case h2 => ((try simp only [List.length_drop, List.length_take, List.length_cons, List.length_nil]); omega))); intro D' h' F' N' l1; (try k_lt l1); (try k_sweep))))
theorem law02 : PySem.Challenge.rw_pq0159_02.Holds := hd02 (by
  k_go0
  dsimp only
  rename Top _ _ _ _ _ _ => T
  rename (hd02.heap_39 _).In _ => KX
  rename Below _ _ _ _ => K0
  rename Fr _ _ _ _ => F0
  refine stage12 F0 ?_ fun s2 hM2 => ?_
  · intro E
    walk_at "mine_go"
    unfold Stop
    refine ⟨by first | rfl | trivial, ?_⟩
    walk_at "mine_go"
    all_goals (
      unfold Stop
      refine ⟨by first | rfl | trivial, ?_⟩
      rename IntsAre _ (_ ++ _) => hI2
      rename Fr _ _ _ _ => F2
      rename News _ _ _ _ => N2
      obtain ⟨q1, q2, q3⟩ := some_ok hI2 (by omega)
      refine ⟨_, _, _, _, _, _, _, _, _, _, _, rfl, F2, news_third N2, hI2, q1, q2, q3, ?_, ?_, ?_, ?_⟩)
    all_goals (first | exact (b8 _).1 | exact (b8 _).2 | exact (b20 _).1 | exact (b20 _).2 | decide)
  obtain ⟨m0, h2, tk2, D, vs, ns, k2, width, zone, tw, tz, rfl, F2, N2, hI, hn0, hl0, hl1, hw0, hw1, hz0, hz1⟩ := hM2
  refine stage3 F2 ?_ fun s3 hM3 => ?_
  · intro E
    clear F0
    refine comp_parts rfl rfl rfl rfl rfl K0 KX T (Nat.le_of_ble_eq_true rfl) (Nat.le_of_ble_eq_true rfl) rfl (by decide) (by decide) rfl (by decide) rfl rfl ?_
    walk1
    refine ⟨D, vs, ns, _, _, rfl, F2, N2, fun h N => ⟨_, (N _ (.head _)).1, rfl, _, rfl⟩, hI, hn0, by rw [hI.length]; omega, fun PL h' tk accs qs tl k F9 N9 hp hlen => ?_⟩
    clear F2 N2
    have N9' : News _ _ h' ((PL, W.listOf accs.toArray k) :: (D, W.listOf vs.toArray k2) :: tl) := fun q hq => by
      rcases List.mem_cons.mp hq with rfl | hq
      · exact N9 _ (.head _)
      rcases List.mem_cons.mp hq with rfl | hq
      · exact N9 _ (.tail _ (List.mem_append_right _ (.head _)))
      · exact N9 _ (.tail _ (List.mem_append_left _ hq))
    clear N9
    exact ⟨rfl, h', _, D, vs, ns, k2, width, zone, tw, tz, PL, accs, qs, tl, k, rfl, F9, N9', hI, hn0, hl0, hl1, hw0, hw1, hz0, hz1, hp, by rw [hlen, hI.length]⟩
  clear F2 N2
  obtain ⟨h3, tk3, D, vs, ns, k2, width, zone, tw, tz, PL, pvs, qs, tl, kp, rfl, F3, N3, hI, hn0, hl0, hl1, hw0, hw1, hz0, hz1, hp, hlen⟩ := hM3
  refine stage4 F3 ?_ fun s4 hM4 => ?_
  · intro E
    walk_at "mine_go"
    unfold Stop
    refine ⟨by first | rfl | trivial, ?_⟩
    rename Fr _ _ _ _ => F9
    rename News _ _ _ _ => N9
    refine ⟨_, _, ⟨D, vs, ns, k2, width, zone, tw, tz, PL, pvs, qs, tl, kp, _, _, _, _, _, _, _, _, _, _⟩, rfl, ⟨hI, hn0, hl0, hl1, hw0, hw1, hz0, hz1, hp, hlen, ?_, ?_⟩, F9, _, _, #[], #[], _, _, reorder N9, .nil, .nil⟩
    · repeat (rename @LT.lt Nat _ _ _ ∧ _ => hc9; obtain ⟨_, _⟩ := hc9)
      exact ⟨by assumption, by assumption, by assumption, by assumption, by assumption⟩
    · repeat (rename @LT.lt Nat _ _ _ ∧ _ => hc9; obtain ⟨_, _⟩ := hc9)
      exact ⟨by assumption, by assumption, by assumption⟩
  clear F3 N3
  obtain ⟨h4, tk4, c, rfl, ok, F4, t, t', its, its', k, k', N4, hS, hS'⟩ := hM4
  have hLate : Late := .mk
  refine stage5 F4 ?_ fun s5 hM5 => ?_
  · intro E
    obtain ⟨D, vs, ns, k2, width, zone, tw, tz, PL, pvs, qs, tl, kp, d1, p1, o1, d2, p2, o2, a1, a2, b1, b2⟩ := c
    obtain ⟨hI, hn0, hl0, hl1, hw0, hw1, hz0, hz1, hp, hlen, ord, low⟩ := ok
    unfold Cst.led Cst.rest at N4
    unfold Cst.vars at F4
    dsimp only at F4 N4 hI hn0 hl0 hl1 hw0 hw1 hz0 hz1 hp hlen ord low
    obtain ⟨e1, e2, e3, e4, e5⟩ := ord
    have hp' := hp
    obtain ⟨f1, f2, f3⟩ := low
    simp only [pgLed, List.cons_append, List.nil_append] at N4
    refine wpAny_For ?_
    walk_at "mine_go"
    unfold Stop
    rename_i D9 h9 F9 N9 l9
    try clear F4 N4
    have g1 := Int.fmod_lt_of_pos (List.getD ns (Int.toNat 0) 0) (b := 5) (by decide)
    have hmk : MulOk (Str.ofString "a") (Int.fmod (List.getD ns (Int.toNat 0) 0) 5) := mulOk_of 1 4 (by decide +kernel) (by omega) (by have := Int.fmod_nonneg_of_pos (List.getD ns (Int.toNat 0) 0) (b := 5) (by decide); omega) (by decide) (by decide)
    have hml : (Txt.mul (Str.ofString "a") (Int.fmod (List.getD ns (Int.toNat 0) 0) 5)).length ≤ 1 * 4 := len_mul_leN (by decide +kernel) (by omega)
    have hwp : writeParts PS0 [.text (Txt.mul (Str.ofString "a") (Int.fmod (List.getD ns (Int.toNat 0) 0) 5)), .glue] zone width = (writeText PS0 (Txt.mul (Str.ofString "a") (Int.fmod (List.getD ns (Int.toNat 0) 0) 5)) width, false) := rfl
    obtain ⟨P, hPP⟩ : ∃ P : World → List Value → (Str → Option Value) → List (Addr × Obj) → Prop, ∀ w0 rest m' news', P w0 rest m' news' ↔ P5 w0 m0 D vs k2 width zone tw tz PL pvs tl kp d1 p1 o1 d2 p2 o2 a1 a2 b1 b2 D9 (Txt.mul (Str.ofString "a") (Int.fmod (List.getD ns (Int.toNat 0) 0) 5)) rest m' news' := ⟨fun _ _ _ _ => _, fun _ _ _ _ => Iff.rfl⟩
    refine loop_tup (vs := [.ref p1, .ref p2]) (P _)
      rfl (frCongr F9 ?_) N9 ((hPP _ _ _ _).mpr ⟨PS0, PS0, m0 (Str.ofString "page"), _, _, _, _, _, _, .inl ⟨rfl, rfl, rfl⟩, rfl, rfl, hS, hS'⟩) (fun rest m' news' h hp F N => ?_) ?_ ?_
    · intro y
      by_cases hy : y = Str.ofString "page"
      · subst hy; rfl
      · simp only [if_neg hy]
    · obtain ⟨S1, S2, pg, t, t', its, its', k, k', _, _, rfl, _⟩ := (hPP _ _ _ _).mp hp
      exact ⟨_, (N _ (.head _)).1, rfl, _, rfl⟩
    · intro it oi v rest m' news' h tk hlt hne hp F' N'
      obtain ⟨S1, S2, pg, t, t', its, its', k, k', hcase, rfl, rfl, hS1, hS2⟩ := (hPP _ _ _ _).mp hp
      clear F9 N9
      rcases hcase with ⟨hr, rfl, rfl⟩ | ⟨hr, rfl, rfl, rfl⟩ | ⟨hr, _⟩
      · injection hr with hv hr; subst hv hr
        simp only [pgLed, List.cons_append, List.nil_append] at N'
        walk_at "mine_go"
        unfold Stop
        rename Fr _ _ _ _ => F7
        rename News _ _ _ _ => N7
        refine ⟨KX.keeps F7.keep, ?_⟩
        have hit : @LT.lt Nat _ o2 it := hlt _ (.tail _ (.tail _ (.tail _ (.tail _ (.tail _ (.tail _ (.head _)))))))
        refine head_call rfl rfl K0 F7 KX T (pg_first N7) ?_ (Nat.le_of_ble_eq_true rfl) (Nat.le_of_ble_eq_true rfl) rfl e1 e2 hS1 (by decide) (by decide +kernel) hml hz0 hz1 hw0 hw1 (fun h' tk' led' F8 N8 o8 => ?_)
        · repeat (rename @LT.lt Nat _ _ _ ∧ _ => hc9; obtain ⟨_, _⟩ := hc9)
          iterate 9 refine List.forall_mem_cons.mpr ⟨by dsimp only; first | exact .inr (by assumption) | exact .inl (by assumption) | exact .inr (by omega) | exact .inl (by omega), ?_⟩
          refine List.forall_mem_append.mpr ⟨fun q hq => .inl ?_, fun q hq => .inr ?_⟩
          · exact allLt_mem f3 q hq
          · obtain rfl := List.mem_singleton.mp hq
            exact Nat.lt_trans (Nat.lt_trans e3 e4) (Nat.lt_trans e5 hit)
        · clear F7 N7
          obtain ⟨t9, k9, its9, rfl, S9⟩ := o8
          have N10 := pg_back1 N8
          clear N8
          walk_at "mine_go"
          unfold Stop
          refine ⟨_, _, _, _, rfl, (frCongr F8 (fun y => by
            by_cases hy : y = Str.ofString "page"
            · simp only [if_pos hy]
            · simp only [if_neg hy])), ?_, (hPP _ _ _ _).mpr ⟨writeText PS0 (Txt.mul (Str.ofString "a") (Int.fmod (List.getD ns (Int.toNat 0) 0) 5)) width, PS0, some (.ref p1), t9, t', its9, its', k9, k', .inr (.inl ⟨(by first | rfl | trivial), (by first | rfl | trivial), (by first | rfl | trivial), (by first | rfl | trivial)⟩), rfl, rfl, S9, hS2⟩, ne_swap1 hne⟩
          exact N10
      · injection hr with hv hr; subst hv hr
        simp only [pgLed, List.cons_append, List.nil_append] at N'
        walk_at "mine_go"
        unfold Stop
        rename Fr _ _ _ _ => F7
        rename News _ _ _ _ => N7
        refine ⟨KX.keeps F7.keep, ?_⟩
        have hit : @LT.lt Nat _ o2 it := hlt _ (.tail _ (.tail _ (.tail _ (.tail _ (.tail _ (.tail _ (.head _)))))))
        refine head_call rfl rfl K0 F7 KX T (pg_second N7) ?_ (Nat.le_of_ble_eq_true rfl) (Nat.le_of_ble_eq_true rfl) rfl e4 e5 hS2 (by decide) (by decide +kernel) hml hz0 hz1 hw0 hw1 (fun h' tk' led' F8 N8 o8 => ?_)
        · repeat (rename @LT.lt Nat _ _ _ ∧ _ => hc9; obtain ⟨_, _⟩ := hc9)
          iterate 9 refine List.forall_mem_cons.mpr ⟨by dsimp only; first | exact .inr (by assumption) | exact .inl (by assumption) | exact .inr (by omega) | exact .inl (by omega), ?_⟩
          refine List.forall_mem_append.mpr ⟨fun q hq => .inl ?_, fun q hq => .inr ?_⟩
          · exact Nat.lt_trans (allLt_mem f3 q hq) (Nat.lt_trans e1 (Nat.lt_trans e2 e3))
          · obtain rfl := List.mem_singleton.mp hq
            exact hit
        · clear F7 N7
          obtain ⟨t9, k9, its9, rfl, S9⟩ := o8
          have N10 := pg_back2 N8
          clear N8
          walk_at "mine_go"
          unfold Stop
          refine ⟨_, _, _, _, rfl, (frCongr F8 (fun y => by
            by_cases hy : y = Str.ofString "page"
            · simp only [if_pos hy]
            · simp only [if_neg hy])), ?_, (hPP _ _ _ _).mpr ⟨writeText PS0 (Txt.mul (Str.ofString "a") (Int.fmod (List.getD ns (Int.toNat 0) 0) 5)) width, writeText PS0 (Txt.mul (Str.ofString "a") (Int.fmod (List.getD ns (Int.toNat 0) 0) 5)) width, some (.ref p2), t, t9, its, its9, k, k9, .inr (.inr ⟨(by first | rfl | trivial), (by first | rfl | trivial), (by first | rfl | trivial), (by first | rfl | trivial)⟩), rfl, rfl, hS1, S9⟩, ne_swap2 hne⟩
          exact N10
      · cases hr
    · intro m' news' h tk hp F' N'
      obtain ⟨S1, S2, pg, t, t', its, its', k, k', hcase, rfl, rfl, hS1, hS2⟩ := (hPP _ _ _ _).mp hp
      rcases hcase with ⟨hr, _⟩ | ⟨hr, _⟩ | ⟨_, rfl, rfl, rfl⟩
      · cases hr
      · cases hr
      refine ⟨rfl, h, tk, _, ⟨D, vs, ns, k2, width, zone, tw, tz, PL, pvs, qs, tl, kp, d1, p1, o1, d2, p2, o2, a1, a2, b1, b2⟩, rfl, ⟨hI, hn0, hl0, hl1, hw0, hw1, hz0, hz1, hp', hlen, ⟨e1, e2, e3, e4, e5⟩, ⟨f1, f2, f3⟩⟩, hml, F', _, _, _, _, _, _, fun q hq => N' q (.tail _ hq), hS1, hS2⟩
  clear F4 N4
  obtain ⟨h5, tk5, x, c, rfl, ok, hx, F5, t, t', its, its', k, k', N5, hS, hS'⟩ := hM5
  refine stage6 F5 ?_ fun s6 hM6 => ?_
  · intro E
    obtain ⟨D, vs, ns, k2, width, zone, tw, tz, PL, pvs, qs, tl, kp, d1, p1, o1, d2, p2, o2, a1, a2, b1, b2⟩ := c
    obtain ⟨hI, hn0, hl0, hl1, hw0, hw1, hz0, hz1, hp, hlen, ord, low⟩ := ok
    have hwl := writeText_len PS0 x width
    unfold Cst.led Cst.rest at N5
    unfold Cst.vars at F5
    dsimp only at F5 N5 hI hn0 hl0 hl1 hw0 hw1 hz0 hz1 hp hlen ord low hS hS' hwl hx
    obtain ⟨e1, e2, e3, e4, e5⟩ := ord
    obtain ⟨f1, f2, f3⟩ := low
    simp only [pgLed, List.cons_append, List.nil_append] at N5
    generalize hSg : writeText PS0 x width = S at N5 hS hS' hwl
    obtain ⟨rows, row⟩ := S
    dsimp only at N5 hS hS' hwl
    have hsz := StrsAre.size hS
    have hsz' := StrsAre.size hS'
    have hp0 : Str.length PS0.2 = 0 := by decide +kernel
    have hp1 : PS0.1.length = 0 := rfl
    have hr100 : row.length ≤ 100 := by omega
    have hrs100 : rows.length ≤ 100 := by omega
    walk_at "mine_go"
    unfold Stop
    rename News _ _ _ _ => N9
    refine ne_strs ⟨_, (N9 _ (.tail _ (.tail _ (.head _)))).1, rfl, _, rfl⟩ hS ⟨_, (N9 _ (.tail _ (.tail _ (.tail _ (.tail _ (.tail _ (.head _))))))).1, rfl, _, rfl⟩ hS' (Nat.le_of_ble_eq_true rfl) ?_
    walk_at "mine_go"
    · rename (_ != _) = true => hbad
      simp at hbad
    unfold Stop
    rename Fr _ _ _ _ => F8
    rename News _ _ _ _ => N8
    refine ⟨KX.keeps F8.keep, ?_⟩
    refine Spec.use (column_of_spec (row := row) (its := its) (t3 := t) (t1 := a1) (t2 := a2) (k := k) (d := d1) (o := o1) (Nat.ne_of_gt e1) (Nat.ne_of_lt e2) (Nat.ne_of_lt (Nat.lt_trans e1 e2)) (by omega)) rfl rfl K0 F8 KX T N8 (hap_of (pg_between e1 e2) ?_) (Nat.le_of_ble_eq_true rfl) (Nat.le_of_ble_eq_true rfl) rfl (fun v h' tk' led' F9 N9 o9 => ?_) fun _ _ _ _ _ _ _ z => z.elim
    · iterate 5 refine List.forall_mem_cons.mpr ⟨by dsimp only; first | exact .inr (by assumption) | exact .inl (by assumption) | exact .inr (by omega) | exact .inl (by omega), ?_⟩
      exact fun q hq => .inl (allLt_mem f3 q hq)
    obtain ⟨rfl, tv, rfl⟩ := o9
    clear F8 N8
    simp only [pgLed, List.cons_append, List.nil_append] at N9
    walk_at "mine_go"
    · exfalso
      omega
    · unfold Stop
      rename Fr _ _ _ _ => F9
      rename News _ _ _ _ => N9
      refine ⟨by first | rfl | trivial, _, _, x, ⟨D, vs, ns, k2, width, zone, tw, tz, PL, pvs, qs, tl, kp, d1, p1, o1, d2, p2, o2, a1, a2, b1, b2⟩, rfl, ⟨hI, hn0, hl0, hl1, hw0, hw1, hz0, hz1, hp, hlen, ⟨e1, e2, e3, e4, e5⟩, ⟨f1, f2, f3⟩⟩, hx, ?_⟩
      dsimp only
      rw [hSg]
      exact ⟨F9, _, _, _, _, _, _, N9, hS, hS'⟩
  clear F5 N5
  obtain ⟨h6, tk6, x, c, rfl, ok, hx, F6, t, t', its, its', k, k', N6, hS, hS'⟩ := hM6
  refine stage7 F6 ?_ fun s7 hM7 => ?_
  · intro E
    obtain ⟨D, vs, ns, k2, width, zone, tw, tz, PL, pvs, qs, tl, kp, d1, p1, o1, d2, p2, o2, a1, a2, b1, b2⟩ := c
    obtain ⟨hI, hn0, hl0, hl1, hw0, hw1, hz0, hz1, hp, hlen, ord, low⟩ := ok
    unfold Cst.led Cst.rest at N6
    unfold Cst.vars at F6
    dsimp only at F6 N6 hI hn0 hl0 hl1 hw0 hw1 hz0 hz1 hp hlen ord low hS hS' hx
    simp only [pgLed, List.cons_append, List.nil_append] at N6
    walk_at "mine_go"
    unfold Stop
    rename Fr _ _ _ _ => F9
    rename News _ _ _ _ => N9
    exact ⟨by first | rfl | trivial, _, _, x, ⟨D, vs, ns, k2, width, zone, tw, tz, PL, pvs, qs, tl, kp, d1, p1, o1, d2, p2, o2, a1, a2, b1, b2⟩, _, _, rfl, ⟨hI, hn0, hl0, hl1, hw0, hw1, hz0, hz1, hp, hlen, ord, low⟩, hx, F9, _, _, _, _, _, _, fun q hq => N9 q (.tail _ hq), hS, hS'⟩
  clear F6 N6
  obtain ⟨h7, tk7, x, c, tr, ta, rfl, ok, hx, F7, t, t', its, its', k, k', N7, hS, hS'⟩ := hM7
  refine stage8 F7 ?_ fun s8 hM8 => ?_
  · intro E
    obtain ⟨D, vs, ns, k2, width, zone, tw, tz, PL, pvs, qs, tl, kp, d1, p1, o1, d2, p2, o2, a1, a2, b1, b2⟩ := c
    obtain ⟨hI, hn0, hl0, hl1, hw0, hw1, hz0, hz1, hp, hlen, ord, low⟩ := ok
    have hwl := writeText_len PS0 x width
    unfold Cst.led Cst.rest at N7
    unfold Cst.vars at F7
    dsimp only at F7 N7 hI hn0 hl0 hl1 hw0 hw1 hz0 hz1 hp hlen ord low hS hS' hx hwl
    obtain ⟨e1, e2, e3, e4, e5⟩ := ord
    obtain ⟨f1, f2, f3⟩ := low
    have hp0 : Str.length PS0.2 = 0 := by decide +kernel
    have hp1 : PS0.1.length = 0 := rfl
    have hqlen : qs.length = ns.length := by rw [← hp.length, hlen]
    obtain ⟨I, hInvI⟩ : ∃ I : World → Heap → Addr → Shared → Nat → Shared → Prop, ∀ w0 h₀ L s7 n s', I w0 h₀ L s7 n s' ↔ I8 w0 h₀ L m0 s7 ⟨D, vs, ns, k2, width, zone, tw, tz, PL, pvs, qs, tl, kp, d1, p1, o1, d2, p2, o2, a1, a2, b1, b2⟩ x n s' := ⟨fun w0 h₀ L s7 n s' => _, fun _ _ _ _ _ _ => Iff.rfl⟩
    refine wpAny_While (codeAny_whileLoop (I _ _ _ _) (fun n s' hInv => ?_) 20 ((hInvI _ _ _ _ _ _).mpr ⟨h7, tk7, writeText PS0 x width, Str.ofString "", tr, 0, ta, m0 (Str.ofString "end"), m0 (Str.ofString "is_last"), t, t', its, its', k, k', rfl, rfl, by first | omega | (dsimp only; omega), frCongr F7 (fun y => ?_), N7, hS, hS', .inl ⟨rfl, by first | omega | (dsimp only; omega), At.zero _ _ _ _⟩, by first | omega | (dsimp only; omega), by first | omega | (dsimp only; omega)⟩))
    · clear F7 N7
      obtain ⟨h8, tk8, S2, r, tr, i, ta, pe, pl, t, t', its, its', k, k', rfl, rfl, hi16, F8, N8, hS1, hS2, hprog, hb1, hb2⟩ := (hInvI _ _ _ _ _ _).mp hInv
      clear hInv
      unfold Cst.led Cst.rest at N8
      unfold Cst.vars at F8
      dsimp only at F8 N8 hS1 hS2 hprog hb1 hb2
      simp only [pgLed, List.cons_append, List.nil_append] at N8
      have hsz1 := StrsAre.size hS1
      have hsz2 := StrsAre.size hS2
      have hpl : pvs.length = qs.length := hp.length
      rcases hprog with ⟨rfl, hlt, hat⟩ | ⟨rfl, hge, hat⟩ | ⟨rfl, hat⟩
      · walk_at "mine_go"
        all_goals unfold Stop
        · rename Fr _ _ _ _ => F9
          rename News _ _ _ _ => N9
          rename _ ≤ (_ : Int) + 1 + Int.fmod _ 4 => hlast
          refine ⟨KX.keeps F9.keep, ?_⟩
          have hm0 := Int.fmod_nonneg_of_pos ((ns.getD (Int.toNat (i : Int)) 0).fdiv 7) (b := 4) (by decide)
          have hm1 := Int.fmod_lt_of_pos ((ns.getD (Int.toNat (i : Int)) 0).fdiv 7) (b := 4) (by decide)
          generalize hy : (i : Int) + 1 + ((ns.getD (Int.toNat (i : Int)) 0).fdiv 7).fmod 4 = y at F9 N9 hlast
          obtain ⟨j, rfl⟩ := Int.eq_ofNat_of_zero_le (show 0 ≤ y by omega)
          rw [Int.toNat_natCast] at N9
          have hij : i < j := by omega
          have hj16 : j ≤ 16 := by omega
          have hlast' : qs.length ≤ j := by omega
          have hps := (hp.take j).drop i |>.mono (tl' := (PL, W.listOf pvs.toArray kp) :: (D, W.listOf vs.toArray k2) :: tl) fun q hq => .tail _ (.tail _ hq)
          have hXl : ((qs.take j).drop i ++ []).length ≤ j - i + 1 := by simp only [List.length_append, List.length_drop, List.length_take, List.length_cons, List.length_nil]; omega
          have hXo : ∀ q ∈ (qs.take j).drop i ++ [], q.ok := fun q hq => (List.mem_append.mp hq).elim (hps.oks q) fun hq => nomatch hq
          generalize hX : (qs.take j).drop i ++ [] = X at hXl hXo
          have hlen9 := writeParts_len hz0 hz1 hw0 S2 hXo
          have hstep := Prog.step hat hlt hij (X := X) (.inl ⟨hlast', hX.symm⟩)
          refine piece_last (X := X) (P1 := pgLed _ p1 d1 o1 a1 a2 t (writeText PS0 x width).2 its k) rfl rfl K0 F9 KX T N9 hps hX (by (repeat (rename @LT.lt Nat _ _ _ ∧ _ => hc9; obtain ⟨_, _⟩ := hc9)); exact ⟨by assumption, by assumption, by assumption⟩) ?_ ?_ (Nat.le_of_ble_eq_true rfl) (Nat.le_of_ble_eq_true rfl) rfl e4 e5 hS2 (by omega) (by omega) (by omega) hz0 hz1 hw0 hw1 (fun h' tk' t9 its9 k9 tr9 F10 N10 S9 => ?_)
          · intro q hq
            exact Nat.lt_of_le_of_lt (pg_between e1 e2 q hq).2 e3
          · refine List.forall_mem_cons.mpr ⟨Nat.lt_trans f1 (Nat.lt_trans e1 (Nat.lt_trans e2 e3)), List.forall_mem_cons.mpr ⟨Nat.lt_trans f2 (Nat.lt_trans e1 (Nat.lt_trans e2 e3)), fun q hq => ?_⟩⟩
            exact Nat.lt_trans (allLt_mem f3 q hq) (Nat.lt_trans e1 (Nat.lt_trans e2 e3))
          · clear F9 N9
            have N10' := N10
            simp only [pgLed, List.cons_append, List.nil_append] at N10
            walk_at "mine_go"
            unfold Stop
            rename Fr _ _ _ _ => F11
            rename News _ _ _ _ => N11
            dsimp only
            exact ⟨20 - j, by omega, (hInvI _ _ _ _ _ _).mpr ⟨_, _, (writeParts S2 X zone width).1, _, tr9, j, _, _, _, t, t9, its, its9, k, k9, rfl, rfl, hj16, iter_vars F11, N11, hS1, S9, hstep, by omega, by omega⟩⟩
        · rename Fr _ _ _ _ => F9
          rename News _ _ _ _ => N9
          rename ¬ (_ ≤ (_ : Int) + 1 + Int.fmod _ 4) => hlast
          refine ⟨KX.keeps F9.keep, ?_⟩
          have hm0 := Int.fmod_nonneg_of_pos ((ns.getD (Int.toNat (i : Int)) 0).fdiv 7) (b := 4) (by decide)
          have hm1 := Int.fmod_lt_of_pos ((ns.getD (Int.toNat (i : Int)) 0).fdiv 7) (b := 4) (by decide)
          generalize hy : (i : Int) + 1 + ((ns.getD (Int.toNat (i : Int)) 0).fdiv 7).fmod 4 = y at F9 N9 hlast
          obtain ⟨j, rfl⟩ := Int.eq_ofNat_of_zero_le (show 0 ≤ y by omega)
          rw [Int.toNat_natCast] at N9
          have hij : i < j := by omega
          have hj16 : j ≤ 16 := by omega
          have hlast' : j < qs.length := by omega
          have hps := (hp.take j).drop i |>.mono (tl' := (PL, W.listOf pvs.toArray kp) :: (D, W.listOf vs.toArray k2) :: tl) fun q hq => .tail _ (.tail _ hq)
          have hXl : ((qs.take j).drop i ++ [Part.glue]).length ≤ j - i + 1 := by simp only [List.length_append, List.length_drop, List.length_take, List.length_cons, List.length_nil]; omega
          have hXo : ∀ q ∈ (qs.take j).drop i ++ [Part.glue], q.ok := fun q hq => (List.mem_append.mp hq).elim (hps.oks q) fun hq => by obtain rfl := List.mem_singleton.mp hq; exact trivial
          generalize hX : (qs.take j).drop i ++ [Part.glue] = X at hXl hXo
          have hlen9 := writeParts_len hz0 hz1 hw0 S2 hXo
          have hstep := Prog.step hat hlt hij (X := X) (.inr ⟨hlast', hX.symm⟩)
          refine piece_mid (X := X) (P1 := pgLed _ p1 d1 o1 a1 a2 t (writeText PS0 x width).2 its k) rfl rfl K0 F9 KX T N9 hps hX (by (repeat (rename @LT.lt Nat _ _ _ ∧ _ => hc9; obtain ⟨_, _⟩ := hc9)); exact ⟨by assumption, by assumption, by assumption, by assumption⟩) ?_ ?_ (Nat.le_of_ble_eq_true rfl) (Nat.le_of_ble_eq_true rfl) rfl e4 e5 hS2 (by omega) (by omega) (by omega) hz0 hz1 hw0 hw1 (fun h' tk' t9 its9 k9 tr9 F10 N10 S9 => ?_)
          · intro q hq
            exact Nat.lt_of_le_of_lt (pg_between e1 e2 q hq).2 e3
          · refine List.forall_mem_cons.mpr ⟨Nat.lt_trans f1 (Nat.lt_trans e1 (Nat.lt_trans e2 e3)), List.forall_mem_cons.mpr ⟨Nat.lt_trans f2 (Nat.lt_trans e1 (Nat.lt_trans e2 e3)), fun q hq => ?_⟩⟩
            exact Nat.lt_trans (allLt_mem f3 q hq) (Nat.lt_trans e1 (Nat.lt_trans e2 e3))
          · clear F9 N9
            have N10' := N10
            simp only [pgLed, List.cons_append, List.nil_append] at N10
            walk_at "mine_go"
            unfold Stop
            rename Fr _ _ _ _ => F11
            rename News _ _ _ _ => N11
            dsimp only
            exact ⟨20 - j, by omega, (hInvI _ _ _ _ _ _).mpr ⟨_, _, (writeParts S2 X zone width).1, _, tr9, j, _, _, _, t, t9, its, its9, k, k9, rfl, rfl, hj16, iter_vars F11, N11, hS1, S9, hstep, by omega, by omega⟩⟩
      · walk_at "mine_go"
        unfold Stop
        exact ⟨by first | rfl | trivial, _, _, x, ⟨D, vs, ns, k2, width, zone, tw, tz, PL, pvs, qs, tl, kp, d1, p1, o1, d2, p2, o2, a1, a2, b1, b2⟩, S2, _, tr, _, pe, pl, rfl, ⟨hI, hn0, hl0, hl1, hw0, hw1, hz0, hz1, hp, hlen, ⟨e1, e2, e3, e4, e5⟩, ⟨f1, f2, f3⟩⟩, hx, ⟨F8, t, t', its, its', k, k', N8, hS1, hS2⟩, .inl ⟨rfl, hat⟩, by omega, by omega⟩
      · walk_at "mine_go"
        all_goals unfold Stop
        all_goals exact ⟨by first | rfl | trivial, _, _, x, ⟨D, vs, ns, k2, width, zone, tw, tz, PL, pvs, qs, tl, kp, d1, p1, o1, d2, p2, o2, a1, a2, b1, b2⟩, S2, _, tr, _, pe, pl, rfl, ⟨hI, hn0, hl0, hl1, hw0, hw1, hz0, hz1, hp, hlen, ⟨e1, e2, e3, e4, e5⟩, ⟨f1, f2, f3⟩⟩, hx, ⟨F8, t, t', its, its', k, k', N8, hS1, hS2⟩, .inr ⟨rfl, hat⟩, by omega, by omega⟩
    · by_cases hy : y = Str.ofString "end"
      · subst hy; rfl
      by_cases hy2 : y = Str.ofString "is_last"
      · subst hy2; rfl
      simp only [if_neg hy, if_neg hy2]
      rfl
  clear F7 N7
  obtain ⟨h8, tk8, x, c, S2, r, tr, va, pe, pl, rfl, ok, hx, ⟨F8, t, t', its, its', k, k', N8, hS1, hS2⟩, hres, hb1, hb2⟩ := hM8
  refine stage9 F8 ?_ fun s9 hM9 => ?_
  · intro E
    obtain ⟨D, vs, ns, k2, width, zone, tw, tz, PL, pvs, qs, tl, kp, d1, p1, o1, d2, p2, o2, a1, a2, b1, b2⟩ := c
    obtain ⟨hI, hn0, hl0, hl1, hw0, hw1, hz0, hz1, hp, hlen, ord, low⟩ := ok
    have hwl := writeText_len PS0 x width
    unfold Cst.led Cst.rest at N8
    unfold Cst.vars at F8
    dsimp only at F8 N8 hI hn0 hl0 hl1 hw0 hw1 hz0 hz1 hp hlen ord low hS1 hS2 hx hwl hres
    obtain ⟨e1, e2, e3, e4, e5⟩ := ord
    obtain ⟨f1, f2, f3⟩ := low
    have hp0 : Str.length PS0.2 = 0 := by decide +kernel
    have hp1 : PS0.1.length = 0 := rfl
    have hqlen : qs.length = ns.length := by rw [← hp.length, hlen]
    have N8' := N8
    simp only [pgLed, List.cons_append, List.nil_append] at N8
    walk_at "mine_go"
    unfold Stop
    clear N8
    rename Fr _ _ _ _ => F9
    rename News _ _ _ _ => N9
    refine ⟨KX.keeps F9.keep, ?_⟩
    refine whole_call (P1 := pgLed _ p2 d2 o2 b1 b2 t' S2.2 its' k') (R := (D, W.listOf vs.toArray k2) :: tl) rfl rfl K0 F9 KX T N9 (hp.mono fun q hq => .tail _ hq) ?_ f1 ?_ (Nat.le_of_ble_eq_true rfl) (Nat.le_of_ble_eq_true rfl) rfl e1 e2 hS1 (by omega) (by omega) (by omega) hz0 hz1 hw0 hw1 (fun h' tk' t9 its9 k9 tr9 F10 N10 S9 => ?_)
    · intro q hq
      exact Nat.lt_of_lt_of_le e3 (pg_between e4 e5 q hq).1
    · exact List.forall_mem_cons.mpr ⟨f2, allLt_mem f3⟩
    · clear F9 N9
      simp only [pgLed, List.cons_append, List.nil_append] at N10
      rcases hres with ⟨rfl, hres⟩ | ⟨rfl, hres⟩
      · rw [show writeParts ((writeText PS0 x width).1, (writeText PS0 x width).2) qs zone width = _ from hres] at S9 N10 ⊢
        simp only [Bool.false_eq_true, if_false] at S9 N10 ⊢
        walk_at "mine_go"
        unfold Stop
        exact ⟨by first | rfl | trivial, _, _, ⟨D, vs, ns, k2, width, zone, tw, tz, PL, pvs, qs, tl, kp, d1, p1, o1, d2, p2, o2, a1, a2, b1, b2⟩, S2, _, tr, va, pe, pl, rfl, ⟨hI, hn0, hl0, hl1, hw0, hw1, hz0, hz1, hp, hlen, ⟨e1, e2, e3, e4, e5⟩, ⟨f1, f2, f3⟩⟩, ⟨F10, t9, t', its9, its', k9, k', N10, S9, hS2⟩, hb1, hb2⟩
      · rw [show writeParts ((writeText PS0 x width).1, (writeText PS0 x width).2) qs zone width = _ from hres] at S9 N10 ⊢
        simp only [if_true] at S9 N10 ⊢
        walk_at "mine_go"
        unfold Stop
        exact ⟨by first | rfl | trivial, _, _, ⟨D, vs, ns, k2, width, zone, tw, tz, PL, pvs, qs, tl, kp, d1, p1, o1, d2, p2, o2, a1, a2, b1, b2⟩, S2, _, tr, va, pe, pl, rfl, ⟨hI, hn0, hl0, hl1, hw0, hw1, hz0, hz1, hp, hlen, ⟨e1, e2, e3, e4, e5⟩, ⟨f1, f2, f3⟩⟩, ⟨F10, t9, t', its9, its', k9, k', N10, S9, hS2⟩, hb1, hb2⟩
  clear F8 N8
  obtain ⟨h9, tk9, c, S, r, tr, va, pe, pl, rfl, ok, ⟨F9, t, t', its, its', k, k', N9, hS1, hS2⟩, hb1, hb2⟩ := hM9
  obtain ⟨D, vs, ns, k2, width, zone, tw, tz, PL, pvs, qs, tl, kp, d1, p1, o1, d2, p2, o2, a1, a2, b1, b2⟩ := c
  obtain ⟨hI, hn0, hl0, hl1, hw0, hw1, hz0, hz1, hp, hlen, ord, low⟩ := ok
  unfold Cst.led Cst.rest at N9
  unfold Cst.vars at F9
  dsimp only at F9 N9 hI hn0 hl0 hl1 hw0 hw1 hz0 hz1 hp hlen ord low hS1 hS2
  obtain ⟨e1, e2, e3, e4, e5⟩ := ord
  obtain ⟨f1, f2, f3⟩ := low
  have hqlen : qs.length = ns.length := by rw [← hp.length, hlen]
  simp only [pgLed, List.cons_append, List.nil_append] at N9
  walk_at "mine_go"
  unfold Stop
  rename News _ _ _ _ => N10
  refine eq_strs ⟨_, (N10 _ (.tail _ (.tail _ (.head _)))).1, rfl, _, rfl⟩ hS1 ⟨_, (N10 _ (.tail _ (.tail _ (.tail _ (.tail _ (.tail _ (.head _))))))).1, rfl, _, rfl⟩ hS2 (Nat.le_of_ble_eq_true rfl) ?_
  walk_at "mine_go"
  rotate_left
  · rename (_ == _) = false => hbad
    simp at hbad
  unfold Stop
  rename Fr _ _ _ _ => F8
  rename News _ _ _ _ => N8
  refine ⟨KX.keeps F8.keep, ?_⟩
  refine Spec.use2 (all_rows_of_spec (row := S.2) (rows := S.1) (its := its) (t3 := t) (t1 := a1) (t2 := a2) (k := k) (d := d1) (o := o1) (Nat.ne_of_gt e1) (Nat.ne_of_lt e2) (Nat.ne_of_lt (Nat.lt_trans e1 e2)) hS1 (by omega) (by omega)) rfl rfl K0 F8 KX T N8 (hap_of (pg_between e1 e2) ?_) (Nat.le_of_ble_eq_true rfl) (Nat.le_of_ble_eq_true rfl) rfl (fun v h' tk' led' F9 N9 hap9 o9 => ?_)
  · iterate 5 refine List.forall_mem_cons.mpr ⟨by dsimp only; first | exact .inr (by assumption) | exact .inl (by assumption) | exact .inr (by omega) | exact .inl (by omega), ?_⟩
    exact fun q hq => .inl (allLt_mem f3 q hq)
  obtain ⟨r1, its1, k1, rfl, rfl, hR1⟩ := o9
  have q1 := hap9 _ (.head _) _ (.head _)
  have q2 := hap9 _ (.tail _ (.head _)) _ (.head _)
  have q3 := hap9 _ (.tail _ (.tail _ (.head _))) _ (.head _)
  clear F8 N8 hap9
  simp only [pgLed, List.cons_append, List.nil_append] at N9
  dsimp only at q1 q2 q3
  walk_at "mine_go"
  unfold Stop
  refine ⟨KX.keeps F9.keep, ?_⟩
  refine Spec.use2 (all_rows_of_spec (row := S.2) (rows := S.1) (its := its') (t3 := t') (t1 := b1) (t2 := b2) (k := k') (d := d2) (o := o2) (Nat.ne_of_gt e4) (Nat.ne_of_lt e5) (Nat.ne_of_lt (Nat.lt_trans e4 e5)) hS2 (by omega) (by omega)) rfl rfl K0 F9 KX T (pg_first N9) (List.forall_mem_cons.mpr ⟨?_, hap_of (pg_between e4 e5) ?_⟩) (Nat.le_of_ble_eq_true rfl) (Nat.le_of_ble_eq_true rfl) rfl (fun v h' tk' led' F8 N8 hap9 o9 => ?_)
  · intro q hq
    rcases List.mem_cons.mp hq with rfl | hq
    · exact q1.symm
    rcases List.mem_cons.mp hq with rfl | hq
    · exact q2.symm
    obtain rfl := List.mem_singleton.mp hq
    exact q3.symm
  · iterate 5 refine List.forall_mem_cons.mpr ⟨by dsimp only; first | exact .inr (by assumption) | exact .inl (by assumption) | exact .inr (by omega) | exact .inl (by omega), ?_⟩
    exact fun q hq => .inl (Nat.lt_trans (allLt_mem f3 q hq) (Nat.lt_trans e1 (Nat.lt_trans e2 e3)))
  obtain ⟨r2, its2, k2', rfl, rfl, hR2⟩ := o9
  refine eq_strs ⟨_, (N8 _ (List.mem_append_right _ (.head _))).1, rfl, _, rfl⟩ hR1 ⟨_, (N8 _ (.head _)).1, rfl, _, rfl⟩ hR2 (Nat.le_of_ble_eq_true rfl) ?_
  clear F9 N9
  k_steps)
end Mine

theorem PySem.Challenge.cw_pq0159_02_holds : PySem.Challenge.rw_pq0159_02.Holds := by
  exact Mine.law02

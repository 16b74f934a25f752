import PyProof.Rows.All
import Wide.All
import OpenK.AllK
import Wide.FinOn
import Lean
import PySem.Challenge.RW_pq0159_01
open PySem PySem.W PyProof.Rows
set_option Elab.async false
set_option maxRecDepth 100000
set_option maxHeartbeats 8000000
set_option linter.unusedVariables false
set_option compiler.extract_closed false
namespace Mine
open_top hd01 for PySem.Challenge.rw_pq0159_01
end Mine
open PySem.Calls
namespace Mine
theorem filled : hd01.heap_39 = hd01.heap_39 ∨ PySem.Challenge.rw_pq0159_01.Holds := by
  k_fill
  exact Or.inl rfl
end Mine
namespace Mine
theorem slot_wd_get : Slot "wrapper_descriptor" "__get__" "wrapper_descriptor.__get__" := .of (owner := "wrapper_descriptor") (n := "__get__") (by rw [typeLookup_type, builtinLookup_eq_fast]; kernel_rfl) (by decide +kernel) (by decide +kernel) (by decide +kernel)
  (by first | exact .inl (by decide +kernel) | exact .inr (by decide +kernel)) (by rw [isSubtype_type]; kernel_rfl)
theorem entry_wd_get : entryFor table "wrapper_descriptor.__get__" = some Builtin.«wrapper_descriptor.__get__» := entryFor_of_tree (by kernel_rfl)
theorem args_wd_get (a b c : Value) : argsOk "wrapper_descriptor.__get__" ⟨[a, b, c], []⟩ := by unfold argsOk; kernel_rfl
theorem type_excInit : typeOf (.builtin "Exception.__init__") = pure (.type "wrapper_descriptor") := by show builtinType _ = _; rw [builtinType_eq_fast]; kernel_rfl

section
variable {prog : Program} {w : World} {A : Around} {E : Value → Shared → Prop} {h : Heap} {g : Array GenState} {d : Drawn} {t : Nat} {os : OsState}
theorem sup_ga {so D x C : Addr} {ox : Obj} {l₀ l : List Value} {K : Frag} {tk : Tok} {Q : Fin → Shared → Prop}
    (hso : h.get? so = some { cls := .type "super", dict := none, data := .fields #[.ref D, .ref x, .ref C], slots := #[] }) (hno : Looks (model prog w) h (opaqueClassAbove (.ref C)) none)
    (hC : Looks (model prog w) h (mroOf (.ref C)) l₀) (hl : (l₀.dropWhile (· != .ref D)).drop 1 = l) (X : K.In h)
    (hf : alongIn K (Str.ofString "__init__") l = some (some (.builtin "Exception.__init__"))) (hx : h.get? x = some ox) (hxc : ox.cls = .ref C) (hxC : x ≠ C)
    (hsub : Looks (model prog w) h (isSubtype (.ref C) (.type "Exception")) true)
    (hq : Q (.done (.ret (.ref h.objs.size))) ⟨h.push { cls := .type "method-wrapper", data := .fields #[.builtin "Exception.__init__", .ref x] }, g, d, t, os⟩) :
    wpAny (model prog w) A (Builtin.«super.__getattribute__» ⟨[.ref so, .str (Str.ofString "__init__") tk], []⟩) Q E ⟨h, g, d, t, os⟩ := by
  have hlk := slot_wd_get.lookup
  have hty := type_excInit
  have hne : (Value.ref x == Value.ref C) = false := by simp [hxC]
  have hTf : ∀ t', (⟨h, g, d, t', os⟩ : Shared).TypeIs (.builtin "Exception.__init__") "wrapper_descriptor" := fun _ => type_excInit
  have hdt : ({ cls := .type "super", dict := none, data := .fields #[.ref D, .ref x, .ref C], slots := #[] } : Obj).data = .fields #[.ref D, .ref x, .ref C] := rfl
  have f0 : (#[.ref D, .ref x, .ref C] : Array Value)[0]? = some (.ref D) := rfl
  have f1 : (#[.ref D, .ref x, .ref C] : Array Value)[1]? = some (.ref x) := rfl
  have f2 : (#[.ref D, .ref x, .ref C] : Array Value)[2]? = some (.ref C) := rfl
  have hn : (Str.ofString "__init__" == Str.ofString "__class__") = false := by decide
  unfold Builtin.«super.__getattribute__»
  repeat (first
    | (with_reducible refine wpAny_field hso hdt f0 ?_) | (with_reducible refine wpAny_field hso hdt f1 ?_) | (with_reducible refine wpAny_field hso hdt f2 ?_)
    | (with_reducible refine ks_wpAny_notOpaque hno ?_)
    | (with_reducible refine Looks.at hC ?_; rw [hl])
    | (refine ks_forIn_along X (fun _ _ => rfl) rfl ?_ hf)
    | (with_reducible refine wpAny_call_entry slot_wd_get (hTf _) entry_wd_get ?_ (args_wd_get _ _ _))
    | (with_reducible refine ⟨_, rfl, ?_⟩)
    | (simp only [hn, hne, Bool.or_false, Bool.false_eq_true, if_false])
    | wp_step
    | dsimp only)
  rw [hxc, (by decide +kernel : ".".intercalate ("Exception.__init__".cutAt '.').dropLast = "Exception")]
  refine Looks.at hsub ?_
  repeat (first | (with_reducible refine ⟨_, rfl, ?_⟩) | (with_reducible refine wpAny_newObj_type ?_ (by size_fits)) | wp_step | dsimp only)
  exact hq

theorem sup_getMethod {so D x C : Addr} {ox : Obj} {l₀ l : List Value} {K : Frag} {pl : Sem Bool} {Q : Value × List Value → Shared → Prop}
    (hso : h.get? so = some { cls := .type "super", dict := none, data := .fields #[.ref D, .ref x, .ref C], slots := #[] }) (hno : Looks (model prog w) h (opaqueClassAbove (.ref C)) none)
    (hC : Looks (model prog w) h (mroOf (.ref C)) l₀) (hl : (l₀.dropWhile (· != .ref D)).drop 1 = l) (X : K.In h)
    (hf : alongIn K (Str.ofString "__init__") l = some (some (.builtin "Exception.__init__"))) (hx : h.get? x = some ox) (hxc : ox.cls = .ref C) (hxC : x ≠ C)
    (hsub : Looks (model prog w) h (isSubtype (.ref C) (.type "Exception")) true)
    (hq : Q (.ref h.objs.size, []) ⟨h.push { cls := .type "method-wrapper", data := .fields #[.builtin "Exception.__init__", .ref x] }, g, d, t + 1, os⟩) :
    wpAny (model prog w) A (getMethod (.ref so) (Str.ofString "__init__") pl) Q E ⟨h, g, d, t, os⟩ := by
  have hlk := F.ks_slot_super_ga.lookup
  have hcan := F.ks_canon_super_ga
  have hT : ∀ t', (⟨h, g, d, t', os⟩ : Shared).TypeIs (.ref so) "super" := fun _ => ⟨_, hso, rfl⟩
  unfold getMethod
  refine wpAny_bind (wpAny_specialOf (hT _) hlk ?_)
  show wpAny _ _ (if (Manifest.canonical "super.__getattribute__" != "object.__getattribute__") = true then _ else _) _ _ _
  rw [if_pos hcan]
  unfold getAttr getAttrBy
  refine wpAny_bind (wpAny_bind (wpAny_mkText (wpAny_holding (wpAny_bind (wpAny_typeOf (hT _) (wpAny_bind (wpAny_of_eq hlk ?_)))))))
  show wpAny _ _ (getAttrByItsOwn (.ref so) (.str (Str.ofString "__init__") t) (.type "super") (.builtin "super.__getattribute__") true false) _ _ _
  unfold getAttrByItsOwn hookBefore callGetattribute boundAndCalled
  refine wpAny_bind (wpAny_of_eq (show (if onTheHeap (.type "super") then typeLookup (.type "super") "__getattr__" else pure none) = pure none from rfl) ?_)
  refine wpAny_bind (wpAny_attempt (wpAny_holding ?_))
  show wpAny _ _ (bindSpecial (.builtin "super.__getattribute__") (.ref so) >>= _) _ _ _
  refine wpAny_bind (wpAny_of_eq (F.ks_slot_super_ga.bind _) ?_)
  refine wpAny_mono (Q := fun v s' => v = .ref h.objs.size ∧ s' = ⟨h.push { cls := .type "method-wrapper", data := .fields #[.builtin "Exception.__init__", .ref x] }, g, d, t + 1, os⟩) (E := fun _ _ => False)
    (wpAny_call_entry F.ks_slot_super_ga (hT _) F.ks_entry_super_ga (sup_ga hso hno hC hl X hf hx hxc hxC hsub ⟨_, rfl, rfl, rfl⟩) (F.ks_gaArgs_super _ _)) (fun v s' hv => ?_) fun _ _ z => z.elim
  obtain ⟨rfl, rfl⟩ := hv
  exact wpAny_pure (wpAny_pure hq)

theorem call_mw {q x C : Addr} {cd : ClassData} {cc : Value} {dd : Option Addr} {sl : Array (Option Value)} {t0 : Addr} {c : Value} {Q : Value → Shared → Prop} (hq : h.get? q = some { cls := .type "method-wrapper", data := .fields #[.builtin "Exception.__init__", .ref x] })
    (hx : h.get? x = some { cls := .ref C, data := .fields #[.ref t0, .none, .none, .none, .bool false, .none] }) (hcd : h.get? C = some { cls := cc, dict := dd, data := .cls cd, slots := sl })
    (k : ∀ h', h'.get? x = some { cls := .ref C, data := .fields #[.ref h.objs.size, .none, .none, .none, .bool false, .none] } → h'.get? h.objs.size = some { cls := .type "tuple", data := .seq #[c] } → (∀ b o, b ≠ x → h.get? b = some o → h'.get? b = some o) → h.objs.size ≤ h'.objs.size → Q .none ⟨h', g, d, t, os⟩) :
    wpAny (model prog w) A (call (.ref q) [c]) Q E ⟨h, g, d, t, os⟩ := by
  refine wpAny_call (codeAny_of_tree ?_)
  show wpAny _ _ (callAny (.ref q) _) _ _ _
  unfold callAny
  repeat wp_step
  refine ⟨Code.quiet_builtin _ (by decide +kernel), codeAny_builtin PySem.F.excCall_Exception.initEntry ?_⟩
  unfold Builtin.«BaseException.__init__»
  have hx' := Heap.get?_push_of_some { cls := .type "tuple", data := .seq #[c] } hx
  have hlt := Heap.lt_size hx
  repeat (first | (with_reducible refine wpAny_setField hx' rfl (by decide) ?_) | wp_step)
  refine k _ ?_ ?_ ?_ ?_
  · exact Heap.get?_update_self _ hx' rfl
  · rw [Heap.get?_update_other _ _ (Nat.ne_of_lt hlt)]
    exact Heap.get?_push_at rfl rfl
  · intro b o hb e
    rw [Heap.get?_update_other _ _ (Ne.symm hb)]
    exact Heap.get?_push_of_some _ e
  · simp
end
end Mine
namespace Mine
abbrev excV (dx : Addr) (vs : Array Value) : Obj := { cls := .ref 34, dict := some dx, data := .fields vs }

def ExcAt (B : Heap) (l : List Env) (e dx : Addr) (fl : Value) (h : Heap) : Prop :=
  B.StaysIn h ∧ B.get? e = none ∧ h.FunFrames B l ∧ ∃ vs T oT ts, h.get? e = some (excV dx vs) ∧ vs.size = 6 ∧ vs[1]? = some (.ref T) ∧ B.get? T = none ∧ T ≠ e ∧ h.get? T = some oT ∧ oT.data = .fields ts ∧ ts[3]? = some fl

section
variable {M : Model} {A : Around} {E : Value → Shared → Prop} {s : Shared} {B : Heap} {env : Env} {outer : List Env} {L e dx : Addr}

theorem entryD {vs : Array Value} {head : Value} {hadNext : Bool} {Q : Unit → Shared → Prop}
    (hfr : A.frames = some (env :: outer)) (hl : s.heap.FunFrames B (env :: outer)) (hf : env.frame = some L)
    (he : s.heap.get? e = some (excV dx vs)) (hkb : B.StaysIn s.heap) (hen : B.get? e = none) (hsz : vs.size = 6)
    (h : ∀ h', ExcAt B (env :: outer) e dx (rawInt L) h' → s.heap.UpToSlots h' → Q () { s with heap := h' }) :
    wpAny M A (do setField (.ref e) 1 (← EntryCells.newEntry head (← frameOf env) .none (rawInt L) .none (← entryPlaceOf L hadNext))) Q E s := by
  have hene : e ∉ (env :: outer).filterMap (·.frame) := fun hm => by
    obtain ⟨_, o, ho, hnf⟩ := hl.mem hm
    rw [he] at ho; injection ho with ho; subst ho; exact hnf vs rfl
  refine wpAny_bind (wpAny_frameOf_fun hfr hl hf fun h₁ hs₁ => ?_)
  refine wpAny_bind (wpAny_entryPlaceOf fun pl hpl => ?_)
  unfold EntryCells.newEntry newFields
  refine wpAny_bind (wpAny_newObj_type ?_ (hpl.sizeOk5 _ _ _ _ _))
  have he₁ : h₁.get? e = some (excV dx vs) := (hs₁.2.1 e hene).trans he
  have kb₁ : B.StaysIn h₁ := fun b o hbo => (hs₁.2.1 b fun hm => by rw [(hl.mem hm).1] at hbo; cases hbo).trans (hkb b o hbo)
  generalize hto : ({ cls := .type "traceback", dict := none, data := .fields ([head, .ref L, .none, rawInt L, .none] ++ (if pl.isEmpty then List.replicate 6 Value.none else pl)).toArray } : Obj) = oT
  have hod : ∃ ts, oT.data = .fields ts ∧ ts[3]? = some (rawInt L) := by
    subst hto
    exact ⟨_, rfl, by first | (simp; done) | (rcases hpl with rfl | ⟨_, _, _, _, _, _, _, rfl⟩ <;> simp)⟩
  have hfree : oT.isFreed = false := by subst hto; rfl
  have he₂ := Heap.get?_push_of_some (h := h₁) oT he₁
  have hTe : h₁.objs.size ≠ e := Nat.ne_of_gt (Heap.lt_size he₁)
  refine wpAny_setField he₂ rfl (by rw [hsz]; decide) (h _ ?_ ?_)
  · have keep : ∀ b o, b ≠ e → h₁.get? b = some o → ((h₁.push oT).update e (Obj.mapFields (·.setIfInBounds 1 (Value.ref h₁.objs.size)))).get? b = some o := fun b o hbe hb => by
      rw [Heap.get?_update_other _ _ (Ne.symm hbe)]
      exact Heap.get?_push_of_some _ hb
    have noRecord : ∀ b o, s.heap.get? b = some o → (∀ vs, o.data ≠ .fields vs) → b ≠ e := fun b o hb hnf q => by
      rw [q, he] at hb; injection hb with hb; subst hb; exact hnf vs rfl
    obtain ⟨ts, hts, h3⟩ := hod
    refine ⟨fun b o hbo => keep b o (fun q => by rw [q, hen] at hbo; cases hbo) (kb₁ b o hbo), hen, hl.of_keeps fun b o hb hnf => ?_, vs.setIfInBounds 1 (.ref h₁.objs.size), h₁.objs.size, oT, ts, ?_, ?_, ?_, kb₁.fresh, hTe, ?_, hts, h3⟩
    · obtain ⟨sl, hs⟩ := hs₁.2.2 b o hb
      exact ⟨_, keep b _ (noRecord b o hb hnf) hs, rfl⟩
    · exact Heap.get?_update_self (Obj.mapFields (·.setIfInBounds 1 (Value.ref h₁.objs.size))) he₂ rfl
    · simp [hsz]
    · simp [hsz]
    · rw [Heap.get?_update_other _ _ (Ne.symm hTe)]
      exact Heap.get?_push_size h₁ hfree
  · intro b o hb hnf
    have hbe : b ≠ e := fun q => by rw [q, he] at hb; injection hb with hb; subst hb; exact hnf vs rfl
    obtain ⟨sl, hs⟩ := hs₁.2.2 b o hb
    refine ⟨sl, ?_⟩
    rw [Heap.get?_update_other _ _ (Ne.symm hbe)]
    exact Heap.get?_push_of_some _ hs

theorem noteNew {t : Value} {Q : Unit → Shared → Prop}
    (hfr : A.frames = some (env :: outer)) (hl : s.heap.FunFrames B (env :: outer)) (hf : env.frame = some L)
    (he : s.heap.get? e = some (excV dx #[t, .none, .none, .none, .bool false, .none])) (hkb : B.StaysIn s.heap) (hen : B.get? e = none)
    (h : ∀ h', ExcAt B (env :: outer) e dx (rawInt L) h' → s.heap.UpToSlots h' → Q () { s with heap := h' }) :
    wpAny M A (noteFrame (.ref e) env) Q E s := by
  unfold noteFrame
  simp only [hf]
  refine wpAny_bind (wpAny_field he rfl (x := .none) rfl ?_)
  rw [if_neg (by decide)]
  exact entryD hfr hl hf he hkb hen rfl h

theorem noteFly {Q : Unit → Shared → Prop} (hfr : A.frames = some (env :: outer)) (hf : env.frame = some L) (hx : ExcAt B (env :: outer) e dx .none s.heap)
    (h : ∀ h', ExcAt B (env :: outer) e dx (rawInt L) h' → s.heap.UpToSlots h' → Q () { s with heap := h' }) :
    wpAny M A (noteFrame (.ref e) env) Q E s := by
  obtain ⟨hkb, hen, hl, vs, T, oT, ts, he, hsz, h1, hnT, hTe, hT, hdT, h3⟩ := hx
  unfold noteFrame
  simp only [hf]
  refine wpAny_bind (wpAny_field he rfl h1 ?_)
  rw [if_pos (show (Value.ref T != Value.none) = true from by simp)]
  refine wpAny_bind (wpAny_field hT hdT h3 ?_)
  rw [if_neg (show ¬ ((Value.none == rawInt L) = true) from by simp [rawInt])]
  refine wpAny_bind (wpAny_setField hT hdT (Array.getElem?_eq_some_iff.mp h3).1 ?_)
  have other : ∀ b, b ≠ T → (s.heap.update T (Obj.mapFields (·.setIfInBounds 3 Value.none))).get? b = s.heap.get? b := fun b hb => Heap.get?_update_other _ _ (Ne.symm hb)
  have noRecord : ∀ b o, s.heap.get? b = some o → (∀ vs, o.data ≠ .fields vs) → b ≠ T := fun b o hb hnf q => by
    rw [q, hT] at hb; injection hb with hb; subst hb; exact hnf ts hdT
  refine entryD hfr (hl.of_keeps fun b o hb hnf => ⟨o, (other b (noRecord b o hb hnf)).trans hb, rfl⟩) hf ((other e (Ne.symm hTe)).trans he)
    (fun b o hbo => (other b fun q => by rw [q, hnT] at hbo; cases hbo).trans (hkb b o hbo)) hen hsz
    fun h' x1 x2 => h h' x1 fun b o hb hnf => x2 b o ((other b (noRecord b o hb hnf)).trans hb) hnf

theorem noteHeld {l : List Env} {Q : Unit → Shared → Prop} (hf : env.frame = some L) (hx : ExcAt B l e dx (rawInt L) s.heap) (h : Q () s) : wpAny M A (noteFrame (.ref e) env) Q E s := by
  obtain ⟨hkb, hen, hl, vs, T, oT, ts, he, hsz, h1, hnT, hTe, hT, hdT, h3⟩ := hx
  unfold noteFrame
  simp only [hf]
  refine wpAny_bind (wpAny_field he rfl h1 ?_)
  rw [if_pos (show (Value.ref T != Value.none) = true from by simp)]
  refine wpAny_bind (wpAny_field hT hdT h3 ?_)
  rw [if_pos (show (rawInt L == rawInt L) = true from by simp)]
  exact wpAny_pure h

theorem setFl {l : List Env} {fl : Value} {fr : Option Addr} {Q : Unit → Shared → Prop} (hx : ExcAt B l e dx fl s.heap)
    (h : ∀ h', ExcAt B l e dx (fr.elim .none fun f => rawInt f) h' → s.heap.UpToSlots h' → Q () { s with heap := h' }) : wpAny M A (setFlight (.ref e) fr) Q E s := by
  obtain ⟨hkb, hen, hl, vs, T, oT, ts, he, hsz, h1, hnT, hTe, hT, hdT, h3⟩ := hx
  have hsz3 : 3 < ts.size := (Array.getElem?_eq_some_iff.mp h3).1
  have other : ∀ b, b ≠ T → (s.heap.update T (Obj.mapFields (·.setIfInBounds 3 (fr.elim Value.none fun f => rawInt f)))).get? b = s.heap.get? b :=
    fun b hb => Heap.get?_update_other _ _ (Ne.symm hb)
  have noRecord : ∀ b o, s.heap.get? b = some o → (∀ vs, o.data ≠ .fields vs) → b ≠ T := fun b o hb hnf q => by
    rw [q, hT] at hb; injection hb with hb; subst hb; exact hnf ts hdT
  unfold setFlight
  refine wpAny_bind (wpAny_field he rfl h1 ?_)
  rw [if_pos (show (Value.ref T != Value.none) = true from by simp)]
  refine wpAny_setField hT hdT hsz3 (h _ ⟨fun b o hbo => (other b fun q => by rw [q, hnT] at hbo; cases hbo).trans (hkb b o hbo), hen,
    hl.of_keeps fun b o hb hnf => ⟨o, (other b (noRecord b o hb hnf)).trans hb, rfl⟩, vs, T, _, _, (other e (Ne.symm hTe)).trans he, hsz, h1, hnT, hTe,
    Heap.get?_update_self _ hT (Obj.isFreed_of_fields (Obj.data_mapFields hdT _)), Obj.data_mapFields hdT _, by simp [hsz3]⟩ fun b o hb hnf => ⟨o.slots, (other b (noRecord b o hb hnf)).trans hb⟩)

theorem cameBack {l : List Env} {fl : Value} (hx : ExcAt B l e dx fl s.heap) (hf : env.frame = some L)
    (h : ∀ h', ExcAt B l e dx (rawInt L) h' → s.heap.UpToSlots h' → E (.ref e) { s with heap := h' }) : cameBackBy M A env E (.ref e) s := by
  unfold cameBackBy
  have hx' := hx
  obtain ⟨hkb, hen, hl, vs, T, oT, ts, he, hsz, h1, hnT, hTe, hT, hdT, h3⟩ := hx'
  refine wpAny_bind (wpAny_field he rfl h1 ?_)
  rw [if_neg (show ¬ ((Value.ref T == Value.none) = true) from by simp)]
  refine setFl hx fun h' x1 x2 => ?_
  rw [hf] at x1
  exact h h' x1 x2

theorem leaveNew {t : Value} {Q : Unit → Shared → Prop} (hfr : A.frames = some (env :: outer)) (hl : s.heap.FunFrames B (env :: outer)) (hf : env.frame = some L)
    (he : s.heap.get? e = some (excV dx #[t, .none, .none, .none, .bool false, .none])) (hkb : B.StaysIn s.heap) (hen : B.get? e = none)
    (h : ∀ h', ExcAt B outer e dx .none h' → s.heap.UpToSlots h' → Q () { s with heap := h' }) : wpAny M A (leaving env (.ref e)) Q E s := by
  unfold leaving
  refine wpAny_bind (noteNew hfr hl hf he hkb hen fun h₁ x1 u1 => setFl (fr := none) x1 fun h₂ x2 u2 => h h₂ ?_ (u1.trans u2))
  obtain ⟨a, b, ⟨_, _, c⟩, d⟩ := x2
  exact ⟨a, b, c, d⟩
end
end Mine
namespace Mine
open Builtin Builtin.ObjectAttr
section
variable {prog : Program} {w : World} {A : Around} {E : Value → Shared → Prop} {h : Heap} {g : Array GenState} {d : Drawn} {t : Nat} {os : OsState}
variable {nm q : Str} {C N x : Addr} {bs bm : List Value} {sn : List Str} {sub : List Value} {ab : Bool} {col : Option Bool} {dd : Option Addr} {k0 k1 k2 k3 k5 : Option Value} {B newId sa owner : String}
  {mN mA : Str → Option Value} {name : Str} {v : Value}

theorem store_first {tk : Tok} {vs : Array Value} {Q : Fin → Shared → Prop} (SF : StoreFacts B bm sa owner)
    (hC : h.get? C = some (excClassObj nm q C N bs bm true sn sub ab col dd k0 k1 k2 k3 k5 newId)) (hn : h.Ns N mN) (hna : mN name = none)
    (hB : typeLookup (.type B) name = pure none) (hx : h.get? x = some { cls := .ref C, data := .fields vs })
    (hq : ∀ h' tk' od, h'.get? x = some { cls := .ref C, dict := some h.objs.size, data := .fields vs } → h'.get? h.objs.size = some od → h'.Ns1 h.objs.size (fun y => if y = name then some v else none) →
      (∀ b o, b ≠ x → h.get? b = some o → h'.get? b = some o) → h.objs.size ≤ h'.objs.size → Q (.done (.ret .none)) ⟨h', g, d, tk', os⟩) :
    wpAny (model prog w) A (Builtin.«object.__setattr__» ⟨[.ref x, .str name tk, v], []⟩) Q E ⟨h, g, d, t, os⟩ := by
  have hpass := SF.passes (.ref x)
  unfold Builtin.«object.__setattr__»
  repeat (first | rw [refuse_eq] | (rw [refuseLoop_ref, hpass]) | (with_reducible refine wpAny_loadPart_at hx ?_) | with_reducible refine wpAny_mroOf_exc hC ?_ | (with_reducible refine wpAny_typeLookup_exc hC hn SF.mro hB ?_; rw [hna]) | wp_step)
  have hxs : x ≠ h.objs.size := Nat.ne_of_lt (Heap.lt_size hx)
  have hx₁ := Heap.get?_push_of_some { cls := .type "dict", data := .dict #[] } hx
  have hgd : ((h.push { cls := .type "dict", data := .dict #[] }).update x fun o => { cls := o.cls, dict := some h.objs.size, data := o.data, slots := o.slots }).get? h.objs.size = some (dictOf [] 0) :=
    (Heap.get?_update_ne _ _ _ _ hxs.symm).trans (Heap.get?_push_at rfl rfl)
  refine wpAny_askSetting (wpAny_pure (wpAny_bind (wpAny_mkText (wpAny_bind (wpAny_loadPart hgd ?_)))))
  dsimp only
  have c : (!([] : List DictEntry).toArray.any (·.key.isStr name) && ([] : List DictEntry).toArray.any (·.refKey)) = false := by simp
  rw [aRefKeyMayBeTheName_at, c]
  refine wpAny_updatePart hgd ?_
  have hgd' := Heap.get?_update_self (Obj.putName name (if name.cps.isEmpty = true then 0 else reduceHash ((model prog w).w.params.strHash name.cps)) (.str name t) v) hgd (by rw [putName_dict]; rfl)
  rw [putName_dict] at hgd'
  refine wpAny_bind (wpAny_lookBehind hgd' (by exact pastItsLine_dict (by rw [sizeLine_eq]; simp [putL])) ?_)
  refine wpAny_pure (hq _ _ _ ?_ hgd' ?_ ?_ ?_)
  · exact (Heap.get?_update_ne _ _ _ _ hxs).trans (Heap.get?_update_self _ hx₁ rfl)
  · refine ⟨_, _, _, hgd', rfl, ?_, ?_, ?_⟩
    · intro e he
      simp [putL] at he
      subst he
      exact ⟨_, _, rfl⟩
    · simp [UniqKeys, putL]
    · intro y
      simp only [nsFind, findBy, putL, List.find?_toArray, List.find?_cons, List.find?_nil, Value.isStr]
      by_cases hy : y = name
      · subst hy; simp
      · have hy' : (name == y) = false := beq_eq_false_iff_ne.mpr fun q => hy q.symm
        rw [hy', if_neg hy]
        rfl
  · exact fun b o hb e => (Heap.get?_update_ne _ _ _ _ (Nat.ne_of_lt (Heap.lt_size e))).trans ((Heap.get?_update_ne _ _ _ _ hb).trans (Heap.get?_push_of_some _ e))
  · simp

theorem set_first {vs : Array Value} {Q : Unit → Shared → Prop} (SF : StoreFacts B bm sa owner)
    (hC : h.get? C = some (excClassObj nm q C N bs bm true sn sub ab col dd k0 k1 k2 k3 k5 newId)) (hn : h.Ns N mN) (hns : mN "__setattr__" = none) (hna : mN name = none)
    (hB : typeLookup (.type B) name = pure none) (hx : h.get? x = some { cls := .ref C, data := .fields vs })
    (hq : ∀ h' tk' od, h'.get? x = some { cls := .ref C, dict := some h.objs.size, data := .fields vs } → h'.get? h.objs.size = some od → h'.Ns1 h.objs.size (fun y => if y = name then some v else none) →
      (∀ b o, b ≠ x → h.get? b = some o → h'.get? b = some o) → h.objs.size ≤ h'.objs.size → Q () ⟨h', g, d, tk', os⟩) :
    wpAny (model prog w) A (setAttr (.ref x) name v) Q E ⟨h, g, d, t, os⟩ := by
  have f3 := SF.slot.bind (.ref x)
  unfold setAttr callSpecial? specialOf
  repeat (any_goals (first | assumption | (with_reducible refine wpAny_loadPart_at hx ?_) | (with_reducible refine wpAny_typeLookup_exc hC hn SF.mro SF.slot.lookup ?_; rw [hns]) | wp_step))
  refine codeAny_call_builtin SF.slot.plain SF.entry (wpAny_check_sa SF hC hx rfl (store_first SF hC hn hna hB hx fun h' tk' od e1 e2 e3 e4 e5 => ?_))
  repeat (any_goals (first | assumption | wp_step))
  exact hq h' tk' od e1 e2 e3 e4 e5

theorem load_exc {bmB : List Value} {expr : Bool} {Q : Value → Shared → Prop} (FB : ExcAttrBase B bm)
    (hC : h.get? C = some (excClassObj nm q C N bs bm true sn sub ab col dd k0 k1 k2 k3 k5 newId)) (hn : h.Ns N mN) (hng : mN "__getattribute__" = none) (hng2 : mN "__getattr__" = none) (hna : mN name = none)
    (hB : typeLookup (.type B) name = pure none) {dx : Addr} {vs : Array Value} (hx : h.get? x = some { cls := .ref C, dict := some dx, data := .fields vs }) (hns : h.Ns dx mA) (hv : mA name = some v) (hh : handedOut v = pure v) (hq : Q v ⟨h, g, d, t + 1, os⟩) :
    wpAny (model prog w) A (getAttr (.ref x) name expr) Q E ⟨h, g, d, t, os⟩ := by
  have f3 := FB.ga.bind (.ref x)
  have hx0 : (expr && onTheHeap (Value.builtin "BaseException.__getattribute__")) = false := by cases expr <;> rfl
  have hx2 : (Value.builtin "BaseException.__getattribute__" == Value.builtin "object.__getattribute__") = false := by decide +kernel
  have hx1 : (onTheHeap (Value.ref C) && Value.builtin "BaseException.__getattribute__" == Value.builtin "object.__getattribute__") = false := by rw [hx2]; rfl
  have hk : builtinKind "BaseException.__getattribute__" = some .slot := by decide +kernel
  have hsplit : splitId "BaseException.__getattribute__" = some ("BaseException", "__getattribute__") := by decide +kernel
  have hcB : (Value.ref C :: bm).contains (.type "BaseException") = true := by rw [List.contains_cons, FB.hasBase]; rfl
  have ha := F.args_bexc_ga (.ref x) (.str name t)
  unfold getAttr
  repeat (any_goals (first | assumption | (with_reducible refine wpAny_loadPart_at hx ?_) | (with_reducible refine wpAny_typeLookup_exc hC hn FB.mro FB.ga.lookup ?_; rw [hng]) | (with_reducible refine wpAny_typeLookup_exc hC hn FB.mro FB.noGetattr ?_; rw [hng2]) | wp_step))
  refine codeAny_call_builtin FB.ga.plain F.entry_bexc_ga ?_
  simp only [checkBuiltinCall, hk, hsplit]
  refine wpAny_bind ?_
  unfold isInstance
  repeat (first | (with_reducible refine wpAny_loadPart_at hx ?_) | (with_reducible refine wpAny_isSubtype_exc hC ?_; rw [hcB]) | wp_step)
  dsimp only
  repeat (first | (with_reducible refine wpAny_loadPart_at hx ?_) | with_reducible refine wpAny_loadPart_at hC ?_ | (with_reducible refine wpAny_typeLookup_exc hC hn FB.mro hB ?_; rw [hna]) | (with_reducible refine wpAny_nsGet hns ?_; rw [hv]) | (rw [hh]) | wp_step)
  exact hq
end
end Mine
namespace Mine

abbrev PROG : Program := PySem.Challenge.rw_pq0159_01.row.prog
abbrev TopW' (mean : ExcName → Option Value) (mg mb : Str → Option Value) (h : Heap) : Prop := Top hd01.view_39 (looseW hd01.view_39 [Str.ofString "BasicError"]) mean mg mb h

structure Sub (h₀ h : Heap) : Prop where
  keep : ∀ b o, h₀.get? b = some o → h.get? b = some o
  size : h₀.objs.size ≤ h.objs.size

def Led (h₀ h : Heap) (l : List (Addr × Obj)) : Prop := ∀ p ∈ l, h.get? p.1 = some p.2 ∧ h₀.get? p.1 = none

theorem Sub.of {h₀ h : Heap} {L : Addr} {m : Str → Option Value} (F : Fr h₀ L h m) : Sub h₀ h := ⟨F.keep, Nat.le_of_lt (Nat.lt_of_le_of_lt F.above F.ns.lt)⟩
theorem Led.of {h₀ h : Heap} {L : Addr} {l : List (Addr × Obj)} (N : News h₀ L h l) : Led h₀ h l := fun q hq => ⟨(N q hq).1, (N q hq).2.2⟩

section
variable {w : World} {A A₀ : Around} {s : Shared} {base h₀ : Heap} {outer : List Env} {K : Frag} {p : Program} {loose : List Str} {mean : ExcName → Option Value} {mg mb : Str → Option Value} {news : List (Addr × Obj)}
  {prog : Program} {R : Result → Shared → Prop} {name qual : Str} {params : Arguments} {body : List Stmt} {scope : Scope} {dV kV doc pm cdv ct oc : Value} {an od : Option Addr} {osl : Array (Option Value)} {f : Addr} {args : Args} {binds : List (Str × Value)}
theorem enter_led (X : K.In h₀) (T : Top p loose mean mg mb h₀) (S : Sub h₀ s.heap) (N : Led h₀ s.heap news)
    (ho : K.lookup f = some ⟨oc, od, .func (fnOf name qual params body scope dV kV doc pm an cdv ct), osl⟩) (hcd : codeIn K cdv qual = true) (hroom : A.depth < recursionLimit)
    (hbind : BindsTo s (fnOf name qual params body scope dV kV doc pm an cdv ct) args binds) (hloc : ∀ y ∈ binds, scope.names.lookup y.1 = some .local)
    (h : ∀ L' h₁, Fr h₀ L' h₁ (fun y => binds.reverse.lookup y) → News h₀ L' h₁ news →
      wpAny (model prog w) (A.deeper (envOf qual scope L' f cdv)) (execs body (envOf qual scope L' f cdv))
        (fun fl s' => R (.ok (.ret (match fl with | .ret v => v | _ => .none))) s')
        (fun e s' => wpAny (model prog w) (A.deeper (envOf qual scope L' f cdv)) (leaving (envOf qual scope L' f cdv) e) (fun _ s'' => R (.error e) s'') (fun e' s'' => R (.error e') s'') s')
        { s with heap := h₁, toks := s.toks + binds.length })
    (hco : scope.isCoroutine = false) (hgen : scope.isGenerator = false) (hk : scope.kind = .function)
    (hcell : ∀ x ∈ scope.names, x.2 ≠ .cell) : codeAny (model prog w) A (.call (.ref f) args) R s := by
  refine codeAny_call_def (fd := fnOf name qual params body scope dV kV doc pm an cdv ct) (body := body) (binds := binds) hroom (S.keep _ _ (X _ _ ho)) rfl (T.nolimit.keeps S.keep) (codeRec_of (X.keeps S.keep) hcd) rfl hbind hcell hloc (fun h₁ hns hk₁ => ?_) hco hgen hk
  exact h _ h₁ ⟨hns, fun b o e => hk₁ _ _ (S.keep _ _ e), S.size⟩ fun q hq => ⟨hk₁ _ _ (N q hq).1, Nat.ne_of_lt (Heap.lt_size (N q hq).1), (N q hq).2⟩
theorem base_of {h : Heap} {L a : Addr} {m : Str → Option Value} {cn : Str} {cs : Scope} {ccd : Value} {rest : List (Addr × Obj)} (B : Below A₀ base outer h₀) (F : Fr h₀ L h m) (N : News h₀ L h (news ++ rest)) (hck : cs.kind = .function) :
    Below { A₀ with frames := some (envOf cn cs L a ccd :: outer) } base (envOf cn cs L a ccd :: outer) (hideAll h (news.map (·.1))) ∧ Sub (hideAll h (news.map (·.1))) h ∧ Led (hideAll h (news.map (·.1))) h news ∧ (∀ b o, h₀.get? b = some o → (hideAll h (news.map (·.1))).get? b = some o) := by
  have N₁ : ∀ q ∈ news, h.get? q.1 = some q.2 ∧ q.1 ≠ L ∧ h₀.get? q.1 = none := fun q hq => N q (List.mem_append_left _ hq)
  have nm : ∀ b o, h₀.get? b = some o → b ∉ news.map (·.1) := fun b o e q => by
    obtain ⟨p, hp, rfl⟩ := List.mem_map.mp q
    rw [(N₁ p hp).2.2] at e; cases e
  have st : ∀ b o, h₀.get? b = some o → (hideAll h (news.map (·.1))).get? b = some o := fun b o e => hideAll_get _ (F.keep b o e) (nm b o e)
  have nL : L ∉ news.map (·.1) := fun q => by
    obtain ⟨p, hp, e⟩ := List.mem_map.mp q
    exact (N₁ p hp).2.1 e
  have B₁ := B.push (name := cn) (scope := cs) (a := a) (cd := ccd) F hck
  refine ⟨⟨rfl, fun b o e => st b o (B.stays b o e), funFrames_hideAll B₁.frames fun env he b hb hf => ?_⟩, ⟨fun b o e => of_hideAll _ e, Nat.le_of_eq (hideAll_size _ _)⟩, fun q hq => ⟨(N₁ q hq).1, hideAll_none _ (List.mem_map_of_mem hq)⟩, st⟩
  cases he with
  | head => exact nL ((Option.some.inj hf : L = b) ▸ hb)
  | tail _ he =>
    obtain ⟨L₁, o₁, hf₁, ho₁⟩ := funFrames_in B.frames env he
    rw [hf₁] at hf
    exact nm L₁ o₁ ho₁ ((Option.some.inj hf : L₁ = b) ▸ hb)
theorem back_of {h h' : Heap} {L : Addr} {m : Str → Option Value} {rest news' : List (Addr × Obj)} (F : Fr h₀ L h m) (N : News h₀ L h (news ++ rest)) (hap : ∀ q ∈ rest, ∀ q' ∈ news, q.1 ≠ q'.1)
    (S : Sub (hideAll h (news.map (·.1))) h') (D : Led (hideAll h (news.map (·.1))) h' news') : Fr h₀ L h' m ∧ News h₀ L h' (news' ++ rest) := by
  have nm : ∀ b o, h₀.get? b = some o → b ∉ news.map (·.1) := fun b o e q => by
    obtain ⟨p, hp, rfl⟩ := List.mem_map.mp q
    rw [(N p (List.mem_append_left _ hp)).2.2] at e; cases e
  have st : ∀ b o, h₀.get? b = some o → (hideAll h (news.map (·.1))).get? b = some o := fun b o e => hideAll_get _ (F.keep b o e) (nm b o e)
  have nL : L ∉ news.map (·.1) := fun q => by
    obtain ⟨p, hp, e⟩ := List.mem_map.mp q
    exact (N p (List.mem_append_left _ hp)).2.1 e
  obtain ⟨oL, es, ep, hL, r⟩ := F.ns
  have hLg := hideAll_get (news.map (·.1)) hL nL
  refine ⟨⟨⟨oL, es, ep, S.keep _ _ hLg, r⟩, fun b o e => S.keep _ _ (st b o e), F.above⟩, fun q hq => ?_⟩
  rcases List.mem_append.mp hq with hq | hq
  · refine ⟨(D q hq).1, fun z => ?_, ?_⟩
    · have := (D q hq).2; rw [z, hLg] at this; cases this
    · cases z : h₀.get? q.1 with
      | none => rfl
      | some o => have := (D q hq).2; rw [st _ _ z] at this; cases this
  · have P := N q (List.mem_append_right _ hq)
    refine ⟨S.keep _ _ (hideAll_get _ P.1 fun z => ?_), P.2⟩
    obtain ⟨p, hp, e⟩ := List.mem_map.mp z
    exact hap q hq p hp e.symm
end


inductive Flight (h₀ : Heap) (outer : List Env) (led : List (Addr × Obj)) (e : Addr) (c : Str) (fl : Value) (h : Heap) : Prop where
  | mk (B : Heap) (dx : Addr) (od : Obj) (t : Tok) (k1 : ∀ b o, h₀.get? b = some o → b ∉ outer.filterMap (·.frame) → B.get? b = some o) (k2 : ∀ q ∈ led, B.get? q.1 = some q.2 ∧ h₀.get? q.1 = none) (k3 : ExcAt B outer e dx fl h)
    (k4 : B.get? dx = some od) (k5 : ∀ h : Heap, h.get? dx = some od → ∃ mA, h.Ns dx mA ∧ mA (Str.ofString "code") = some (.str c t)) (k6 : h₀.get? e = none) (k7 : h₀.UpToSlots h)

section
variable {M : Model} {A : Around} {E : Value → Shared → Prop} {s : Shared} {h₀ : Heap} {env : Env} {outer : List Env} {L e : Addr} {led : List (Addr × Obj)} {c : Str} {fl : Value}
theorem Flight.note {Q : Unit → Shared → Prop} (hfr : A.frames = some (env :: outer)) (hf : env.frame = some L) (x : Flight h₀ (env :: outer) led e c .none s.heap)
    (h : ∀ h', Flight h₀ (env :: outer) led e c (rawInt L) h' → s.heap.UpToSlots h' → Q () { s with heap := h' }) : wpAny M A (noteFrame (.ref e) env) Q E s := by
  obtain ⟨B, dx, od, t, k1, k2, k3, k4, k5, k6, k7⟩ := x
  exact noteFly hfr hf k3 fun h' x1 u1 => h h' ⟨B, dx, od, t, k1, k2, x1, k4, k5, k6, k7.trans u1⟩ u1
theorem Flight.again {Q : Unit → Shared → Prop} {l : List Env} (hf : env.frame = some L) (x : Flight h₀ l led e c (rawInt L) s.heap) (h : Q () s) : wpAny M A (noteFrame (.ref e) env) Q E s := by
  obtain ⟨B, dx, od, t, k1, k2, k3, k4, k5, k6, k7⟩ := x
  exact noteHeld hf k3 h
theorem Flight.set {Q : Unit → Shared → Prop} {l : List Env} {fr : Option Addr} (x : Flight h₀ l led e c fl s.heap)
    (h : ∀ h', Flight h₀ l led e c (fr.elim .none fun f => rawInt f) h' → s.heap.UpToSlots h' → Q () { s with heap := h' }) : wpAny M A (setFlight (.ref e) fr) Q E s := by
  obtain ⟨B, dx, od, t, k1, k2, k3, k4, k5, k6, k7⟩ := x
  exact setFl k3 fun h' x1 u1 => h h' ⟨B, dx, od, t, k1, k2, x1, k4, k5, k6, k7.trans u1⟩ u1
theorem Flight.back {l : List Env} (x : Flight h₀ l led e c fl s.heap) (hf : env.frame = some L)
    (h : ∀ h', Flight h₀ l led e c (rawInt L) h' → s.heap.UpToSlots h' → E (.ref e) { s with heap := h' }) : cameBackBy M A env E (.ref e) s := by
  obtain ⟨B, dx, od, t, k1, k2, k3, k4, k5, k6, k7⟩ := x
  exact cameBack k3 hf fun h' x1 u1 => h h' ⟨B, dx, od, t, k1, k2, x1, k4, k5, k6, k7.trans u1⟩ u1
theorem Flight.pop {h : Heap} (hf : env.frame = some L) (hL : h₀.get? L = none) (x : Flight h₀ (env :: outer) led e c fl h) (y : ∀ {B dx}, ExcAt B (env :: outer) e dx fl h → ExcAt B outer e dx fl h) : Flight h₀ outer led e c fl h := by
  obtain ⟨B, dx, od, t, k1, k2, k3, k4, k5, k6, k7⟩ := x
  refine ⟨B, dx, od, t, fun b o hb hn => k1 b o hb fun hm => ?_, k2, y k3, k4, k5, k6, k7⟩
  rw [List.filterMap_cons, hf] at hm
  rcases List.mem_cons.mp hm with q | q
  · rw [q, hL] at hb; cases hb
  · exact hn q
theorem popD {B : Heap} {dx : Addr} {h : Heap} (x : ExcAt B (env :: outer) e dx fl h) : ExcAt B outer e dx fl h := by
  obtain ⟨a, b, ⟨_, _, c⟩, d⟩ := x
  exact ⟨a, b, c, d⟩
theorem Flight.leave {Q : Unit → Shared → Prop} (hfr : A.frames = some (env :: outer)) (hf : env.frame = some L) (hL : h₀.get? L = none) (x : Flight h₀ (env :: outer) led e c .none s.heap)
    (h : ∀ h', Flight h₀ outer led e c .none h' → Q () { s with heap := h' }) : wpAny M A (leaving env (.ref e)) Q E s := by
  unfold leaving
  exact wpAny_bind (x.note hfr hf fun h₁ x1 u1 => x1.set (fr := none) fun h₂ x2 u2 => h h₂ (x2.pop hf hL popD))
theorem Flight.leaveHeld {Q : Unit → Shared → Prop} (hf : env.frame = some L) (hL : h₀.get? L = none) (x : Flight h₀ (env :: outer) led e c (rawInt L) s.heap)
    (h : ∀ h', Flight h₀ outer led e c .none h' → Q () { s with heap := h' }) : wpAny M A (leaving env (.ref e)) Q E s := by
  unfold leaving
  exact wpAny_bind (x.again hf (x.set (fr := none) fun h₂ x2 u2 => h h₂ (x2.pop hf hL popD)))
end

inductive Hid (Q Q' : Flow → Shared → Prop) : Prop where
  | mk (go : ∀ f s, Q f s → Q' f s)
theorem Hid.go {Q Q' : Flow → Shared → Prop} (x : Hid Q Q') : ∀ f s, Q f s → Q' f s := by cases x; assumption
theorem hid_any {M : Model} {A : Around} {x : Sem Flow} {Q : Flow → Shared → Prop} {E : Value → Shared → Prop} {s : Shared} (k : ∀ Q' : Flow → Shared → Prop, Hid Q Q' → wpAny M A x Q' E s) : wpAny M A x Q E s := k Q ⟨fun _ _ y => y⟩
theorem hid_probe {M : Model} {A : Around} {x : Sem Flow} {Q0 Q : Flow → Shared → Prop} {E : Value → Shared → Prop} {s : Shared} (h : Hid Q0 Q) (f : False) : wpAny M A x Q E s := f.elim
def Spec (w : World) (D : Nat) (f : Addr) (args : List Value) (led : List (Addr × Obj)) (Ok : Value → List (Addr × Obj) → Prop) (Er : Str → List (Addr × Obj) → Prop) : Prop :=
  ∀ (A : Around) (outer : List Env) (A₀ : Around) (base h₀ : Heap) (mean : ExcName → Option Value) (mg mb : Str → Option Value) (s : Shared) (R : Result → Shared → Prop),
    A.handled = none → A.frames = some outer → Below A₀ base outer h₀ → (hd01.heap_39 w.params).In h₀ → TopW' mean mg mb h₀ → Sub h₀ s.heap → Led h₀ s.heap led → A.depth ≤ D → A.units ≤ 9 * D →
    (∀ v h' tk' led', Sub h₀ h' → Led h₀ h' led' → Ok v led' → R (.ok (.ret v)) { s with heap := h', toks := tk' }) →
    (∀ e c h' tk' led', Flight h₀ outer led' e c .none h' → Er c led' → R (.error (.ref e)) { s with heap := h', toks := tk' }) →
    codeAny (model PROG w) A (.call (.ref f) ⟨args, []⟩) R s

theorem frames_in {base h : Heap} {l : List Env} (B : h.FunFrames base l) {b : Addr} (hb : b ∈ l.filterMap (·.frame)) : ∃ o, h.get? b = some o := (B.mem hb).2.imp fun _ x => x.1

theorem Spec.use {w : World} {D : Nat} {f : Addr} {args : List Value} {led rest : List (Addr × Obj)} {Ok : Value → List (Addr × Obj) → Prop} {Er : Str → List (Addr × Obj) → Prop} (C : Spec w D f args led Ok Er)
    {A : Around} {outer : List Env} {A₀ : Around} {base h₀ : Heap} {mean : ExcName → Option Value} {mg mb : Str → Option Value} {s : Shared} {L a : Addr} {m : Str → Option Value} {cn : Str} {cs : Scope} {ccd : Value} {Q E : Value → Shared → Prop}
    (hh : A.handled = none) (hA : A.frames = some (envOf cn cs L a ccd :: outer)) (B : Below A₀ base outer h₀) (F : Fr h₀ L s.heap m) (X : (hd01.heap_39 w.params).In h₀) (T : TopW' mean mg mb h₀) (N : News h₀ L s.heap (led ++ rest)) (hap : ∀ q ∈ rest, ∀ q' ∈ led, q.1 ≠ q'.1)
    (hdp : A.depth ≤ D) (hun : A.units ≤ 9 * D) (hck : cs.kind = .function)
    (k : ∀ v h' tk' led', Fr h₀ L h' m → News h₀ L h' (led' ++ rest) → Ok v led' → Q v { s with heap := h', toks := tk' })
    (kE : ∀ e c h' tk' led', Flight h₀ (envOf cn cs L a ccd :: outer) (led' ++ rest) e c .none h' → h'.Ns L m → Er c led' → E (.ref e) { s with heap := h', toks := tk' }) :
    wpAny (model PROG w) A (call (.ref f) args) Q E s := by
  obtain ⟨B', S', L', st⟩ := base_of (cn := cn) (a := a) (ccd := ccd) B F N hck
  refine wpAny_call (C A (envOf cn cs L a ccd :: outer) _ base _ mean mg mb s _ hh hA B' (fun a o e => st _ _ (X a o e)) (T.keeps st) S' L' hdp hun (fun v h' tk' led' S D o => ?_) fun e c h' tk' led' x o => ?_)
  · obtain ⟨F', N'⟩ := back_of F N hap S D
    exact k v h' tk' led' F' N' o
  · obtain ⟨G, dx, od, t, k1, k2, k3, k4, k5, k6, k7⟩ := x
    have hns : ∀ q ∈ led ++ rest, q.1 ∉ (envOf cn cs L a ccd :: outer).filterMap (·.frame) := fun q hq hm => by
      rw [List.filterMap_cons] at hm
      rcases List.mem_cons.mp hm with z | z
      · exact (N q hq).2.1 z
      · obtain ⟨o, ho⟩ := frames_in B.frames z
        rw [(N q hq).2.2] at ho; cases ho
    have nm : ∀ b o, h₀.get? b = some o → (hideAll s.heap (led.map (·.1))).get? b = some o := st
    refine kE e c h' tk' led' ⟨G, dx, od, t, fun b o hb hn => k1 b o (nm b o hb) hn, fun q hq => ?_, k3, k4, k5, ?_, (Heap.UpToSlots.of_keeps st).trans k7⟩ ?_ o
    · rcases List.mem_append.mp hq with hq | hq
      · refine ⟨(k2 q hq).1, ?_⟩
        cases z : h₀.get? q.1 with
        | none => rfl
        | some o => have := (k2 q hq).2; rw [st _ _ z] at this; cases this
      · have P := N q (List.mem_append_right _ hq)
        refine ⟨k1 _ _ (hideAll_get _ P.1 fun z => ?_) (hns q (List.mem_append_right _ hq)), P.2.2⟩
        obtain ⟨p, hp, e⟩ := List.mem_map.mp z
        exact hap q hq p hp e.symm
    · cases z : h₀.get? e with
      | none => rfl
      | some o => rw [st _ _ z] at k6; cases k6
    · have nL : L ∉ led.map (·.1) := fun q => by
        obtain ⟨p, hp, e⟩ := List.mem_map.mp q
        exact (N p (List.mem_append_left _ hp)).2.1 e
      obtain ⟨oL, es, ep, hL, r⟩ := F.ns
      exact k7.ns ⟨oL, es, ep, hideAll_get _ hL nL, r⟩
end Mine
namespace Mine
section
variable {w : World} {A A₀ : Around} {s : Shared} {base h₀ : Heap} {outer : List Env} {K : Frag} {p : Program} {loose : List Str} {mean : ExcName → Option Value} {mg mb : Str → Option Value} {news : List (Addr × Obj)}
  {prog : Program} {R : Result → Shared → Prop} {name qual : Str} {params : Arguments} {body : List Stmt} {scope : Scope} {dV kV doc pm cdv ct oc : Value} {an od : Option Addr} {osl : Array (Option Value)} {f cc : Addr} {args : Args} {binds : List (Str × Value)}
theorem enter_ledS (X : K.In h₀) (T : Top p loose mean mg mb h₀) (S : Sub h₀ s.heap) (N : Led h₀ s.heap news)
    (ho : K.lookup f = some ⟨oc, od, .func (ksFn name qual params body scope dV kV doc pm an cdv ct cc), osl⟩) (hcd : codeIn K cdv qual = true) (hroom : A.depth < recursionLimit)
    (hbind : BindsTo s (ksFn name qual params body scope dV kV doc pm an cdv ct cc) args binds) (hloc : ∀ y ∈ binds, scope.names.lookup y.1 = some .local)
    (h : ∀ L' h₁, Fr h₀ L' h₁ (fun y => binds.reverse.lookup y) → News h₀ L' h₁ news →
      _root_.PySem.wpAt (model prog w) (A.deeper (ksEnv qual scope L' f cdv cc)) (.func body (ksEnv qual scope L' f cdv cc)) (execs body (ksEnv qual scope L' f cdv cc))
        (fun fl s' => R (.ok (.ret (match fl with | .ret v => v | _ => .none))) s')
        (fun e s' => wpAny (model prog w) (A.deeper (ksEnv qual scope L' f cdv cc)) (leaving (ksEnv qual scope L' f cdv cc) e) (fun _ s'' => R (.error e) s'') (fun e' s'' => R (.error e') s'') s')
        { s with heap := h₁, toks := s.toks + binds.length })
    (hco : scope.isCoroutine = false) (hgen : scope.isGenerator = false) (hk : scope.kind = .function)
    (hcell : ∀ x ∈ scope.names, x.2 ≠ .cell) : codeAny (model prog w) A (.call (.ref f) args) R s := by
  refine ks_codeAny_call_defAt (fd := ksFn name qual params body scope dV kV doc pm an cdv ct cc) (body := body) (binds := binds) hroom (S.keep _ _ (X _ _ ho)) rfl (T.nolimit.keeps S.keep) (codeRec_of (X.keeps S.keep) hcd) rfl hbind hcell hloc (fun h₁ hns hk₁ => ?_) hco hgen hk
  exact h _ h₁ ⟨hns, fun b o e => hk₁ _ _ (S.keep _ _ e), S.size⟩ fun q hq => ⟨hk₁ _ _ (N q hq).1, Nat.ne_of_lt (Heap.lt_size (N q hq).1), (N q hq).2⟩
end

abbrev excO (dx : Option Addr) (t : Addr) : Obj := { cls := .ref 34, dict := dx, data := .fields #[.ref t, .none, .none, .none, .bool false, .none] }
abbrev tupO (vs : List Value) : Obj := { cls := .type "tuple", data := .seq vs.toArray }

theorem excClass {w : World} {h : Heap} (X : (hd01.heap_39 w.params).In h) : ∃ (nm q : Str) (bs : List Value) (dd : Option Addr) (k0 k1 k2 k3 k5 : Option Value) (mN : Str → Option Value),
    h.get? 34 = some (excClassObj nm q 34 33 bs [.type "Exception", .type "BaseException", .type "object"] true [] [] false none dd k0 k1 k2 k3 k5 "Exception.__new__") ∧ h.Ns 33 mN ∧ mN (Str.ofString "code") = none ∧ mN (Str.ofString "told") = none ∧
    mN (Str.ofString "__setattr__") = none ∧ mN (Str.ofString "__getattribute__") = none ∧ mN (Str.ofString "__getattr__") = none ∧ mN (Str.ofString "__init__") = some (.ref 31) := by
  have h34 := X 34 _ (by k_is)
  have h33 := X 33 _ (by k_is)
  refine ⟨_, _, _, _, _, _, _, _, _, _, h34, ⟨_, _, _, h33, rfl, ?_, fun _ => rfl⟩, ?_, ?_, ?_, ?_, ?_, ?_⟩
  · intro e he
    simp at he
    rcases he with rfl | rfl | rfl | rfl | rfl | rfl <;> exact ⟨_, _, rfl⟩
  all_goals (first | rfl | kernel_rfl)

theorem fr_of_but {h₀ h h' : Heap} {L x : Addr} {m : Str → Option Value} (F : Fr h₀ L h m) (hx : h₀.get? x = none) (hxL : x ≠ L) (k : ∀ b o, b ≠ x → h.get? b = some o → h'.get? b = some o) : Fr h₀ L h' m := by
  obtain ⟨oL, es, ep, hL, r⟩ := F.ns
  exact ⟨⟨oL, es, ep, k _ _ (Ne.symm hxL) hL, r⟩, fun b o e => k b o (fun q => by rw [q, hx] at e; cases e) (F.keep b o e), F.above⟩

theorem fr_of_but2 {h₀ h h' : Heap} {L x y : Addr} {m : Str → Option Value} (F : Fr h₀ L h m) (hx : h₀.get? x = none) (hy : h₀.get? y = none) (hxL : x ≠ L) (hyL : y ≠ L) (k : ∀ b o, b ≠ x → b ≠ y → h.get? b = some o → h'.get? b = some o) : Fr h₀ L h' m := by
  obtain ⟨oL, es, ep, hL, r⟩ := F.ns
  exact ⟨⟨oL, es, ep, k _ _ (Ne.symm hxL) (Ne.symm hyL) hL, r⟩, fun b o e => k b o (fun q => by rw [q, hx] at e; cases e) (fun q => by rw [q, hy] at e; cases e) (F.keep b o e), F.above⟩

theorem no_at {h₀ h : Heap} {L : Addr} {m : Str → Option Value} (F : Fr h₀ L h m) : h₀.get? h.objs.size = none := by
  cases e : h₀.get? h.objs.size with
  | none => rfl
  | some o => exact absurd (Heap.lt_size (F.keep _ _ e)) (Nat.lt_irrefl _)

theorem callWith_P {P : Heap → Prop} {M : Model} {A : Around} {E : Value → Shared → Prop} {s : Shared} {env : Env} {pos : Pos} {f : Value} {first : List Value} {Q : Value → Shared → Prop} {e : Expr} {rest : List Expr}
    (hk : ∀ h, P h → ∃ k, (k = Keeper.frame ∨ k = Keeper.machine ∨ k = Keeper.boundFrame) ∧ Looks M h (keeperOf f) k)
    (h : wpAny M A (spliced (backTo pos (starEach (e :: rest) env))) (fun vs s₁ => P s₁.heap ∧ wpAny M A (call f (first ++ vs)) Q E s₁) E s)
    (he : starEach (e :: rest) env = (false, eval e env) :: starEach rest env := by rfl) (hplain : (backTo pos (starEach rest env)).any (·.1) = false := by rfl) :
    wpAny M A (callWith pos f first (backTo pos (starEach (e :: rest) env)) []) Q E s := by
  rw [he] at h ⊢
  exact callWith_of (by show ((false || (backTo pos (starEach rest env)).any (·.1)) || false) = false; rw [hplain]; rfl) hk (evalArgs_plain h)

theorem looks_mw {M : Model} {h : Heap} {q : Addr} {a b : Value} (hq : h.get? q = some { cls := .type "method-wrapper", data := .fields #[a, b] }) : Looks M h (keeperOf (.ref q)) .machine := by
  unfold keeperOf
  exact (Looks.ld (part := none) hq).andThen .now

theorem init_spec {w : World} {e t : Addr} {t1 t2 : Tok} {c m : Str} {vs : List Value} :
    Spec w 900 31 [.ref e, .str c t1, .str m t2] [(e, excO none t), (t, tupO vs)]
      (fun v l => v = .none ∧ ∃ dx od t', l = [(e, excO (some dx) t'), (dx, od)] ∧ dx ≠ e ∧ (∀ h : Heap, h.get? dx = some od → ∃ mA, h.Ns dx mA ∧ mA (Str.ofString "code") = some (.str c t1))) (fun _ _ => False) := by
  intro A outer A₀ base h₀ mean mg mb s R hh hA B X T S N hdp hun h hE
  obtain ⟨hd, dp, fr, gd, un⟩ := A
  dsimp only at hh hA hdp hun
  subst hh hA
  refine' enter_ledS (K := hd01.heap_39 w.params) (binds := [(Str.ofString "self", Value.ref e), (Str.ofString "code", .str c t1), (Str.ofString "told", .str m t2)]) X T S N ?k6 ?k7 ?k8 ?k9 ?kB ?_ ?c2 ?c3 ?c4 ?c5
  (case k6 => k_is)
  (case k7 => k_is)
  (case k8 => (simp only [recursionLimit]; omega))
  (case k9 => exact binds_K (X.keeps S.keep) rfl (by k_is) rfl rfl rfl)
  (case c5 => decide)
  (case kB => exact locs rfl)
  (case c2 => exact rfl)
  (case c3 => exact rfl)
  (case c4 => exact rfl)
  intro L' h₁ F' N'
  (try dsimp only)
  iterate 3 walk1
  have I : InstAt h₁ e (excO none t) 34 none := ⟨(N' _ (.head _)).1, rfl, rfl, trivial⟩
  k_dflt (refine ks_node (by k_asm) (by k_asm) (by k_asm) (by k_asm) (by k_is) (by rfl) (by rfl) I (by k_is) (by rfl) (by first | rfl | decide +kernel) (by k_is) (by k_is) (by k_is) (by k_is) (by decide) (by rfl) (by rfl) (by rfl) (by rfl) (by decide +kernel) (by first | boot_by_name | rfl | kernel_rfl) ?_; intro so' h' F' N' l1; (try k_lt l1))
  have X' := X.keeps F'.keep
  obtain ⟨nm, q, bs, dd, k0, k1, k2, k3, k5, mN, hC, hNs, n1, n2, n3, n4, n5, n6⟩ := excClass X'
  have hmro : Looks (model PROG w) h' (mroOf (.ref 34)) (.ref 34 :: [.type "Exception", .type "BaseException", .type "object"]) := fun A Q E s k q => by
    obtain ⟨hh, g, d, tt, os⟩ := s
    exact wpAny_mroOf_exc (k _ _ hC) q
  have hno : Looks (model PROG w) h' (opaqueClassAbove (.ref 34)) none := looks_opaque X' (by k_is)
  refine sup_getMethod (D := 34) (C := 34) (x := e) (h := h') (N' _ (.head _)).1 hno hmro rfl X' (by kernel_rfl) (N' _ (.tail _ (.head _))).1 rfl ?_ (looks_mroIn X' (by k_is)) ?_
  · exact fun q => by have z := (N' _ (.tail _ (.head _))).1; dsimp only at z; rw [q, hC] at z; cases z
  have hmw : (h'.push { cls := .type "method-wrapper", data := .fields #[.builtin "Exception.__init__", .ref e] }).get? h'.objs.size = some { cls := .type "method-wrapper", data := .fields #[.builtin "Exception.__init__", .ref e] } := Heap.get?_push_size _ rfl
  have F₂ := F'.push { cls := .type "method-wrapper", data := .fields #[.builtin "Exception.__init__", .ref e] }
  have N₂ := N'.push F' { cls := .type "method-wrapper", data := .fields #[.builtin "Exception.__init__", .ref e] }
  generalize h'.objs.size = mw at hmw N₂ ⊢
  generalize h'.push { cls := .type "method-wrapper", data := .fields #[.builtin "Exception.__init__", .ref e] } = h₂ at hmw F₂ N₂ ⊢
  clear F' N' hmro hno hC hNs n1 n2 n3 n4 n5 n6 X'
  refine callWith_P (P := fun hh => hh.get? mw = some { cls := .type "method-wrapper", data := .fields #[.builtin "Exception.__init__", .ref e] }) (fun hh hq => ⟨_, .inr (.inl rfl), looks_mw hq⟩) ?_
  iterate 3 walk1
  refine ⟨hmw, ?_⟩
  have hLe : e ≠ L' := (N₂ _ (.tail _ (.tail _ (.head _)))).2.1
  have he0 : h₀.get? e = none := (N₂ _ (.tail _ (.tail _ (.head _)))).2.2
  refine call_mw (x := e) (C := 34) hmw (N₂ _ (.tail _ (.tail _ (.head _)))).1 (X.keeps F₂.keep 34 _ (by k_is)) fun h₃ e₁ e₂ e₃ e₄ => ?_
  have F₃ := fr_of_but F₂ he0 hLe e₃
  have z0 : h₀.get? h₂.objs.size = none := no_at F₂
  generalize h₂.objs.size = t' at e₁ e₂ e₄ z0
  clear e₃ hmw F₂ N₂ e₄
  iterate 5 (first | walk1 | (dsimp only; walk1) | skip)
  obtain ⟨nm, q, bs, dd, k0, k1, k2, k3, k5, mN, hC, hNs, n1, n2, n3, n4, n5, n6⟩ := excClass (X.keeps F₃.keep)
  refine set_first (C := 34) F.store_Exception hC hNs n3 n1 (by rw [typeLookup_type, builtinLookup_eq_fast]; kernel_rfl) e₁ fun h₄ tk₄ od b₁ b₂ b₃ b₄ b₅ => ?_
  have F₄ := fr_of_but F₃ he0 hLe b₄
  have hdx0 : h₀.get? h₃.objs.size = none := no_at F₃
  have hdxL : h₃.objs.size ≠ L' := Nat.ne_of_gt F₃.ns.lt
  have hdxe : h₃.objs.size ≠ e := Nat.ne_of_gt (Heap.lt_size e₁)
  clear b₄ b₅ F₃ hC hNs n1 n2 n3 n4 n5 n6 e₁ e₂
  generalize h₃.objs.size = dx at b₁ b₂ b₃ hdx0 hdxe hdxL
  iterate 5 (first | walk1 | (dsimp only; walk1) | skip)
  obtain ⟨nm, q, bs, dd, k0, k1, k2, k3, k5, mN, hC, hNs, n1, n2, n3, n4, n5, n6⟩ := excClass (X.keeps F₄.keep)
  have I₄ : h₄.Inst e 34 (fun y => if y = Str.ofString "code" then some (.str c t1) else none) := ⟨_, b₁, rfl, (fun c q => by cases q), .inr ⟨dx, rfl, hdxe, b₃⟩⟩
  refine store_attr (C := 34) F.store_Exception hC hNs n3 n2 (by rw [typeLookup_type, builtinLookup_eq_fast]; kernel_rfl) (fun q => by rw [q, hC] at b₁; cases b₁) I₄ fun h₅ tk₅ I₅ c₁ c₂ => ?_
  obtain ⟨o₁, c₃, c₄, c₅, c₆, c₇⟩ := c₂ _ b₁
  have c₈ := c₇ dx rfl
  obtain ⟨oc, od', oda, osl⟩ := o₁
  dsimp only at c₄ c₅ c₆ c₈
  subst c₄ c₅ c₆ c₈
  have F₅ : Fr h₀ L' h₅ _ := fr_of_but2 F₄ he0 hdx0 hLe hdxL fun b o n1 n2 => c₁ b o n1 fun o₀ dx' z1 z2 => by
    rw [b₁] at z1
    obtain rfl := Option.some.inj z1
    obtain rfl := Option.some.inj z2
    exact n2
  obtain ⟨o₂, i₁, _, _, i₂⟩ := I₅
  rw [c₃] at i₁
  obtain rfl := Option.some.inj i₁
  have i₃ : h₅.Ns1 dx (fun y => if y = Str.ofString "told" then some (.str m t2) else if y = Str.ofString "code" then some (.str c t1) else none) := by
    rcases i₂ with ⟨z, _⟩ | ⟨dx', z, _, z2⟩
    · cases z
    · obtain rfl := Option.some.inj z
      exact z2
  obtain ⟨o₅, es₅, ep₅, hdx₅, hd₅, hk₅, _, hm₅⟩ := i₃
  iterate 3 (first | walk1 | (dsimp only; walk1) | skip)
  refine h _ _ _ [(e, excO (some dx) t'), (dx, o₅)] (Sub.of F₅) (fun p hp => ?_) ⟨rfl, dx, o₅, t', rfl, hdxe, fun hh z => ⟨_, ⟨o₅, es₅, ep₅, z, hd₅, hk₅, hm₅⟩, ?_⟩⟩
  · rcases List.mem_cons.mp hp with rfl | hp
    · exact ⟨c₃, he0⟩
    · rw [List.mem_singleton.mp hp]
      exact ⟨hdx₅, hdx0⟩
  · rw [if_neg (by decide), if_pos rfl]
end Mine
namespace Mine
theorem raiseD {w : World} {M : Model} {A : Around} {E : Value → Shared → Prop} {env : Env} {s : Shared} {x : Sem Value} {Q : Flow → Shared → Prop} (hh : A.handled = none)
    (h : wpAny M A x (fun v s₁ => ∃ e t dx, v = .ref e ∧ (hd01.heap_39 w.params).In s₁.heap ∧
      s₁.heap.get? e = some { cls := .ref 34, dict := some dx, data := .fields #[.ref t, .none, .none, .none, .bool false, .none] } ∧ E (.ref e) s₁) E s) :
    wpAny M A (raiseStmt env (some x) none) Q E s := by
  have hcB : ([Value.ref 34, .type "Exception", .type "BaseException", .type "object"]).contains (.type "BaseException") = true := by decide
  unfold raiseStmt
  refine wpAny_bind (wpAny_mono h (fun v s₁ h₁ => ?_) fun _ _ x => x)
  obtain ⟨e, t, dx, rfl, X, he, hE⟩ := h₁
  obtain ⟨hp, g, d, tk, os⟩ := s₁
  obtain ⟨nm, q, bs, dd, k0, k1, k2, k3, k5, mN, hC, _⟩ := excClass X
  repeat (first | with_reducible refine wpAny_loadPart_at he ?_ | with_reducible refine wpAny_loadPart_at hC ?_ | (with_reducible refine wpAny_isSubtype_exc hC ?_; rw [hcB]) | wp_step)
  exact wpAny_raiseNew_none hh hE

theorem trim (h : Heap) (n : Nat) (k : ∀ b o, h.get? b = some o → b < n) : ∃ g : Heap, (∀ b, g.get? b = h.get? b) ∧ g.objs.size ≤ n := by
  refine ⟨⟨(h.objs.toList.take n).toArray, h.life⟩, fun b => ?_, by simp; exact Nat.min_le_left _ _⟩
  have e : ((h.objs.toList.take n).toArray)[b]? = if b < n then h.objs[b]? else none := by
    rw [List.getElem?_toArray, List.getElem?_take, Array.getElem?_toList]
  by_cases hb : b < n
  · unfold Heap.get?
    rw [if_pos hb] at e
    simp only [e]
  · have h1 : h.get? b = none := by
      cases z : h.get? b with
      | none => rfl
      | some o => exact absurd (k b o z) hb
    rw [h1]
    unfold Heap.get?
    rw [if_neg hb] at e
    simp only [e]

inductive FlightNew (h₀ : Heap) (l : List Env) (led : List (Addr × Obj)) (e : Addr) (c : Str) (h : Heap) : Prop where
  | mk (B : Heap) (dx : Addr) (od : Obj) (t : Tok) (tt : Addr) (k1 : ∀ b o, h₀.get? b = some o → b ∉ l.filterMap (·.frame) → B.get? b = some o) (k2 : ∀ q ∈ led, B.get? q.1 = some q.2 ∧ h₀.get? q.1 = none)
    (a1 : h.get? e = some (excV dx #[.ref tt, .none, .none, .none, .bool false, .none])) (a2 : B.StaysIn h) (a3 : B.get? e = none) (a4 : h.FunFrames B l)
    (k4 : B.get? dx = some od) (k5 : ∀ h : Heap, h.get? dx = some od → ∃ mA, h.Ns dx mA ∧ mA (Str.ofString "code") = some (.str c t)) (k6 : h₀.get? e = none) (k7 : h₀.UpToSlots h)

theorem FlightNew.leave {M : Model} {A : Around} {E : Value → Shared → Prop} {s : Shared} {h₀ : Heap} {env : Env} {outer : List Env} {L e : Addr} {led : List (Addr × Obj)} {c : Str} {Q : Unit → Shared → Prop} (hfr : A.frames = some (env :: outer)) (hf : env.frame = some L) (hL : h₀.get? L = none) (x : FlightNew h₀ (env :: outer) led e c s.heap)
    (h : ∀ h', Flight h₀ outer led e c .none h' → Q () { s with heap := h' }) : wpAny M A (leaving env (.ref e)) Q E s := by
  obtain ⟨B, dx, od, t, tt, k1, k2, k3, k4, k5, k6, k7, k8, k9, k10⟩ := x
  refine Mine.leaveNew hfr k6 hf k3 k4 k5 fun h' x1 u1 => h h' ⟨B, dx, od, t, fun b o hb hn => k1 b o hb fun hm => ?_, k2, x1, k7, k8, k9, k10.trans u1⟩
  rw [List.filterMap_cons, hf] at hm
  rcases List.mem_cons.mp hm with q | q
  · rw [q, hL] at hb; cases hb
  · exact hn q

theorem raise_spec {w : World} {A : Around} {outer : List Env} {A₀ : Around} {base h₀ : Heap} {mean : ExcName → Option Value} {mg mb : Str → Option Value} {s : Shared} {L a : Addr} {m : Str → Option Value} {cn : Str} {cs : Scope} {ccd : Value} {Q : Flow → Shared → Prop} {E : Value → Shared → Prop} {news : List (Addr × Obj)}
    {np cpos pos p1 p2 : Pos} {k1 k2 : Nat} {c1 c2 : Str}
    (hh : A.handled = none) (hA : A.frames = some (envOf cn cs L a ccd :: outer)) (B : Below A₀ base outer h₀) (F : Fr h₀ L s.heap m) (X : (hd01.heap_39 w.params).In h₀) (T : TopW' mean mg mb h₀) (N : News h₀ L s.heap news)
    (hdp : A.depth ≤ 880) (hun : A.units ≤ 9 * 880) (hck : cs.kind = .function) (hx : (envOf cn cs L a ccd).kindOf "BasicError" = some .globalImplicit)
    (kE : ∀ e h' tk', FlightNew h₀ (envOf cn cs L a ccd :: outer) news e c1 h' → E (.ref e) { s with heap := h', toks := tk' }) :
    wpAny (model PROG w) A (exec (.Raise (some (.Call (.Name (Str.ofString "BasicError") np) [.Constant (.str c1) k1 p1, .Constant (.str c2) k2 p2] [] cpos)) none pos) (envOf cn cs L a ccd)) Q E s := by
  rw [arm_exec_Raise]
  refine wpAny_bind (wpAny_standAt ?_)
  refine raiseD (w := w) hh ?_
  refine wpAny_bind (wpAny_mono (wpAny_Call_ofName ?_) (fun v s₃ h₃ => wpAny_bind (wpAny_standAt (wpAny_pure h₃))) fun _ _ x => x)
  refine name_K F X (topRead_of T) (by k_is) ?_ hck hx
  refine callWith_K X (by k_is) ?_
  iterate 5 walk1
  have Xs := X.keeps F.keep
  refine ⟨Xs, ?_⟩
  obtain ⟨nm, q, bs, dd, k0, k1, k2, k3, k5, mN, hC, hNs, n1, n2, n3, n4, n5, n6⟩ := excClass Xs
  have B' := B.push (name := cn) (scope := cs) (a := a) (cd := ccd) F hck
  refine wpAny_call_exc_init PySem.F.excBase_Exception hC hNs n6 (Xs 31 _ (by k_is)) rfl fun h' e hm => ?_
  obtain ⟨t, he, ht0, ht⟩ := hm.there
  obtain ⟨g, hg, hgs⟩ := trim s.heap h'.objs.size fun b o z => Heap.lt_size (hm.keeps b o z)
  have hgk : ∀ b o, s.heap.get? b = some o → g.get? b = some o := fun b o z => (hg b).trans z
  have hgk' : ∀ b o, g.get? b = some o → s.heap.get? b = some o := fun b o z => (hg b).symm.trans z
  have Bg : Below (A₀.deeper (envOf cn cs L a ccd)) base (envOf cn cs L a ccd :: outer) g := ⟨B'.stack, fun b o z => hgk _ _ (B'.stays b o z), B'.frames.of_keeps fun b o z _ => ⟨o, hgk _ _ z, rfl⟩⟩
  refine wpAny_call (init_spec (e := e) (t := t) (vs := [.str c1 s.toks, .str c2 (s.toks + 1)]) _ (envOf cn cs L a ccd :: outer) _ _ g mean mg mb _ _ hh hA Bg (Xs.keeps hgk) ((T.keeps F.keep).keeps hgk) ⟨fun b o z => hm.keeps _ _ (hgk' _ _ z), hgs⟩ ?_ ?_ ?_ (fun v h₂ tk₂ led₂ S₂' L₂' o => ?_) fun _ _ _ _ _ _ z => z.elim)
  · intro p hp
    rcases List.mem_cons.mp hp with rfl | hp
    · exact ⟨he, (hg _).trans hm.new⟩
    · rw [List.mem_singleton.mp hp]
      exact ⟨ht, (hg _).trans ht0⟩
  · show A.depth + 1 ≤ 900
    omega
  · show A.units + (Code.builtin "type.__call__" ⟨[.ref 34, .str c1 s.toks, .str c2 (s.toks + 1)], []⟩).cUnits ≤ 9 * 900
    have : (Code.builtin "type.__call__" ⟨[.ref 34, .str c1 s.toks, .str c2 (s.toks + 1)], []⟩).cUnits ≤ 10 := by show _ ≤ _; exact Nat.le_of_ble_eq_true rfl
    omega
  have S₂ : ∀ b o, s.heap.get? b = some o → h₂.get? b = some o := fun b o z => S₂'.keep _ _ (hgk _ _ z)
  have L₂ : ∀ p ∈ led₂, h₂.get? p.1 = some p.2 ∧ s.heap.get? p.1 = none := fun p hp => ⟨(L₂' p hp).1, (hg _).symm.trans (L₂' p hp).2⟩
  obtain ⟨rfl, dx, od, t', rfl, hde, hcode⟩ := o
  have he₂ := L₂ _ (.head _)
  have hd₂ := L₂ _ (.tail _ (.head _))
  refine ⟨rfl, e, t', dx, rfl, Xs.keeps S₂, he₂.1, kE e h₂ tk₂ ?_⟩
  have hfr : ∀ b ∈ (envOf cn cs L a ccd :: outer).filterMap (·.frame), ∃ o, s.heap.get? b = some o := fun b hb => frames_in B'.frames hb
  have nfr : ∀ b, s.heap.get? b = none → b ∉ (envOf cn cs L a ccd :: outer).filterMap (·.frame) := fun b hb hm => by
    obtain ⟨o, ho⟩ := hfr b hm
    rw [hb] at ho; cases ho
  have hin : ∀ env ∈ (envOf cn cs L a ccd :: outer), ∀ b, env.frame = some b → b ∈ e :: (envOf cn cs L a ccd :: outer).filterMap (·.frame) := fun env he b hb => .tail _ (List.mem_filterMap.mpr ⟨env, he, hb⟩)
  refine ⟨hideAll h₂ (e :: (envOf cn cs L a ccd :: outer).filterMap (·.frame)), dx, od, _, t', fun b o hb hn => ?_, fun p hp => ⟨?_, (N p hp).2.2⟩, he₂.1, fun b o z => of_hideAll _ z, hideAll_none _ (.head _), ?_, ?_, hcode, ?_, ?_⟩
  · refine hideAll_get _ (S₂ _ _ (F.keep _ _ hb)) fun hm => ?_
    rcases List.mem_cons.mp hm with z | z
    · rw [z] at hb; rw [F.keep _ _ hb] at he₂; exact absurd he₂.2 (by simp)
    · exact hn z
  · refine hideAll_get _ (S₂ _ _ (N p hp).1) fun hm => ?_
    rcases List.mem_cons.mp hm with z | z
    · have := (N p hp).1; rw [z, he₂.2] at this; cases this
    · rw [List.filterMap_cons] at z
      rcases List.mem_cons.mp z with z | z
      · exact (N p hp).2.1 z
      · obtain ⟨o, ho⟩ := frames_in B.frames z
        rw [(N p hp).2.2] at ho; cases ho
  · exact funFrames_hide (B'.frames.of_keeps fun b o z _ => ⟨o, S₂ _ _ z, rfl⟩) hin
  · refine hideAll_get _ hd₂.1 fun hm => ?_
    rcases List.mem_cons.mp hm with z | z
    · exact hde z
    · exact nfr _ hd₂.2 z
  · cases z : h₀.get? e with
    | none => rfl
    | some o => rw [F.keep _ _ z] at he₂; exact absurd he₂.2 (by simp)
  · exact Heap.UpToSlots.of_keeps fun b o z => S₂ _ _ (F.keep _ _ z)
end Mine
namespace Mine

def Stop (P : Prop) : Prop := P
theorem Stop.intro {P : Prop} (h : Stop P) : P := h

theorem execs_mid {M : Model} {A : Around} {E : Value → Shared → Prop} {s : Shared} {env : Env} {st : Stmt} {rest : List Stmt} {Q : Flow → Shared → Prop} (Mid : Shared → Prop)
    (h1 : wpAny M A (exec st env) (fun f s' => f = .next ∧ Mid s') E s) (h2 : ∀ s', Mid s' → wpAny M A (execs rest env) Q E s') : wpAny M A (execs (st :: rest) env) Q E s :=
  wpAny_execs_cons (wpAny_mono h1 (fun f s' h => by obtain ⟨rfl, h⟩ := h; exact h2 s' h) fun _ _ x => x)

abbrev pgEs (w : World) (t1 t2 : Tok) (o : Addr) (v : Value) : List DictEntry := [⟨PyData.keyHash w.params (Str.ofString "out"), .str (Str.ofString "out") t1, .ref o⟩, ⟨PyData.keyHash w.params (Str.ofString "row"), .str (Str.ofString "row") t2, v⟩]
abbrev pgLed (w : World) (p d o : Addr) (t1 t2 t3 : Tok) (row : Str) (its : Array Value) (k : Nat) : List (Addr × Obj) := [(p, instObj 54 d), (d, dictOf (pgEs w t1 t2 o (.str row t3)) 2), (o, W.listOf its k)]

local macro_rules | `(tactic| walk_at "Exists") => `(tactic| refine Stop.intro ?_)
local macro_rules | `(tactic| walk_at "exec While") => `(tactic| refine Stop.intro ?_)

theorem end_row_spec {w : World} {p d o : Addr} {t1 t2 t3 : Tok} {k : Nat} {its : Array Value} {row : Str} (hpd : @Ne Nat p d) (hpo : @Ne Nat p o) (hdo : @Ne Nat d o) (hits : its.size ≤ 100000) :
    Spec w 870 65 [.ref p] (pgLed w p d o t1 t2 t3 row its k)
      (fun v l => v = .none ∧ ∃ t3' k', l = pgLed w p d o t1 t2 t3' (Str.ofString "") (its.push (.str row t3)) k') (fun _ _ => False) := by
  intro A outer A₀ base h₀ mean mg mb s R hh hA B X T S N hdp hun h hE
  obtain ⟨hd, dp, fr, gd, un⟩ := A
  dsimp only at hh hA hdp hun
  subst hh hA
  refine' enter_led (K := hd01.heap_39 w.params) (binds := [(Str.ofString "page", Value.ref p)]) X T S N ?k6 ?k7 ?k8 ?k9 ?kB ?_ ?c2 ?c3 ?c4 ?c5
  ((case k6 => k_is); (case k7 => k_is); (case k8 => (simp only [recursionLimit]; omega)); (case k9 => exact BindsTo.of_eq rfl); (case c5 => decide); (case kB => exact locs rfl); (case c2 => exact rfl); (case c3 => exact rfl); (case c4 => exact rfl); intro _ _ _ _; (try dsimp only))
  (repeat' (first | (with_reducible ((show wpAny _ _ (exec (PySem.Stmt.If _ _ _ _) _) _ _ _); (fail_if_success (refine hid_probe (by assumption) ?_)); refine hid_any (fun _ _ => ?_))) | (with_reducible (refine Hid.go (by assumption) _ _ ?_)) | ((with_reducible show wpAny _ _ (execs _ _) _ _ _); dsimp only) | (with_reducible (k_here; (with_reducible show wpAny _ _ (call (Value.ref 65) _) _ _ _); k_dflt (refine' Spec.use (end_row_spec ?h1 ?h2 ?h3 ?h4) (rest := []) ?b0 ?b1 ?b2 ?b3 ?b4 ?b5 ?b6 ?b7 ?b8 ?b9 ?b10 ?_ ?bE; (case b0 => exact rfl); (case b1 => exact rfl); (case b2 => assumption); (case b3 => assumption); (case b4 => assumption); (case b5 => assumption); (case b6 => assumption); (case b7 => exact fun _ h => nomatch h); (case h1 => assumption); (case h2 => assumption); (case h3 => assumption); (case h4 => omega); (case b8 => simp only [Around.deeper]; omega); (case b9 => simp only [Around.deeper]; omega); (case b10 => rfl); (case bE => exact fun _ _ _ _ _ _ _ z => z.elim)); intro v9 h9 tk9 led9 F9 N9 o9; obtain ⟨z9, t9, k9, y9⟩ := o9; subst z9 y9; (try simp only [List.append_nil] at N9); (try k_sweep))) | (k_unfold; (try dsimp only)) | walk1 | (dsimp only; walk1)))
  exact h _ _ _ _ (Sub.of (by assumption)) (Led.of (by assumption)) ⟨rfl, _, _, rfl⟩


abbrev PS := List Str × Str
def endRow (s : PS) : PS := (s.1 ++ [s.2], Str.ofString "")
def breakFor (s : PS) (n : Nat) (width : Int) : PS := if 0 < width ∧ 0 < (s.2.length : Int) ∧ width < (s.2.length : Int) + (n : Int) then endRow s else s
theorem slice_lt {x : Str} {w : Int} (h : 0 < w ∧ w < (x.length : Int)) : (Txt.slice x (some w) none).length < x.length := by
  have := (fact_slice_sn x w).1 (by omega) (by omega)
  omega
def chop (width : Int) (x : Str) : List Str × Str :=
  if h : 0 < width ∧ width < (x.length : Int) then ((Txt.slice x none (some width)) :: (chop width (Txt.slice x (some width) none)).1, (chop width (Txt.slice x (some width) none)).2) else ([], x)
termination_by x.length
decreasing_by all_goals exact slice_lt h
theorem chop_stop {width : Int} {x : Str} (h : ¬ (0 < width ∧ width < (x.length : Int))) : chop width x = ([], x) := by
  rw [chop, dif_neg h]
theorem chop_go {width : Int} {x : Str} (h : 0 < width ∧ width < (x.length : Int)) : chop width x = ((Txt.slice x none (some width)) :: (chop width (Txt.slice x (some width) none)).1, (chop width (Txt.slice x (some width) none)).2) := by
  rw [chop, dif_pos h]
theorem chop_len (width : Int) (x : Str) : (chop width x).2.length ≤ x.length ∧ (chop width x).1.length ≤ x.length := by
  generalize hn : x.length = n
  induction n using Nat.strongRecOn generalizing x with
  | ind n ih =>
    by_cases h : 0 < width ∧ width < (x.length : Int)
    · rw [chop_go h]
      have h1 := slice_lt h
      have := ih _ (by omega) (Txt.slice x (some width) none) rfl
      simp only [List.length_cons]
      omega
    · rw [chop_stop h]
      simp only [List.length_nil]
      omega
def writeText (s : PS) (text : Str) (width : Int) : PS := ((breakFor s text.length width).1 ++ (chop width text).1, (breakFor s text.length width).2 ++ (chop width text).2)

theorem frCongr {h₀ h : Heap} {L : Addr} {m m' : Str → Option Value} (F : Fr h₀ L h m) (e : ∀ y, m y = m' y) : Fr h₀ L h m' := (funext e : m = m') ▸ F

inductive PgSt (w : World) (h₀ : Heap) (L : Addr) (m : Str → Option Value) (p d o : Addr) (t1 t2 : Tok) (st : PS) (s s' : Shared) : Prop where
  | mk (h : Heap) (tk : Nat) (t3 : Tok) (k : Nat) (its : Array Value) (e : s' = { s with heap := h, toks := tk }) (F : Fr h₀ L h m) (N : News h₀ L h (pgLed w p d o t1 t2 t3 st.2 its k)) (hS : StrsAre its.toList st.1)

theorem StrsAre.push1 {its : Array Value} {rows : List Str} (h : StrsAre its.toList rows) (x : Str) (t : Tok) : StrsAre (its.push (.str x t)).toList (rows ++ [x]) := by
  rw [Array.toList_push]
  exact StrsAre.append' h (.cons _ _ .nil)
theorem StrsAre.size {its : Array Value} {rows : List Str} (h : StrsAre its.toList rows) : its.size = rows.length := by
  have := h.len_eq
  simpa using this

inductive PgOut (w : World) (p d o : Addr) (t1 t2 : Tok) (st : PS) (l : List (Addr × Obj)) : Prop where
  | mk (t3 : Tok) (k : Nat) (its : Array Value) (e : l = pgLed w p d o t1 t2 t3 st.2 its k) (hS : StrsAre its.toList st.1)

theorem write_text_spec {w : World} {p d o : Addr} {t1 t2 t3 tt tw : Tok} {k : Nat} {its : Array Value} {row text : Str} {rows : List Str} {width : Int} (hpd : @Ne Nat p d) (hpo : @Ne Nat p o) (hdo : @Ne Nat d o) (hS : StrsAre its.toList rows) (hits : rows.length ≤ 50000) (hrow : row.length ≤ 50000) (htext : text.length ≤ 50000) (hw0 : 0 ≤ width) (hw1 : width ≤ 100) :
    Spec w 860 72 [.ref p, .str text tt, .int width tw] (pgLed w p d o t1 t2 t3 row its k) (fun v l => v = .none ∧ PgOut w p d o t1 t2 (writeText (rows, row) text width) l) (fun _ _ => False) := by
  intro A outer A₀ base h₀ mean mg mb s R hh hA B X T S N hdp hun h hE
  obtain ⟨hd, dp, fr, gd, un⟩ := A
  dsimp only at hh hA hdp hun
  subst hh hA
  have hsz := StrsAre.size hS
  refine' enter_led (K := hd01.heap_39 w.params) (binds := [(Str.ofString "page", Value.ref p), (Str.ofString "text", .str text tt), (Str.ofString "width", .int width tw)]) X T S N ?k6 ?k7 ?k8 ?k9 ?kB ?_ ?c2 ?c3 ?c4 ?c5
  ((case k6 => k_is); (case k7 => k_is); (case k8 => (simp only [recursionLimit]; omega)); (case k9 => exact BindsTo.of_eq rfl); (case c5 => decide); (case kB => exact locs rfl); (case c2 => exact rfl); (case c3 => exact rfl); (case c4 => exact rfl); intro _ _ _ _; (try dsimp only))
  rename_i Lf h₁ F₁ N₁
  refine execs_mid (PgSt w h₀ Lf (fun y => List.lookup y [(Str.ofString "page", Value.ref p), (Str.ofString "text", .str text tt), (Str.ofString "width", .int width tw)].reverse) p d o t1 t2 (breakFor (rows, row) text.length width) s) ?_ fun s' hm => ?_
  · (repeat' (first | (with_reducible ((show wpAny _ _ (exec (PySem.Stmt.If _ _ _ _) _) _ _ _); (fail_if_success (refine hid_probe (by assumption) ?_)); refine hid_any (fun _ _ => ?_))) | (with_reducible (refine Hid.go (by assumption) _ _ ?_)) | ((with_reducible show wpAny _ _ (execs _ _) _ _ _); dsimp only) | (with_reducible (k_here; (with_reducible show wpAny _ _ (call (Value.ref 65) _) _ _ _); k_dflt (refine' Spec.use (end_row_spec ?h1 ?h2 ?h3 ?h4) (rest := []) ?b0 ?b1 ?b2 ?b3 ?b4 ?b5 ?b6 ?b7 ?b8 ?b9 ?b10 ?_ ?bE; (case b0 => exact rfl); (case b1 => exact rfl); (case b2 => assumption); (case b3 => assumption); (case b4 => assumption); (case b5 => assumption); (case b6 => assumption); (case b7 => exact fun _ h => nomatch h); (case h1 => assumption); (case h2 => assumption); (case h3 => assumption); (case h4 => omega); (case b8 => simp only [Around.deeper]; omega); (case b9 => simp only [Around.deeper]; omega); (case b10 => rfl); (case bE => exact fun _ _ _ _ _ _ _ z => z.elim)); intro v9 h9 tk9 led9 F9 N9 o9; obtain ⟨z9, t9, k9, y9⟩ := o9; subst z9 y9; (try simp only [List.append_nil] at N9); (try k_sweep))) | (k_unfold; (try dsimp only)) | walk1 | (dsimp only; walk1)))
    all_goals (first
      | (rw [show breakFor (rows, row) text.length width = endRow (rows, row) from if_pos (by dsimp only; omega)]; exact ⟨_, _, _, _, _, rfl, by assumption, by assumption, StrsAre.push1 hS _ _⟩)
      | (rw [show breakFor (rows, row) text.length width = (rows, row) from if_neg (by dsimp only; omega)]; exact ⟨_, _, _, _, _, rfl, by assumption, by assumption, hS⟩))
  clear N S F₁ N₁
  obtain ⟨h₂, tk₂, t3₂, k₂, its₂, rfl, F₂, N₂, hS₂⟩ := hm
  have hbl : (breakFor (rows, row) text.length width).1.length ≤ rows.length + 1 := by
    unfold breakFor endRow; split <;> simp
  have hbl2 : (breakFor (rows, row) text.length width).2.length ≤ row.length := by
    unfold breakFor endRow; split
    · exact Nat.zero_le _
    · exact Nat.le_refl _
  generalize hst : breakFor (rows, row) text.length width = st at N₂ hS₂ hbl hbl2
  refine execs_mid (fun s' => ∃ text' tt', text' = (chop width text).2 ∧ PgSt w h₀ Lf (fun y => if y = Str.ofString "text" then some (.str text' tt') else List.lookup y [(Str.ofString "page", Value.ref p), (Str.ofString "text", .str text tt), (Str.ofString "width", .int width tw)].reverse) p d o t1 t2 (st.1 ++ (chop width text).1, st.2) s s') ?_ fun s' hm => ?_
  · refine wpAny_While (codeAny_whileLoop (fun n s' => ∃ cs text' tt', n = text'.length ∧ chop width text = (cs ++ (chop width text').1, (chop width text').2) ∧ text'.length ≤ text.length ∧ cs.length ≤ text.length - text'.length ∧ PgSt w h₀ Lf (fun y => if y = Str.ofString "text" then some (.str text' tt') else List.lookup y [(Str.ofString "page", Value.ref p), (Str.ofString "text", .str text tt), (Str.ofString "width", .int width tw)].reverse) p d o t1 t2 (st.1 ++ cs, st.2) s s') (fun n s' hI => ?_) text.length ?_)
    · obtain ⟨cs, text', tt', rfl, hch, hle, hcs, h₃, tk₃, t3₃, k₃, its₃, rfl, F₃, N₃, hS₃⟩ := hI
      clear F₂ N₂
      dsimp only at N₃ hS₃
      have hz₃ := StrsAre.size hS₃
      rw [List.length_append] at hz₃
      have hsb := fact_slice_sn text' width
      (repeat' (first | (with_reducible ((show wpAny _ _ (exec (PySem.Stmt.If _ _ _ _) _) _ _ _); (fail_if_success (refine hid_probe (by assumption) ?_)); refine hid_any (fun _ _ => ?_))) | (with_reducible (refine Hid.go (by assumption) _ _ ?_)) | ((with_reducible show wpAny _ _ (execs _ _) _ _ _); dsimp only) | (with_reducible (k_here; (with_reducible show wpAny _ _ (call (Value.ref 65) _) _ _ _); k_dflt (refine' Spec.use (end_row_spec ?h1 ?h2 ?h3 ?h4) (rest := []) ?b0 ?b1 ?b2 ?b3 ?b4 ?b5 ?b6 ?b7 ?b8 ?b9 ?b10 ?_ ?bE; (case b0 => exact rfl); (case b1 => exact rfl); (case b2 => assumption); (case b3 => assumption); (case b4 => assumption); (case b5 => assumption); (case b6 => assumption); (case b7 => exact fun _ h => nomatch h); (case h1 => assumption); (case h2 => assumption); (case h3 => assumption); (case h4 => omega); (case b8 => simp only [Around.deeper]; omega); (case b9 => simp only [Around.deeper]; omega); (case b10 => rfl); (case bE => exact fun _ _ _ _ _ _ _ z => z.elim)); intro v9 h9 tk9 led9 F9 N9 o9; obtain ⟨z9, t9, k9, y9⟩ := o9; subst z9 y9; (try simp only [List.append_nil] at N9); (try k_sweep))) | (k_unfold; (try dsimp only)) | walk1 | (dsimp only; walk1)))
      · rename_i t9 k9 a9 h9 F9 N9
        show ∃ m, m < _ ∧ _
        have hgo := chop_go (x := text') (width := width) (by omega)
        have hs2 := hsb.1 (by omega) (by omega)
        refine ⟨(Txt.slice text' (some width) none).length, by omega, cs ++ [Txt.slice text' none (some width)], Txt.slice text' (some width) none, t9, rfl, ?_, by omega, ?_, _, _, _, _, _, rfl, frCongr F9 (fun y => ?_), N9, ?_⟩
        · rw [hch, hgo]; simp
        · rw [List.length_append, List.length_singleton]; omega
        · by_cases hy : y = Str.ofString "text"
          · simp only [if_pos hy]
          · simp only [if_neg hy]
        · rw [← List.append_assoc]; exact StrsAre.push1 hS₃ _ _
      all_goals (
        have hstop := chop_stop (x := text') (width := width) (by omega)
        rw [hstop] at hch
        refine ⟨text', tt', by rw [hch], ?_⟩
        rw [hch]
        exact ⟨_, _, _, _, _, rfl, F₃, N₃, by simpa using hS₃⟩)
    · exact ⟨[], text, tt, rfl, by simp, Nat.le_refl _, by simp, h₂, tk₂, t3₂, k₂, its₂, rfl, frCongr F₂ (fun y => by
        by_cases hy : y = Str.ofString "text"
        · subst hy; rfl
        · rw [if_neg hy]), N₂, by simpa using hS₂⟩
  obtain ⟨text', tt', rfl, h₃, tk₃, t3₃, k₃, its₃, rfl, F₃, N₃, hS₃⟩ := hm
  dsimp only at N₃ hS₃
  have hcl := chop_len width text
  (repeat' (first | (with_reducible ((show wpAny _ _ (exec (PySem.Stmt.If _ _ _ _) _) _ _ _); (fail_if_success (refine hid_probe (by assumption) ?_)); refine hid_any (fun _ _ => ?_))) | (with_reducible (refine Hid.go (by assumption) _ _ ?_)) | ((with_reducible show wpAny _ _ (execs _ _) _ _ _); dsimp only) | (with_reducible (k_here; (with_reducible show wpAny _ _ (call (Value.ref 65) _) _ _ _); k_dflt (refine' Spec.use (end_row_spec ?h1 ?h2 ?h3 ?h4) (rest := []) ?b0 ?b1 ?b2 ?b3 ?b4 ?b5 ?b6 ?b7 ?b8 ?b9 ?b10 ?_ ?bE; (case b0 => exact rfl); (case b1 => exact rfl); (case b2 => assumption); (case b3 => assumption); (case b4 => assumption); (case b5 => assumption); (case b6 => assumption); (case b7 => exact fun _ h => nomatch h); (case h1 => assumption); (case h2 => assumption); (case h3 => assumption); (case h4 => omega); (case b8 => simp only [Around.deeper]; omega); (case b9 => simp only [Around.deeper]; omega); (case b10 => rfl); (case bE => exact fun _ _ _ _ _ _ _ z => z.elim)); intro v9 h9 tk9 led9 F9 N9 o9; obtain ⟨z9, t9, k9, y9⟩ := o9; subst z9 y9; (try simp only [List.append_nil] at N9); (try k_sweep))) | (k_unfold; (try dsimp only)) | walk1 | (dsimp only; walk1)))
  subst hst
  exact h _ _ _ _ (Sub.of (by assumption)) (Led.of (by assumption)) ⟨rfl, _, _, _, rfl, hS₃⟩
end Mine
namespace Mine

local macro_rules | `(tactic| walk_at "Exists") => `(tactic| refine Stop.intro ?_)
local macro_rules | `(tactic| walk_at "exec While") => `(tactic| refine Stop.intro ?_)
local macro_rules | `(tactic| walk_at "exec Raise some none") => `(tactic| refine Stop.intro ?_)
-- the premises of Spec.use

def blanks (n : Int) : Str := Txt.mul (Str.ofString " ") n
theorem foldl_one : ∀ (n : Nat) (a : Array Nat), ((List.replicate n #[32]).foldl (· ++ ·) a).toList = a.toList ++ List.replicate n 32
  | 0, a => by simp
  | n + 1, a => by
    rw [List.replicate_succ, List.foldl_cons, foldl_one n, List.replicate_succ]
    simp
theorem space_cps : (Str.ofString " ").cps = #[32] := by decide +kernel
theorem blanks_eq (n : Int) : blanks n = ⟨(List.replicate n.toNat 32).toArray⟩ := by
  have hl : (Str.ofString " ").length = 1 := by decide +kernel
  unfold blanks Txt.mul
  by_cases h : n < 1
  · rw [if_pos h, show n.toNat = 0 by omega]; rfl
  · rw [if_neg h]
    by_cases h1 : n = 1
    · subst h1
      rw [if_pos (by simp)]
      decide +kernel
    · rw [if_neg (by simp [h1, hl]), space_cps]
      congr 1
      apply Array.toList_inj.mp
      rw [foldl_one]
      simp
theorem blanks_len (n : Int) : (blanks n).length = n.toNat := by rw [blanks_eq]; simp [Str.length]
theorem blanks_ok {n : Int} (h0 : -100000 ≤ n) (h1 : n ≤ 100000) : MulOk (Str.ofString " ") n := mulOk_of 16 1048576 (by decide +kernel) (by omega) (by omega) (by decide) (by decide)

def zoneCol (n : Nat) (zone : Int) : Int := (Int.fdiv (n : Int) zone + 1) * zone
theorem zoneCol_bounds (n : Nat) {zone : Int} (h : 0 < zone) : (n : Int) < zoneCol n zone ∧ zoneCol n zone ≤ (n : Int) + zone := by
  unfold zoneCol
  rw [Int.fdiv_eq_ediv_of_nonneg _ (by omega), Int.add_mul]
  have h1 := Int.emod_add_mul_ediv (n : Int) zone
  have h2 := Int.emod_nonneg (n : Int) (b := zone) (by omega)
  have h3 := Int.emod_lt_of_pos (n : Int) h
  rw [Int.mul_comm] at h1
  generalize ((n : Int) / zone) * zone = q at *
  generalize ((n : Int) % zone) = r at *
  omega
def writeZone (s : PS) (zone width : Int) : PS := if 0 < width ∧ width < zoneCol s.2.length zone + zone then endRow s else (s.1, s.2 ++ blanks (zoneCol s.2.length zone - (s.2.length : Int)))

theorem not_above {h₀ h : Heap} {L : Addr} {m : Str → Option Value} (F : Fr h₀ L h m) : h₀.get? L = none := by
  cases e : h₀.get? L with
  | none => rfl
  | some o => exact absurd (Nat.lt_of_lt_of_le (Heap.lt_size e) F.above) (Nat.lt_irrefl _)

theorem write_zone_spec {w : World} {p d o : Addr} {t1 t2 t3 tz tw : Tok} {k : Nat} {its : Array Value} {row : Str} {rows : List Str} {zone width : Int} (hpd : @Ne Nat p d) (hpo : @Ne Nat p o) (hdo : @Ne Nat d o) (hS : StrsAre its.toList rows) (hits : rows.length ≤ 50000) (hrow : row.length ≤ 50000) (hz0 : 2 ≤ zone) (hz1 : zone ≤ 9) (hw0 : 0 ≤ width) (hw1 : width ≤ 100) :
    Spec w 860 79 [.ref p, .int zone tz, .int width tw] (pgLed w p d o t1 t2 t3 row its k) (fun v l => v = .none ∧ PgOut w p d o t1 t2 (writeZone (rows, row) zone width) l) (fun _ _ => False) := by
  intro A outer A₀ base h₀ mean mg mb s R hh hA B X T S N hdp hun h hE
  obtain ⟨hd, dp, fr, gd, un⟩ := A
  dsimp only at hh hA hdp hun
  subst hh hA
  have hsz := StrsAre.size hS
  have hzb := zoneCol_bounds row.length (zone := zone) (by omega)
  unfold zoneCol at hzb
  have hmk : MulOk (Str.ofString " ") ((((row.length : Int)).fdiv zone + 1) * zone - (row.length : Int)) := blanks_ok (by omega) (by omega)
  have hbl := blanks_len ((((row.length : Int)).fdiv zone + 1) * zone - (row.length : Int))
  unfold blanks at hbl
  refine' enter_led (K := hd01.heap_39 w.params) (binds := [(Str.ofString "page", Value.ref p), (Str.ofString "zone", .int zone tz), (Str.ofString "width", .int width tw)]) X T S N ?k6 ?k7 ?k8 ?k9 ?kB ?_ ?c2 ?c3 ?c4 ?c5
  ((case k6 => k_is); (case k7 => k_is); (case k8 => (simp only [recursionLimit]; omega)); (case k9 => exact BindsTo.of_eq rfl); (case c5 => decide); (case kB => exact locs rfl); (case c2 => exact rfl); (case c3 => exact rfl); (case c4 => exact rfl); intro _ _ _ _; (try dsimp only))
  (repeat' (first | (with_reducible ((show wpAny _ _ (exec (PySem.Stmt.If _ _ _ _) _) _ _ _); (fail_if_success (refine hid_probe (by assumption) ?_)); refine hid_any (fun _ _ => ?_))) | (with_reducible (refine Hid.go (by assumption) _ _ ?_)) | ((with_reducible show wpAny _ _ (execs _ _) _ _ _); dsimp only) | (with_reducible (k_here; (with_reducible show wpAny _ _ (call (Value.ref 65) _) _ _ _); k_dflt (refine' Spec.use (end_row_spec ?h1 ?h2 ?h3 ?h4) (rest := []) ?b0 ?b1 ?b2 ?b3 ?b4 ?b5 ?b6 ?b7 ?b8 ?b9 ?b10 ?_ ?bE; ((case b0 => exact rfl); (case b1 => exact rfl); (case b2 => assumption); (case b3 => assumption); (case b4 => assumption); (case b5 => assumption); (case b6 => assumption); (case b7 => exact fun _ h => nomatch h);(case b8 => simp only [Around.deeper]; omega); (case b9 => simp only [Around.deeper]; omega); (case b10 => rfl)); (case h1 => assumption); (case h2 => assumption); (case h3 => assumption); (case h4 => omega); (case bE => exact fun _ _ _ _ _ _ _ z => z.elim)); intro v9 h9 tk9 led9 F9 N9 o9; obtain ⟨z9, t9, k9, y9⟩ := o9; subst z9 y9; (try simp only [List.append_nil] at N9); (try k_sweep))) | (k_unfold; (try dsimp only)) | walk1 | (dsimp only; walk1)))
  all_goals (first
    | exact h _ _ _ _ (Sub.of (by assumption)) (Led.of (by assumption)) ⟨rfl, by rw [show writeZone (rows, row) zone width = endRow (rows, row) from if_pos (by unfold zoneCol; dsimp only; omega)]; exact ⟨_, _, _, rfl, StrsAre.push1 hS _ _⟩⟩
    | exact h _ _ _ _ (Sub.of (by assumption)) (Led.of (by assumption)) ⟨rfl, by rw [show writeZone (rows, row) zone width = _ from if_neg (by unfold zoneCol; dsimp only; omega)]; exact ⟨_, _, _, rfl, hS⟩⟩
    | skip)

def withinRow (many width : Int) : Option Int := if 0 ≤ many ∧ many ≤ 255 then some (if 0 < width then Int.fmod many width else many) else none
theorem within_row_spec {w : World} {tm tw : Tok} {many width : Int} (hw0 : 0 ≤ width) (hw1 : width ≤ 100) (hm0 : -10 ≤ many) (hm1 : many ≤ 1000) :
    Spec w 860 86 [.int many tm, .int width tw] [] (fun v l => l = [] ∧ ∃ x t, withinRow many width = some x ∧ v = .int x t) (fun c l => l = [] ∧ withinRow many width = none ∧ c = Str.ofString "FC") := by
  intro A outer A₀ base h₀ mean mg mb s R hh hA B X T S N hdp hun h hE
  obtain ⟨hd, dp, fr, gd, un⟩ := A
  dsimp only at hh hA hdp hun
  subst hh hA
  refine' enter_led (K := hd01.heap_39 w.params) (binds := [(Str.ofString "many", .int many tm), (Str.ofString "width", .int width tw)]) X T S N ?k6 ?k7 ?k8 ?k9 ?kB ?_ ?c2 ?c3 ?c4 ?c5
  ((case k6 => k_is); (case k7 => k_is); (case k8 => (simp only [recursionLimit]; omega)); (case k9 => exact BindsTo.of_eq rfl); (case c5 => decide); (case kB => exact locs rfl); (case c2 => exact rfl); (case c3 => exact rfl); (case c4 => exact rfl); intro _ _ _ _; (try dsimp only))
  (repeat' (first | (with_reducible ((show wpAny _ _ (exec (PySem.Stmt.If _ _ _ _) _) _ _ _); (fail_if_success (refine hid_probe (by assumption) ?_)); refine hid_any (fun _ _ => ?_))) | (with_reducible (refine Hid.go (by assumption) _ _ ?_)) | ((with_reducible show wpAny _ _ (execs _ _) _ _ _); dsimp only) | (with_reducible (k_here; (with_reducible show wpAny _ _ (call (Value.ref 65) _) _ _ _); k_dflt (refine' Spec.use (end_row_spec ?h1 ?h2 ?h3 ?h4) (rest := []) ?b0 ?b1 ?b2 ?b3 ?b4 ?b5 ?b6 ?b7 ?b8 ?b9 ?b10 ?_ ?bE; ((case b0 => exact rfl); (case b1 => exact rfl); (case b2 => assumption); (case b3 => assumption); (case b4 => assumption); (case b5 => assumption); (case b6 => assumption); (case b7 => exact fun _ h => nomatch h);(case b8 => simp only [Around.deeper]; omega); (case b9 => simp only [Around.deeper]; omega); (case b10 => rfl)); (case h1 => assumption); (case h2 => assumption); (case h3 => assumption); (case h4 => omega); (case bE => exact fun _ _ _ _ _ _ _ z => z.elim)); intro v9 h9 tk9 led9 F9 N9 o9; obtain ⟨z9, t9, k9, y9⟩ := o9; subst z9 y9; (try simp only [List.append_nil] at N9); (try k_sweep))) | (k_unfold; (try dsimp only)) | walk1 | (dsimp only; walk1)))
  · exact h _ _ _ _ (Sub.of (by assumption)) (Led.of (by assumption)) ⟨rfl, _, _, by unfold withinRow; rw [if_pos (by omega), if_pos (by omega)], rfl⟩
  · exact h _ _ _ _ (Sub.of (by assumption)) (Led.of (by assumption)) ⟨rfl, _, _, by unfold withinRow; rw [if_pos (by omega), if_neg (by omega)], rfl⟩
  all_goals (
    try unfold Stop
    rename Fr _ _ _ _ => Fx
    rename News _ _ _ _ => Nx
    refine' raise_spec ?a1 ?a2 ?aB ?aF ?aX ?aT ?aN ?a3 ?a4 ?a5 ?a6 ?_
    (case aB => exact B)
    (case aF => exact Fx)
    (case aX => exact X)
    (case aT => exact T)
    (case aN => exact Nx)
    (case a1 => exact rfl)
    (case a2 => exact rfl)
    (case a3 => simp only [Around.deeper]; omega)
    (case a4 => simp only [Around.deeper]; omega)
    (case a5 => exact rfl)
    (case a6 => exact rfl)
    intro e h' tk' x
    refine x.leave (by rfl) (by rfl) (not_above Fx) fun h'' x2 => hE _ _ _ _ _ x2 ⟨rfl, by unfold withinRow; rw [if_neg (by omega)], rfl⟩)
end Mine
namespace Mine

local macro_rules | `(tactic| walk_at "Exists") => `(tactic| refine Stop.intro ?_)
local macro_rules | `(tactic| walk_at "exec While") => `(tactic| refine Stop.intro ?_)
local macro_rules | `(tactic| walk_at "exec Raise some none") => `(tactic| refine Stop.intro ?_)
-- the premises of Spec.use

theorem withinRow_le {many width x : Int} (h : withinRow many width = some x) (hw : 0 ≤ width) : 0 ≤ x ∧ x ≤ 255 := by
  unfold withinRow at h
  split at h
  · rename_i hm
    obtain rfl := Option.some.inj h
    split
    · rename_i hw'
      have h1 := Int.fmod_nonneg_of_pos many hw'
      have h2 := Int.fmod_lt_of_pos many hw'
      have h3 : Int.fmod many width ≤ many := by
        rw [Int.fmod_eq_emod_of_nonneg _ (by omega)]
        have := Int.emod_add_mul_ediv many width
        have h4 : 0 ≤ width * (many / width) := Int.mul_nonneg (by omega) (Int.ediv_nonneg hm.1 (by omega))
        omega
      omega
    · exact hm
  · cases h


theorem write_blanks_spec {w : World} {p d o : Addr} {t1 t2 t3 tm tw : Tok} {k : Nat} {its : Array Value} {row : Str} {rows : List Str} {many width : Int} (hpd : @Ne Nat p d) (hpo : @Ne Nat p o) (hdo : @Ne Nat d o) (hS : StrsAre its.toList rows) (hits : rows.length ≤ 40000) (hrow : row.length ≤ 40000) (hm0 : -10 ≤ many) (hm1 : many ≤ 1000) (hw0 : 0 ≤ width) (hw1 : width ≤ 100) :
    Spec w 850 93 [.ref p, .int many tm, .int width tw] (pgLed w p d o t1 t2 t3 row its k) (fun v l => v = .none ∧ ∃ x, withinRow many width = some x ∧ PgOut w p d o t1 t2 (writeText (rows, row) (blanks x) width) l)
      (fun c l => c = Str.ofString "FC" ∧ withinRow many width = none ∧ l = pgLed w p d o t1 t2 t3 row its k) := by
  intro A outer A₀ base h₀ mean mg mb s R hh hA B X T S N hdp hun h hE
  obtain ⟨hd, dp, fr, gd, un⟩ := A
  dsimp only at hh hA hdp hun
  subst hh hA
  have hsz := StrsAre.size hS
  refine' enter_led (K := hd01.heap_39 w.params) (binds := [(Str.ofString "page", Value.ref p), (Str.ofString "many", .int many tm), (Str.ofString "width", .int width tw)]) X T S N ?k6 ?k7 ?k8 ?k9 ?kB ?_ ?c2 ?c3 ?c4 ?c5
  ((case k6 => k_is); (case k7 => k_is); (case k8 => (simp only [recursionLimit]; omega)); (case k9 => exact BindsTo.of_eq rfl); (case c5 => decide); (case kB => exact locs rfl); (case c2 => exact rfl); (case c3 => exact rfl); (case c4 => exact rfl); intro _ _ _ _; (try dsimp only))
  (repeat' (first | (with_reducible ((show wpAny _ _ (exec (PySem.Stmt.If _ _ _ _) _) _ _ _); (fail_if_success (refine hid_probe (by assumption) ?_)); refine hid_any (fun _ _ => ?_))) | (with_reducible (refine Hid.go (by assumption) _ _ ?_)) | ((with_reducible show wpAny _ _ (execs _ _) _ _ _); dsimp only) | (with_reducible (k_here; (with_reducible show wpAny _ _ (call (Value.ref 72) _) _ _ _); k_dflt (refine' Spec.use (write_text_spec ?h1 ?h2 ?h3 ?h4 ?h5 ?h6 ?h7 ?h8 ?h9) (rest := []) ?b0 ?b1 ?b2 ?b3 ?b4 ?b5 ?b6 ?b7 ?b8 ?b9 ?b10 ?_ ?bE; ((case b0 => exact rfl); (case b1 => exact rfl); (case b2 => assumption); (case b3 => assumption); (case b4 => assumption); (case b5 => assumption); (case b6 => assumption); (case b7 => exact fun _ h => nomatch h);(case b8 => simp only [Around.deeper]; omega); (case b9 => simp only [Around.deeper]; omega); (case b10 => rfl)); (case h1 => assumption); (case h2 => assumption); (case h3 => assumption); (case h4 => assumption); (case h5 => omega); (case h6 => omega); (case h7 => omega); (case h8 => omega); (case h9 => omega); (case bE => exact fun _ _ _ _ _ _ _ z => z.elim); (intro v9 h9 tk9 led9 F9 N9 o9; obtain ⟨z9, t9, k9, its9, y9, S9⟩ := o9; subst z9 y9; (try simp only [List.append_nil] at N9); (try k_sweep))))) | (with_reducible (k_here; (with_reducible show wpAny _ _ (call (Value.ref 86) _) _ _ _); k_dflt (refine' Spec.use (within_row_spec ?h1 ?h2 ?h3 ?h4) ?b0 ?b1 ?b2 ?b3 ?b4 ?b5 ?b6 ?b7 ?b8 ?b9 ?b10 ?_ ?_; (case b6 => assumption); (case b7 => exact fun _ _ _ h => nomatch h); (case b0 => exact rfl); (case b1 => exact rfl); (case b2 => assumption); (case b3 => assumption); (case b4 => assumption); (case b5 => assumption); (case b8 => simp only [Around.deeper]; omega); (case b9 => simp only [Around.deeper]; omega); (case b10 => rfl); (case h1 => omega); (case h2 => omega); (case h3 => omega); (case h4 => omega); rotate_left; (intro e9 c9 h9 tk9 led9 x9 n9 o9; refine Stop.intro ?_); rotate_left; (intro v9 h9 tk9 led9 F9 N9 o9; obtain ⟨z9, x9, t9, hx9, y9⟩ := o9; subst z9 y9; (try simp only [List.nil_append] at N9); (have hb9 := withinRow_le hx9 (by omega)); (have hl9 := blanks_len x9); unfold blanks at hl9; (try k_sweep))))) | (with_reducible (k_here; (with_reducible show wpAny _ _ (call (Value.ref 65) _) _ _ _); k_dflt (refine' Spec.use (end_row_spec ?h1 ?h2 ?h3 ?h4) (rest := []) ?b0 ?b1 ?b2 ?b3 ?b4 ?b5 ?b6 ?b7 ?b8 ?b9 ?b10 ?_ ?bE; ((case b0 => exact rfl); (case b1 => exact rfl); (case b2 => assumption); (case b3 => assumption); (case b4 => assumption); (case b5 => assumption); (case b6 => assumption); (case b7 => exact fun _ h => nomatch h);(case b8 => simp only [Around.deeper]; omega); (case b9 => simp only [Around.deeper]; omega); (case b10 => rfl)); (case h1 => assumption); (case h2 => assumption); (case h3 => assumption); (case h4 => omega); (case bE => exact fun _ _ _ _ _ _ _ z => z.elim)); intro v9 h9 tk9 led9 F9 N9 o9; obtain ⟨z9, t9, k9, y9⟩ := o9; subst z9 y9; (try simp only [List.append_nil] at N9); (try k_sweep))) | (k_unfold; (try dsimp only)) | walk1 | (dsimp only; walk1)))
  · exact h _ _ _ _ (Sub.of (by assumption)) (Led.of (by assumption)) ⟨rfl, _, by assumption, _, _, _, rfl, by assumption⟩
  · skip
    obtain ⟨rfl, o9, rfl⟩ := o9
    exact x9.leave (by rfl) (by rfl) (not_above (by assumption)) fun h'' x2 => hE _ _ _ _ _ x2 ⟨rfl, o9, rfl⟩

def writeTab (s : PS) (column width : Int) : Option PS := if column < 1 then none else (withinRow (column - 1) width).map fun g => if g < (s.2.length : Int) then ((endRow s).1, (endRow s).2 ++ blanks (g - 0)) else (s.1, s.2 ++ blanks (g - (s.2.length : Int)))

theorem writeTab_lt {rows : List Str} {row : Str} {column width x : Int} (hc : ¬ column < 1) (hx : withinRow (column - 1) width = some x) (h : x < (row.length : Int)) : writeTab (rows, row) column width = some ((endRow (rows, row)).1, (endRow (rows, row)).2 ++ blanks (x - 0)) := by
  unfold writeTab
  rw [if_neg hc, hx, Option.map_some, if_pos h]
theorem writeTab_ge {rows : List Str} {row : Str} {column width x : Int} (hc : ¬ column < 1) (hx : withinRow (column - 1) width = some x) (h : ¬ x < (row.length : Int)) : writeTab (rows, row) column width = some (rows, row ++ blanks (x - (row.length : Int))) := by
  unfold writeTab
  rw [if_neg hc, hx, Option.map_some, if_neg h]

theorem write_tab_spec {w : World} {p d o : Addr} {t1 t2 t3 tm tw : Tok} {k : Nat} {its : Array Value} {row : Str} {rows : List Str} {column width : Int} (hpd : @Ne Nat p d) (hpo : @Ne Nat p o) (hdo : @Ne Nat d o) (hS : StrsAre its.toList rows) (hits : rows.length ≤ 40000) (hrow : row.length ≤ 40000) (hm0 : -5 ≤ column) (hm1 : column ≤ 1000) (hw0 : 0 ≤ width) (hw1 : width ≤ 100) :
    Spec w 850 100 [.ref p, .int column tm, .int width tw] (pgLed w p d o t1 t2 t3 row its k) (fun v l => v = .none ∧ ∃ st, writeTab (rows, row) column width = some st ∧ PgOut w p d o t1 t2 st l)
      (fun c l => c = Str.ofString "FC" ∧ writeTab (rows, row) column width = none ∧ l = pgLed w p d o t1 t2 t3 row its k) := by
  intro A outer A₀ base h₀ mean mg mb s R hh hA B X T S N hdp hun h hE
  obtain ⟨hd, dp, fr, gd, un⟩ := A
  dsimp only at hh hA hdp hun
  subst hh hA
  have hsz := StrsAre.size hS
  have hz : (Str.ofString "").length = 0 := by decide +kernel
  refine' enter_led (K := hd01.heap_39 w.params) (binds := [(Str.ofString "page", Value.ref p), (Str.ofString "column", .int column tm), (Str.ofString "width", .int width tw)]) X T S N ?k6 ?k7 ?k8 ?k9 ?kB ?_ ?c2 ?c3 ?c4 ?c5
  ((case k6 => k_is); (case k7 => k_is); (case k8 => (simp only [recursionLimit]; omega)); (case k9 => exact BindsTo.of_eq rfl); (case c5 => decide); (case kB => exact locs rfl); (case c2 => exact rfl); (case c3 => exact rfl); (case c4 => exact rfl); intro _ _ _ _; (try dsimp only))
  (repeat' (first | (with_reducible ((show wpAny _ _ (exec (PySem.Stmt.If _ _ _ _) _) _ _ _); (fail_if_success (refine hid_probe (by assumption) ?_)); refine hid_any (fun _ _ => ?_))) | (with_reducible (refine Hid.go (by assumption) _ _ ?_)) | ((with_reducible show wpAny _ _ (execs _ _) _ _ _); dsimp only) | (with_reducible (k_here; (with_reducible show wpAny _ _ (call (Value.ref 72) _) _ _ _); k_dflt (refine' Spec.use (write_text_spec ?h1 ?h2 ?h3 ?h4 ?h5 ?h6 ?h7 ?h8 ?h9) (rest := []) ?b0 ?b1 ?b2 ?b3 ?b4 ?b5 ?b6 ?b7 ?b8 ?b9 ?b10 ?_ ?bE; ((case b0 => exact rfl); (case b1 => exact rfl); (case b2 => assumption); (case b3 => assumption); (case b4 => assumption); (case b5 => assumption); (case b6 => assumption); (case b7 => exact fun _ h => nomatch h);(case b8 => simp only [Around.deeper]; omega); (case b9 => simp only [Around.deeper]; omega); (case b10 => rfl)); (case h1 => assumption); (case h2 => assumption); (case h3 => assumption); (case h4 => assumption); (case h5 => omega); (case h6 => omega); (case h7 => omega); (case h8 => omega); (case h9 => omega); (case bE => exact fun _ _ _ _ _ _ _ z => z.elim); (intro v9 h9 tk9 led9 F9 N9 o9; obtain ⟨z9, t9, k9, its9, y9, S9⟩ := o9; subst z9 y9; (try simp only [List.append_nil] at N9); (try k_sweep))))) | (with_reducible (k_here; (with_reducible show wpAny _ _ (call (Value.ref 86) _) _ _ _); k_dflt (refine' Spec.use (within_row_spec ?h1 ?h2 ?h3 ?h4) ?b0 ?b1 ?b2 ?b3 ?b4 ?b5 ?b6 ?b7 ?b8 ?b9 ?b10 ?_ ?_; (case b6 => assumption); (case b7 => exact fun _ _ _ h => nomatch h); (case b0 => exact rfl); (case b1 => exact rfl); (case b2 => assumption); (case b3 => assumption); (case b4 => assumption); (case b5 => assumption); (case b8 => simp only [Around.deeper]; omega); (case b9 => simp only [Around.deeper]; omega); (case b10 => rfl); (case h1 => omega); (case h2 => omega); (case h3 => omega); (case h4 => omega); rotate_left; (intro e9 c9 h9 tk9 led9 x9 n9 o9; refine Stop.intro ?_); rotate_left; (intro v9 h9 tk9 led9 F9 N9 o9; obtain ⟨z9, x9, t9, hx9, y9⟩ := o9; subst z9 y9; (try simp only [List.nil_append] at N9); (have hb9 := withinRow_le hx9 (by omega)); (have hl9 := blanks_len x9); unfold blanks at hl9; (try k_sweep))))) | (with_reducible (k_here; (with_reducible show wpAny _ _ (call (Value.ref 65) _) _ _ _); k_dflt (refine' Spec.use (end_row_spec ?h1 ?h2 ?h3 ?h4) (rest := []) ?b0 ?b1 ?b2 ?b3 ?b4 ?b5 ?b6 ?b7 ?b8 ?b9 ?b10 ?_ ?bE; ((case b0 => exact rfl); (case b1 => exact rfl); (case b2 => assumption); (case b3 => assumption); (case b4 => assumption); (case b5 => assumption); (case b6 => assumption); (case b7 => exact fun _ h => nomatch h);(case b8 => simp only [Around.deeper]; omega); (case b9 => simp only [Around.deeper]; omega); (case b10 => rfl)); (case h1 => assumption); (case h2 => assumption); (case h3 => assumption); (case h4 => omega); (case bE => exact fun _ _ _ _ _ _ _ z => z.elim)); intro v9 h9 tk9 led9 F9 N9 o9; obtain ⟨z9, t9, k9, y9⟩ := o9; subst z9 y9; (try simp only [List.append_nil] at N9); (try k_sweep))) | (k_unfold; (try dsimp only)) | walk1 | (dsimp only; walk1)))
  · try unfold Stop
    rename Fr _ _ _ _ => Fx
    rename News _ _ _ _ => Nx
    refine' raise_spec ?a1 ?a2 ?aB ?aF ?aX ?aT ?aN ?a3 ?a4 ?a5 ?a6 ?_
    (case aB => exact B)
    (case aF => exact Fx)
    (case aX => exact X)
    (case aT => exact T)
    (case aN => exact Nx)
    (case a1 => exact rfl)
    (case a2 => exact rfl)
    (case a3 => simp only [Around.deeper]; omega)
    (case a4 => simp only [Around.deeper]; omega)
    (case a5 => exact rfl)
    (case a6 => exact rfl)
    intro e h' tk' x
    exact x.leave (by rfl) (by rfl) (not_above Fx) fun h'' x2 => hE _ _ _ _ _ x2 ⟨rfl, by unfold writeTab; rw [if_pos (by omega)], rfl⟩
  · rename withinRow _ _ = some _ => hx
    have hw := writeTab_lt (rows := rows) (row := row) (by omega) hx (by omega)
    exact h _ _ _ _ (Sub.of (by assumption)) (Led.of (by assumption)) ⟨rfl, _, hw, _, _, _, rfl, StrsAre.push1 hS _ _⟩
  · rename withinRow _ _ = some _ => hx
    have hw := writeTab_ge (rows := rows) (row := row) (by omega) hx (by omega)
    exact h _ _ _ _ (Sub.of (by assumption)) (Led.of (by assumption)) ⟨rfl, _, hw, _, _, _, rfl, hS⟩
  · skip
    obtain ⟨rfl, o9, rfl⟩ := o9
    exact x9.leave (by rfl) (by rfl) (not_above (by assumption)) fun h'' x2 => hE _ _ _ _ _ x2 ⟨rfl, by unfold writeTab; rw [if_neg (by omega), o9]; rfl, rfl⟩
end Mine
namespace Mine

def SpecP (w : World) (D : Nat) (f : Addr) (args : List Value) (led : List (Addr × Obj)) (Pre : Heap → Prop) (Ok : Value → List (Addr × Obj) → Prop) (Er : Str → List (Addr × Obj) → Prop) : Prop :=
  ∀ (A : Around) (outer : List Env) (A₀ : Around) (base h₀ : Heap) (mean : ExcName → Option Value) (mg mb : Str → Option Value) (s : Shared) (R : Result → Shared → Prop),
    A.handled = none → A.frames = some outer → Below A₀ base outer h₀ → (hd01.heap_39 w.params).In h₀ → TopW' mean mg mb h₀ → Sub h₀ s.heap → Led h₀ s.heap led → Pre h₀ → A.depth ≤ D → A.units ≤ 9 * D →
    (∀ v h' tk' led', Sub h₀ h' → Led h₀ h' led' → Ok v led' → R (.ok (.ret v)) { s with heap := h', toks := tk' }) →
    (∀ e c h' tk' led', Flight h₀ outer led' e c .none h' → Er c led' → R (.error (.ref e)) { s with heap := h', toks := tk' }) →
    codeAny (model PROG w) A (.call (.ref f) ⟨args, []⟩) R s

theorem SpecP.use {w : World} {D : Nat} {f : Addr} {args : List Value} {led rest : List (Addr × Obj)} {Pre : Heap → Prop} {Ok : Value → List (Addr × Obj) → Prop} {Er : Str → List (Addr × Obj) → Prop} (C : SpecP w D f args led Pre Ok Er)
    {A : Around} {outer : List Env} {A₀ : Around} {base h₀ : Heap} {mean : ExcName → Option Value} {mg mb : Str → Option Value} {s : Shared} {L a : Addr} {m : Str → Option Value} {cn : Str} {cs : Scope} {ccd : Value} {Q E : Value → Shared → Prop}
    (hh : A.handled = none) (hA : A.frames = some (envOf cn cs L a ccd :: outer)) (B : Below A₀ base outer h₀) (F : Fr h₀ L s.heap m) (X : (hd01.heap_39 w.params).In h₀) (T : TopW' mean mg mb h₀) (N : News h₀ L s.heap (led ++ rest)) (hap : ∀ q ∈ rest, ∀ q' ∈ led, q.1 ≠ q'.1)
    (hP : (∀ b o, h₀.get? b = some o → (hideAll s.heap (led.map (·.1))).get? b = some o) → (∀ q ∈ rest, (hideAll s.heap (led.map (·.1))).get? q.1 = some q.2) → Pre (hideAll s.heap (led.map (·.1)))) (hdp : A.depth ≤ D) (hun : A.units ≤ 9 * D) (hck : cs.kind = .function)
    (k : ∀ v h' tk' led', Fr h₀ L h' m → News h₀ L h' (led' ++ rest) → Ok v led' → Q v { s with heap := h', toks := tk' })
    (kE : ∀ e c h' tk' led', Flight h₀ (envOf cn cs L a ccd :: outer) (led' ++ rest) e c .none h' → h'.Ns L m → Er c led' → E (.ref e) { s with heap := h', toks := tk' }) :
    wpAny (model PROG w) A (call (.ref f) args) Q E s := by
  obtain ⟨B', S', L', st⟩ := base_of (cn := cn) (a := a) (ccd := ccd) B F N hck
  replace hP := hP st fun q hq => hideAll_get _ (N q (List.mem_append_right _ hq)).1 fun z => by
    obtain ⟨p, hp, e⟩ := List.mem_map.mp z
    exact hap q hq p hp e.symm
  refine wpAny_call (C A (envOf cn cs L a ccd :: outer) _ base _ mean mg mb s _ hh hA B' (fun a o e => st _ _ (X a o e)) (T.keeps st) S' L' hP hdp hun (fun v h' tk' led' S D o => ?_) fun e c h' tk' led' x o => ?_)
  · obtain ⟨F', N'⟩ := back_of F N hap S D
    exact k v h' tk' led' F' N' o
  · obtain ⟨G, dx, od, t, k1, k2, k3, k4, k5, k6, k7⟩ := x
    have hns : ∀ q ∈ led ++ rest, q.1 ∉ (envOf cn cs L a ccd :: outer).filterMap (·.frame) := fun q hq hm => by
      rw [List.filterMap_cons] at hm
      rcases List.mem_cons.mp hm with z | z
      · exact (N q hq).2.1 z
      · obtain ⟨o, ho⟩ := frames_in B.frames z
        rw [(N q hq).2.2] at ho; cases ho
    have nm : ∀ b o, h₀.get? b = some o → (hideAll s.heap (led.map (·.1))).get? b = some o := st
    refine kE e c h' tk' led' ⟨G, dx, od, t, fun b o hb hn => k1 b o (nm b o hb) hn, fun q hq => ?_, k3, k4, k5, ?_, (Heap.UpToSlots.of_keeps st).trans k7⟩ ?_ o
    · rcases List.mem_append.mp hq with hq | hq
      · refine ⟨(k2 q hq).1, ?_⟩
        cases z : h₀.get? q.1 with
        | none => rfl
        | some o => have := (k2 q hq).2; rw [st _ _ z] at this; cases this
      · have P := N q (List.mem_append_right _ hq)
        refine ⟨k1 _ _ (hideAll_get _ P.1 fun z => ?_) (hns q (List.mem_append_right _ hq)), P.2.2⟩
        obtain ⟨p, hp, e⟩ := List.mem_map.mp z
        exact hap q hq p hp e.symm
    · cases z : h₀.get? e with
      | none => rfl
      | some o => rw [st _ _ z] at k6; cases k6
    · have nL : L ∉ led.map (·.1) := fun q => by
        obtain ⟨p, hp, e⟩ := List.mem_map.mp q
        exact (N p (List.mem_append_left _ hp)).2.1 e
      obtain ⟨oL, es, ep, hL, r⟩ := F.ns
      exact k7.ns ⟨oL, es, ep, hideAll_get _ hL nL, r⟩

inductive Part where
  | text (x : Str) | zone | glue | tab (n : Int) | spc (n : Int)
def PartAt (h : Heap) (a : Addr) : Part → Prop
  | .text x => ∃ t1 t2, IsTup h a #[.str (Str.ofString "text") t1, .str x t2]
  | .zone => ∃ t1, IsTup h a #[.str (Str.ofString "zone") t1]
  | .glue => ∃ t1, IsTup h a #[.str (Str.ofString "glue") t1]
  | .tab n => ∃ t1 t2, IsTup h a #[.str (Str.ofString "tab") t1, .int n t2]
  | .spc n => ∃ t1 t2, IsTup h a #[.str (Str.ofString "spc") t1, .int n t2]
theorem PartAt.keeps {h h' : Heap} {a : Addr} {q : Part} (k : ∀ b o, h.get? b = some o → h'.get? b = some o) (x : PartAt h a q) : PartAt h' a q := by
  cases q <;> (first | (obtain ⟨t1, t2, x⟩ := x; exact ⟨t1, t2, x.keeps k⟩) | (obtain ⟨t1, x⟩ := x; exact ⟨t1, x.keeps k⟩))
def Part.ok : Part → Prop
  | .text x => x.length ≤ 400
  | .tab n => -2 ≤ n ∧ n ≤ 500
  | .spc n => -2 ≤ n ∧ n ≤ 500
  | _ => True
def Part.isText : Part → Bool
  | .text _ => true
  | _ => false
def writePart (s : PS) (q : Part) (zone width : Int) : Option PS :=
  match q with
  | .text x => some (writeText s x width)
  | .zone => some (writeZone s zone width)
  | .glue => some s
  | .tab n => writeTab s n width
  | .spc n => (withinRow n width).map fun x => writeText s (blanks x) width

local macro_rules | `(tactic| walk_at "Exists") => `(tactic| refine Stop.intro ?_)
local macro_rules | `(tactic| walk_at "exec While") => `(tactic| refine Stop.intro ?_)
local macro_rules | `(tactic| walk_at "exec Raise some none") => `(tactic| refine Stop.intro ?_)
-- the premises of Spec.use


theorem write_part_spec {w : World} {p d o a : Addr} {t1 t2 t3 tz tw : Tok} {k : Nat} {its : Array Value} {row : Str} {rows : List Str} {q : Part} {zone width : Int} (hpd : @Ne Nat p d) (hpo : @Ne Nat p o) (hdo : @Ne Nat d o) (hS : StrsAre its.toList rows) (hits : rows.length ≤ 40000) (hrow : row.length ≤ 40000) (hq : q.ok) (hz0 : 2 ≤ zone) (hz1 : zone ≤ 9) (hw0 : 0 ≤ width) (hw1 : width ≤ 100) :
    SpecP w 840 107 [.ref p, .ref a, .int zone tz, .int width tw] (pgLed w p d o t1 t2 t3 row its k) (fun h => PartAt h a q) (fun v l => v = .bool q.isText ∧ ∃ st, writePart (rows, row) q zone width = some st ∧ PgOut w p d o t1 t2 st l)
      (fun c l => c = Str.ofString "FC" ∧ writePart (rows, row) q zone width = none ∧ l = pgLed w p d o t1 t2 t3 row its k) := by
  intro A outer A₀ base h₀ mean mg mb s R hh hA B X T S N hP hdp hun h hE
  obtain ⟨hd, dp, fr, gd, un⟩ := A
  dsimp only at hh hA hdp hun
  subst hh hA
  have hsz := StrsAre.size hS
  cases q with
  | text x =>
    obtain ⟨u1, u2, hP⟩ := hP
    unfold Part.ok at hq
    dsimp only at hq
    refine' enter_led (K := hd01.heap_39 w.params) (binds := [(Str.ofString "page", Value.ref p), (Str.ofString "part", Value.ref a), (Str.ofString "zone", .int zone tz), (Str.ofString "width", .int width tw)]) X T S N ?k6 ?k7 ?k8 ?k9 ?kB ?_ ?c2 ?c3 ?c4 ?c5
    ((case k6 => k_is); (case k7 => k_is); (case k8 => (simp only [recursionLimit]; omega)); (case k9 => exact BindsTo.of_eq rfl); (case c5 => decide); (case kB => exact locs rfl); (case c2 => exact rfl); (case c3 => exact rfl); (case c4 => exact rfl); intro _ _ _ _; (try dsimp only))
    (repeat' (first | (with_reducible ((show wpAny _ _ (exec (PySem.Stmt.If _ _ _ _) _) _ _ _); (fail_if_success (refine hid_probe (by assumption) ?_)); refine hid_any (fun _ _ => ?_))) | (with_reducible (refine Hid.go (by assumption) _ _ ?_)) | ((with_reducible show wpAny _ _ (execs _ _) _ _ _); dsimp only) | (with_reducible (k_here; (with_reducible show wpAny _ _ (call (Value.ref 100) _) _ _ _); k_dflt (refine' Spec.use (write_tab_spec ?h1 ?h2 ?h3 ?h4 ?h5 ?h6 ?h7 ?h8 ?h9 ?h10) (rest := []) ?b0 ?b1 ?b2 ?b3 ?b4 ?b5 ?b6 ?b7 ?b8 ?b9 ?b10 ?_ ?_; ((case b0 => exact rfl); (case b1 => exact rfl); (case b2 => assumption); (case b3 => assumption); (case b4 => assumption); (case b5 => assumption); (case b6 => assumption); (case b7 => exact fun _ h => nomatch h);(case b8 => simp only [Around.deeper]; omega); (case b9 => simp only [Around.deeper]; omega); (case b10 => rfl)); (case h1 => assumption); (case h2 => assumption); (case h3 => assumption); (case h4 => assumption); (case h5 => omega); (case h6 => omega); (case h7 => omega); (case h8 => omega); (case h9 => omega); (case h10 => omega); rotate_left; (intro e9 c9 h9 tk9 led9 x9 n9 o9; refine Stop.intro ?_); rotate_left; (intro v9 h9 tk9 led9 F9 N9 o9; obtain ⟨z9, st9, hst9, t9, k9, its9, y9, S9⟩ := o9; subst z9 y9; (try simp only [List.append_nil] at N9); (try k_sweep))))) | (with_reducible (k_here; (with_reducible show wpAny _ _ (call (Value.ref 93) _) _ _ _); k_dflt (refine' Spec.use (write_blanks_spec ?h1 ?h2 ?h3 ?h4 ?h5 ?h6 ?h7 ?h8 ?h9 ?h10) (rest := []) ?b0 ?b1 ?b2 ?b3 ?b4 ?b5 ?b6 ?b7 ?b8 ?b9 ?b10 ?_ ?_; ((case b0 => exact rfl); (case b1 => exact rfl); (case b2 => assumption); (case b3 => assumption); (case b4 => assumption); (case b5 => assumption); (case b6 => assumption); (case b7 => exact fun _ h => nomatch h);(case b8 => simp only [Around.deeper]; omega); (case b9 => simp only [Around.deeper]; omega); (case b10 => rfl)); (case h1 => assumption); (case h2 => assumption); (case h3 => assumption); (case h4 => assumption); (case h5 => omega); (case h6 => omega); (case h7 => omega); (case h8 => omega); (case h9 => omega); (case h10 => omega); rotate_left; (intro e9 c9 h9 tk9 led9 x9 n9 o9; refine Stop.intro ?_); rotate_left; (intro v9 h9 tk9 led9 F9 N9 o9; obtain ⟨z9, st9, hst9, t9, k9, its9, y9, S9⟩ := o9; subst z9 y9; (try simp only [List.append_nil] at N9); (try k_sweep))))) | (with_reducible (k_here; (with_reducible show wpAny _ _ (call (Value.ref 79) _) _ _ _); k_dflt (refine' Spec.use (write_zone_spec ?h1 ?h2 ?h3 ?h4 ?h5 ?h6 ?h7 ?h8 ?h9 ?h10) (rest := []) ?b0 ?b1 ?b2 ?b3 ?b4 ?b5 ?b6 ?b7 ?b8 ?b9 ?b10 ?_ ?bE; ((case b0 => exact rfl); (case b1 => exact rfl); (case b2 => assumption); (case b3 => assumption); (case b4 => assumption); (case b5 => assumption); (case b6 => assumption); (case b7 => exact fun _ h => nomatch h);(case b8 => simp only [Around.deeper]; omega); (case b9 => simp only [Around.deeper]; omega); (case b10 => rfl)); (case h1 => assumption); (case h2 => assumption); (case h3 => assumption); (case h4 => assumption); (case h5 => omega); (case h6 => omega); (case h7 => omega); (case h8 => omega); (case h9 => omega); (case h10 => omega); (case bE => exact fun _ _ _ _ _ _ _ z => z.elim); (intro v9 h9 tk9 led9 F9 N9 o9; obtain ⟨z9, t9, k9, its9, y9, S9⟩ := o9; subst z9 y9; (try simp only [List.append_nil] at N9); (try k_sweep))))) | (with_reducible (k_here; (with_reducible show wpAny _ _ (call (Value.ref 72) _) _ _ _); k_dflt (refine' Spec.use (write_text_spec ?h1 ?h2 ?h3 ?h4 ?h5 ?h6 ?h7 ?h8 ?h9) (rest := []) ?b0 ?b1 ?b2 ?b3 ?b4 ?b5 ?b6 ?b7 ?b8 ?b9 ?b10 ?_ ?bE; ((case b0 => exact rfl); (case b1 => exact rfl); (case b2 => assumption); (case b3 => assumption); (case b4 => assumption); (case b5 => assumption); (case b6 => assumption); (case b7 => exact fun _ h => nomatch h);(case b8 => simp only [Around.deeper]; omega); (case b9 => simp only [Around.deeper]; omega); (case b10 => rfl)); (case h1 => assumption); (case h2 => assumption); (case h3 => assumption); (case h4 => assumption); (case h5 => omega); (case h6 => omega); (case h7 => omega); (case h8 => omega); (case h9 => omega); (case bE => exact fun _ _ _ _ _ _ _ z => z.elim); (intro v9 h9 tk9 led9 F9 N9 o9; obtain ⟨z9, t9, k9, its9, y9, S9⟩ := o9; subst z9 y9; (try simp only [List.append_nil] at N9); (try k_sweep))))) | (with_reducible (k_here; (with_reducible show wpAny _ _ (call (Value.ref 65) _) _ _ _); k_dflt (refine' Spec.use (end_row_spec ?h1 ?h2 ?h3 ?h4) (rest := []) ?b0 ?b1 ?b2 ?b3 ?b4 ?b5 ?b6 ?b7 ?b8 ?b9 ?b10 ?_ ?bE; ((case b0 => exact rfl); (case b1 => exact rfl); (case b2 => assumption); (case b3 => assumption); (case b4 => assumption); (case b5 => assumption); (case b6 => assumption); (case b7 => exact fun _ h => nomatch h);(case b8 => simp only [Around.deeper]; omega); (case b9 => simp only [Around.deeper]; omega); (case b10 => rfl)); (case h1 => assumption); (case h2 => assumption); (case h3 => assumption); (case h4 => omega); (case bE => exact fun _ _ _ _ _ _ _ z => z.elim)); intro v9 h9 tk9 led9 F9 N9 o9; obtain ⟨z9, t9, k9, y9⟩ := o9; subst z9 y9; (try simp only [List.append_nil] at N9); (try k_sweep))) | (k_unfold; (try dsimp only)) | walk1 | (dsimp only; walk1)))
    exact h _ _ _ _ (Sub.of (by assumption)) (Led.of (by assumption)) ⟨rfl, _, rfl, _, _, _, rfl, by assumption⟩
  | zone =>
    obtain ⟨u1, hP⟩ := hP
    refine' enter_led (K := hd01.heap_39 w.params) (binds := [(Str.ofString "page", Value.ref p), (Str.ofString "part", Value.ref a), (Str.ofString "zone", .int zone tz), (Str.ofString "width", .int width tw)]) X T S N ?k6 ?k7 ?k8 ?k9 ?kB ?_ ?c2 ?c3 ?c4 ?c5
    ((case k6 => k_is); (case k7 => k_is); (case k8 => (simp only [recursionLimit]; omega)); (case k9 => exact BindsTo.of_eq rfl); (case c5 => decide); (case kB => exact locs rfl); (case c2 => exact rfl); (case c3 => exact rfl); (case c4 => exact rfl); intro _ _ _ _; (try dsimp only))
    (repeat' (first | (with_reducible ((show wpAny _ _ (exec (PySem.Stmt.If _ _ _ _) _) _ _ _); (fail_if_success (refine hid_probe (by assumption) ?_)); refine hid_any (fun _ _ => ?_))) | (with_reducible (refine Hid.go (by assumption) _ _ ?_)) | ((with_reducible show wpAny _ _ (execs _ _) _ _ _); dsimp only) | (with_reducible (k_here; (with_reducible show wpAny _ _ (call (Value.ref 100) _) _ _ _); k_dflt (refine' Spec.use (write_tab_spec ?h1 ?h2 ?h3 ?h4 ?h5 ?h6 ?h7 ?h8 ?h9 ?h10) (rest := []) ?b0 ?b1 ?b2 ?b3 ?b4 ?b5 ?b6 ?b7 ?b8 ?b9 ?b10 ?_ ?_; ((case b0 => exact rfl); (case b1 => exact rfl); (case b2 => assumption); (case b3 => assumption); (case b4 => assumption); (case b5 => assumption); (case b6 => assumption); (case b7 => exact fun _ h => nomatch h);(case b8 => simp only [Around.deeper]; omega); (case b9 => simp only [Around.deeper]; omega); (case b10 => rfl)); (case h1 => assumption); (case h2 => assumption); (case h3 => assumption); (case h4 => assumption); (case h5 => omega); (case h6 => omega); (case h7 => omega); (case h8 => omega); (case h9 => omega); (case h10 => omega); rotate_left; (intro e9 c9 h9 tk9 led9 x9 n9 o9; refine Stop.intro ?_); rotate_left; (intro v9 h9 tk9 led9 F9 N9 o9; obtain ⟨z9, st9, hst9, t9, k9, its9, y9, S9⟩ := o9; subst z9 y9; (try simp only [List.append_nil] at N9); (try k_sweep))))) | (with_reducible (k_here; (with_reducible show wpAny _ _ (call (Value.ref 93) _) _ _ _); k_dflt (refine' Spec.use (write_blanks_spec ?h1 ?h2 ?h3 ?h4 ?h5 ?h6 ?h7 ?h8 ?h9 ?h10) (rest := []) ?b0 ?b1 ?b2 ?b3 ?b4 ?b5 ?b6 ?b7 ?b8 ?b9 ?b10 ?_ ?_; ((case b0 => exact rfl); (case b1 => exact rfl); (case b2 => assumption); (case b3 => assumption); (case b4 => assumption); (case b5 => assumption); (case b6 => assumption); (case b7 => exact fun _ h => nomatch h);(case b8 => simp only [Around.deeper]; omega); (case b9 => simp only [Around.deeper]; omega); (case b10 => rfl)); (case h1 => assumption); (case h2 => assumption); (case h3 => assumption); (case h4 => assumption); (case h5 => omega); (case h6 => omega); (case h7 => omega); (case h8 => omega); (case h9 => omega); (case h10 => omega); rotate_left; (intro e9 c9 h9 tk9 led9 x9 n9 o9; refine Stop.intro ?_); rotate_left; (intro v9 h9 tk9 led9 F9 N9 o9; obtain ⟨z9, st9, hst9, t9, k9, its9, y9, S9⟩ := o9; subst z9 y9; (try simp only [List.append_nil] at N9); (try k_sweep))))) | (with_reducible (k_here; (with_reducible show wpAny _ _ (call (Value.ref 79) _) _ _ _); k_dflt (refine' Spec.use (write_zone_spec ?h1 ?h2 ?h3 ?h4 ?h5 ?h6 ?h7 ?h8 ?h9 ?h10) (rest := []) ?b0 ?b1 ?b2 ?b3 ?b4 ?b5 ?b6 ?b7 ?b8 ?b9 ?b10 ?_ ?bE; ((case b0 => exact rfl); (case b1 => exact rfl); (case b2 => assumption); (case b3 => assumption); (case b4 => assumption); (case b5 => assumption); (case b6 => assumption); (case b7 => exact fun _ h => nomatch h);(case b8 => simp only [Around.deeper]; omega); (case b9 => simp only [Around.deeper]; omega); (case b10 => rfl)); (case h1 => assumption); (case h2 => assumption); (case h3 => assumption); (case h4 => assumption); (case h5 => omega); (case h6 => omega); (case h7 => omega); (case h8 => omega); (case h9 => omega); (case h10 => omega); (case bE => exact fun _ _ _ _ _ _ _ z => z.elim); (intro v9 h9 tk9 led9 F9 N9 o9; obtain ⟨z9, t9, k9, its9, y9, S9⟩ := o9; subst z9 y9; (try simp only [List.append_nil] at N9); (try k_sweep))))) | (with_reducible (k_here; (with_reducible show wpAny _ _ (call (Value.ref 72) _) _ _ _); k_dflt (refine' Spec.use (write_text_spec ?h1 ?h2 ?h3 ?h4 ?h5 ?h6 ?h7 ?h8 ?h9) (rest := []) ?b0 ?b1 ?b2 ?b3 ?b4 ?b5 ?b6 ?b7 ?b8 ?b9 ?b10 ?_ ?bE; ((case b0 => exact rfl); (case b1 => exact rfl); (case b2 => assumption); (case b3 => assumption); (case b4 => assumption); (case b5 => assumption); (case b6 => assumption); (case b7 => exact fun _ h => nomatch h);(case b8 => simp only [Around.deeper]; omega); (case b9 => simp only [Around.deeper]; omega); (case b10 => rfl)); (case h1 => assumption); (case h2 => assumption); (case h3 => assumption); (case h4 => assumption); (case h5 => omega); (case h6 => omega); (case h7 => omega); (case h8 => omega); (case h9 => omega); (case bE => exact fun _ _ _ _ _ _ _ z => z.elim); (intro v9 h9 tk9 led9 F9 N9 o9; obtain ⟨z9, t9, k9, its9, y9, S9⟩ := o9; subst z9 y9; (try simp only [List.append_nil] at N9); (try k_sweep))))) | (with_reducible (k_here; (with_reducible show wpAny _ _ (call (Value.ref 65) _) _ _ _); k_dflt (refine' Spec.use (end_row_spec ?h1 ?h2 ?h3 ?h4) (rest := []) ?b0 ?b1 ?b2 ?b3 ?b4 ?b5 ?b6 ?b7 ?b8 ?b9 ?b10 ?_ ?bE; ((case b0 => exact rfl); (case b1 => exact rfl); (case b2 => assumption); (case b3 => assumption); (case b4 => assumption); (case b5 => assumption); (case b6 => assumption); (case b7 => exact fun _ h => nomatch h);(case b8 => simp only [Around.deeper]; omega); (case b9 => simp only [Around.deeper]; omega); (case b10 => rfl)); (case h1 => assumption); (case h2 => assumption); (case h3 => assumption); (case h4 => omega); (case bE => exact fun _ _ _ _ _ _ _ z => z.elim)); intro v9 h9 tk9 led9 F9 N9 o9; obtain ⟨z9, t9, k9, y9⟩ := o9; subst z9 y9; (try simp only [List.append_nil] at N9); (try k_sweep))) | (k_unfold; (try dsimp only)) | walk1 | (dsimp only; walk1)))
    exact h _ _ _ _ (Sub.of (by assumption)) (Led.of (by assumption)) ⟨rfl, _, rfl, _, _, _, rfl, by assumption⟩
  | glue =>
    obtain ⟨u1, hP⟩ := hP
    refine' enter_led (K := hd01.heap_39 w.params) (binds := [(Str.ofString "page", Value.ref p), (Str.ofString "part", Value.ref a), (Str.ofString "zone", .int zone tz), (Str.ofString "width", .int width tw)]) X T S N ?k6 ?k7 ?k8 ?k9 ?kB ?_ ?c2 ?c3 ?c4 ?c5
    ((case k6 => k_is); (case k7 => k_is); (case k8 => (simp only [recursionLimit]; omega)); (case k9 => exact BindsTo.of_eq rfl); (case c5 => decide); (case kB => exact locs rfl); (case c2 => exact rfl); (case c3 => exact rfl); (case c4 => exact rfl); intro _ _ _ _; (try dsimp only))
    (repeat' (first | (with_reducible ((show wpAny _ _ (exec (PySem.Stmt.If _ _ _ _) _) _ _ _); (fail_if_success (refine hid_probe (by assumption) ?_)); refine hid_any (fun _ _ => ?_))) | (with_reducible (refine Hid.go (by assumption) _ _ ?_)) | ((with_reducible show wpAny _ _ (execs _ _) _ _ _); dsimp only) | (with_reducible (k_here; (with_reducible show wpAny _ _ (call (Value.ref 100) _) _ _ _); k_dflt (refine' Spec.use (write_tab_spec ?h1 ?h2 ?h3 ?h4 ?h5 ?h6 ?h7 ?h8 ?h9 ?h10) (rest := []) ?b0 ?b1 ?b2 ?b3 ?b4 ?b5 ?b6 ?b7 ?b8 ?b9 ?b10 ?_ ?_; ((case b0 => exact rfl); (case b1 => exact rfl); (case b2 => assumption); (case b3 => assumption); (case b4 => assumption); (case b5 => assumption); (case b6 => assumption); (case b7 => exact fun _ h => nomatch h);(case b8 => simp only [Around.deeper]; omega); (case b9 => simp only [Around.deeper]; omega); (case b10 => rfl)); (case h1 => assumption); (case h2 => assumption); (case h3 => assumption); (case h4 => assumption); (case h5 => omega); (case h6 => omega); (case h7 => omega); (case h8 => omega); (case h9 => omega); (case h10 => omega); rotate_left; (intro e9 c9 h9 tk9 led9 x9 n9 o9; refine Stop.intro ?_); rotate_left; (intro v9 h9 tk9 led9 F9 N9 o9; obtain ⟨z9, st9, hst9, t9, k9, its9, y9, S9⟩ := o9; subst z9 y9; (try simp only [List.append_nil] at N9); (try k_sweep))))) | (with_reducible (k_here; (with_reducible show wpAny _ _ (call (Value.ref 93) _) _ _ _); k_dflt (refine' Spec.use (write_blanks_spec ?h1 ?h2 ?h3 ?h4 ?h5 ?h6 ?h7 ?h8 ?h9 ?h10) (rest := []) ?b0 ?b1 ?b2 ?b3 ?b4 ?b5 ?b6 ?b7 ?b8 ?b9 ?b10 ?_ ?_; ((case b0 => exact rfl); (case b1 => exact rfl); (case b2 => assumption); (case b3 => assumption); (case b4 => assumption); (case b5 => assumption); (case b6 => assumption); (case b7 => exact fun _ h => nomatch h);(case b8 => simp only [Around.deeper]; omega); (case b9 => simp only [Around.deeper]; omega); (case b10 => rfl)); (case h1 => assumption); (case h2 => assumption); (case h3 => assumption); (case h4 => assumption); (case h5 => omega); (case h6 => omega); (case h7 => omega); (case h8 => omega); (case h9 => omega); (case h10 => omega); rotate_left; (intro e9 c9 h9 tk9 led9 x9 n9 o9; refine Stop.intro ?_); rotate_left; (intro v9 h9 tk9 led9 F9 N9 o9; obtain ⟨z9, st9, hst9, t9, k9, its9, y9, S9⟩ := o9; subst z9 y9; (try simp only [List.append_nil] at N9); (try k_sweep))))) | (with_reducible (k_here; (with_reducible show wpAny _ _ (call (Value.ref 79) _) _ _ _); k_dflt (refine' Spec.use (write_zone_spec ?h1 ?h2 ?h3 ?h4 ?h5 ?h6 ?h7 ?h8 ?h9 ?h10) (rest := []) ?b0 ?b1 ?b2 ?b3 ?b4 ?b5 ?b6 ?b7 ?b8 ?b9 ?b10 ?_ ?bE; ((case b0 => exact rfl); (case b1 => exact rfl); (case b2 => assumption); (case b3 => assumption); (case b4 => assumption); (case b5 => assumption); (case b6 => assumption); (case b7 => exact fun _ h => nomatch h);(case b8 => simp only [Around.deeper]; omega); (case b9 => simp only [Around.deeper]; omega); (case b10 => rfl)); (case h1 => assumption); (case h2 => assumption); (case h3 => assumption); (case h4 => assumption); (case h5 => omega); (case h6 => omega); (case h7 => omega); (case h8 => omega); (case h9 => omega); (case h10 => omega); (case bE => exact fun _ _ _ _ _ _ _ z => z.elim); (intro v9 h9 tk9 led9 F9 N9 o9; obtain ⟨z9, t9, k9, its9, y9, S9⟩ := o9; subst z9 y9; (try simp only [List.append_nil] at N9); (try k_sweep))))) | (with_reducible (k_here; (with_reducible show wpAny _ _ (call (Value.ref 72) _) _ _ _); k_dflt (refine' Spec.use (write_text_spec ?h1 ?h2 ?h3 ?h4 ?h5 ?h6 ?h7 ?h8 ?h9) (rest := []) ?b0 ?b1 ?b2 ?b3 ?b4 ?b5 ?b6 ?b7 ?b8 ?b9 ?b10 ?_ ?bE; ((case b0 => exact rfl); (case b1 => exact rfl); (case b2 => assumption); (case b3 => assumption); (case b4 => assumption); (case b5 => assumption); (case b6 => assumption); (case b7 => exact fun _ h => nomatch h);(case b8 => simp only [Around.deeper]; omega); (case b9 => simp only [Around.deeper]; omega); (case b10 => rfl)); (case h1 => assumption); (case h2 => assumption); (case h3 => assumption); (case h4 => assumption); (case h5 => omega); (case h6 => omega); (case h7 => omega); (case h8 => omega); (case h9 => omega); (case bE => exact fun _ _ _ _ _ _ _ z => z.elim); (intro v9 h9 tk9 led9 F9 N9 o9; obtain ⟨z9, t9, k9, its9, y9, S9⟩ := o9; subst z9 y9; (try simp only [List.append_nil] at N9); (try k_sweep))))) | (with_reducible (k_here; (with_reducible show wpAny _ _ (call (Value.ref 65) _) _ _ _); k_dflt (refine' Spec.use (end_row_spec ?h1 ?h2 ?h3 ?h4) (rest := []) ?b0 ?b1 ?b2 ?b3 ?b4 ?b5 ?b6 ?b7 ?b8 ?b9 ?b10 ?_ ?bE; ((case b0 => exact rfl); (case b1 => exact rfl); (case b2 => assumption); (case b3 => assumption); (case b4 => assumption); (case b5 => assumption); (case b6 => assumption); (case b7 => exact fun _ h => nomatch h);(case b8 => simp only [Around.deeper]; omega); (case b9 => simp only [Around.deeper]; omega); (case b10 => rfl)); (case h1 => assumption); (case h2 => assumption); (case h3 => assumption); (case h4 => omega); (case bE => exact fun _ _ _ _ _ _ _ z => z.elim)); intro v9 h9 tk9 led9 F9 N9 o9; obtain ⟨z9, t9, k9, y9⟩ := o9; subst z9 y9; (try simp only [List.append_nil] at N9); (try k_sweep))) | (k_unfold; (try dsimp only)) | walk1 | (dsimp only; walk1)))
    exact h _ _ _ _ (Sub.of (by assumption)) (Led.of (by assumption)) ⟨rfl, _, rfl, _, _, _, rfl, hS⟩
  | tab n =>
    obtain ⟨u1, u2, hP⟩ := hP
    unfold Part.ok at hq
    dsimp only at hq
    refine' enter_led (K := hd01.heap_39 w.params) (binds := [(Str.ofString "page", Value.ref p), (Str.ofString "part", Value.ref a), (Str.ofString "zone", .int zone tz), (Str.ofString "width", .int width tw)]) X T S N ?k6 ?k7 ?k8 ?k9 ?kB ?_ ?c2 ?c3 ?c4 ?c5
    ((case k6 => k_is); (case k7 => k_is); (case k8 => (simp only [recursionLimit]; omega)); (case k9 => exact BindsTo.of_eq rfl); (case c5 => decide); (case kB => exact locs rfl); (case c2 => exact rfl); (case c3 => exact rfl); (case c4 => exact rfl); intro _ _ _ _; (try dsimp only))
    (repeat' (first | (with_reducible ((show wpAny _ _ (exec (PySem.Stmt.If _ _ _ _) _) _ _ _); (fail_if_success (refine hid_probe (by assumption) ?_)); refine hid_any (fun _ _ => ?_))) | (with_reducible (refine Hid.go (by assumption) _ _ ?_)) | ((with_reducible show wpAny _ _ (execs _ _) _ _ _); dsimp only) | (with_reducible (k_here; (with_reducible show wpAny _ _ (call (Value.ref 100) _) _ _ _); k_dflt (refine' Spec.use (write_tab_spec ?h1 ?h2 ?h3 ?h4 ?h5 ?h6 ?h7 ?h8 ?h9 ?h10) (rest := []) ?b0 ?b1 ?b2 ?b3 ?b4 ?b5 ?b6 ?b7 ?b8 ?b9 ?b10 ?_ ?_; ((case b0 => exact rfl); (case b1 => exact rfl); (case b2 => assumption); (case b3 => assumption); (case b4 => assumption); (case b5 => assumption); (case b6 => assumption); (case b7 => exact fun _ h => nomatch h);(case b8 => simp only [Around.deeper]; omega); (case b9 => simp only [Around.deeper]; omega); (case b10 => rfl)); (case h1 => assumption); (case h2 => assumption); (case h3 => assumption); (case h4 => assumption); (case h5 => omega); (case h6 => omega); (case h7 => omega); (case h8 => omega); (case h9 => omega); (case h10 => omega); rotate_left; (intro e9 c9 h9 tk9 led9 x9 n9 o9; refine Stop.intro ?_); rotate_left; (intro v9 h9 tk9 led9 F9 N9 o9; obtain ⟨z9, st9, hst9, t9, k9, its9, y9, S9⟩ := o9; subst z9 y9; (try simp only [List.append_nil] at N9); (try k_sweep))))) | (with_reducible (k_here; (with_reducible show wpAny _ _ (call (Value.ref 93) _) _ _ _); k_dflt (refine' Spec.use (write_blanks_spec ?h1 ?h2 ?h3 ?h4 ?h5 ?h6 ?h7 ?h8 ?h9 ?h10) (rest := []) ?b0 ?b1 ?b2 ?b3 ?b4 ?b5 ?b6 ?b7 ?b8 ?b9 ?b10 ?_ ?_; ((case b0 => exact rfl); (case b1 => exact rfl); (case b2 => assumption); (case b3 => assumption); (case b4 => assumption); (case b5 => assumption); (case b6 => assumption); (case b7 => exact fun _ h => nomatch h);(case b8 => simp only [Around.deeper]; omega); (case b9 => simp only [Around.deeper]; omega); (case b10 => rfl)); (case h1 => assumption); (case h2 => assumption); (case h3 => assumption); (case h4 => assumption); (case h5 => omega); (case h6 => omega); (case h7 => omega); (case h8 => omega); (case h9 => omega); (case h10 => omega); rotate_left; (intro e9 c9 h9 tk9 led9 x9 n9 o9; refine Stop.intro ?_); rotate_left; (intro v9 h9 tk9 led9 F9 N9 o9; obtain ⟨z9, st9, hst9, t9, k9, its9, y9, S9⟩ := o9; subst z9 y9; (try simp only [List.append_nil] at N9); (try k_sweep))))) | (with_reducible (k_here; (with_reducible show wpAny _ _ (call (Value.ref 79) _) _ _ _); k_dflt (refine' Spec.use (write_zone_spec ?h1 ?h2 ?h3 ?h4 ?h5 ?h6 ?h7 ?h8 ?h9 ?h10) (rest := []) ?b0 ?b1 ?b2 ?b3 ?b4 ?b5 ?b6 ?b7 ?b8 ?b9 ?b10 ?_ ?bE; ((case b0 => exact rfl); (case b1 => exact rfl); (case b2 => assumption); (case b3 => assumption); (case b4 => assumption); (case b5 => assumption); (case b6 => assumption); (case b7 => exact fun _ h => nomatch h);(case b8 => simp only [Around.deeper]; omega); (case b9 => simp only [Around.deeper]; omega); (case b10 => rfl)); (case h1 => assumption); (case h2 => assumption); (case h3 => assumption); (case h4 => assumption); (case h5 => omega); (case h6 => omega); (case h7 => omega); (case h8 => omega); (case h9 => omega); (case h10 => omega); (case bE => exact fun _ _ _ _ _ _ _ z => z.elim); (intro v9 h9 tk9 led9 F9 N9 o9; obtain ⟨z9, t9, k9, its9, y9, S9⟩ := o9; subst z9 y9; (try simp only [List.append_nil] at N9); (try k_sweep))))) | (with_reducible (k_here; (with_reducible show wpAny _ _ (call (Value.ref 72) _) _ _ _); k_dflt (refine' Spec.use (write_text_spec ?h1 ?h2 ?h3 ?h4 ?h5 ?h6 ?h7 ?h8 ?h9) (rest := []) ?b0 ?b1 ?b2 ?b3 ?b4 ?b5 ?b6 ?b7 ?b8 ?b9 ?b10 ?_ ?bE; ((case b0 => exact rfl); (case b1 => exact rfl); (case b2 => assumption); (case b3 => assumption); (case b4 => assumption); (case b5 => assumption); (case b6 => assumption); (case b7 => exact fun _ h => nomatch h);(case b8 => simp only [Around.deeper]; omega); (case b9 => simp only [Around.deeper]; omega); (case b10 => rfl)); (case h1 => assumption); (case h2 => assumption); (case h3 => assumption); (case h4 => assumption); (case h5 => omega); (case h6 => omega); (case h7 => omega); (case h8 => omega); (case h9 => omega); (case bE => exact fun _ _ _ _ _ _ _ z => z.elim); (intro v9 h9 tk9 led9 F9 N9 o9; obtain ⟨z9, t9, k9, its9, y9, S9⟩ := o9; subst z9 y9; (try simp only [List.append_nil] at N9); (try k_sweep))))) | (with_reducible (k_here; (with_reducible show wpAny _ _ (call (Value.ref 65) _) _ _ _); k_dflt (refine' Spec.use (end_row_spec ?h1 ?h2 ?h3 ?h4) (rest := []) ?b0 ?b1 ?b2 ?b3 ?b4 ?b5 ?b6 ?b7 ?b8 ?b9 ?b10 ?_ ?bE; ((case b0 => exact rfl); (case b1 => exact rfl); (case b2 => assumption); (case b3 => assumption); (case b4 => assumption); (case b5 => assumption); (case b6 => assumption); (case b7 => exact fun _ h => nomatch h);(case b8 => simp only [Around.deeper]; omega); (case b9 => simp only [Around.deeper]; omega); (case b10 => rfl)); (case h1 => assumption); (case h2 => assumption); (case h3 => assumption); (case h4 => omega); (case bE => exact fun _ _ _ _ _ _ _ z => z.elim)); intro v9 h9 tk9 led9 F9 N9 o9; obtain ⟨z9, t9, k9, y9⟩ := o9; subst z9 y9; (try simp only [List.append_nil] at N9); (try k_sweep))) | (k_unfold; (try dsimp only)) | walk1 | (dsimp only; walk1)))
    · rename writeTab _ _ _ = some _ => hst
      exact h _ _ _ _ (Sub.of (by assumption)) (Led.of (by assumption)) ⟨rfl, _, hst, _, _, _, rfl, by assumption⟩
    · skip
      obtain ⟨rfl, o9, rfl⟩ := o9
      exact x9.leave (by rfl) (by rfl) (not_above (by assumption)) fun h'' x2 => hE _ _ _ _ _ x2 ⟨rfl, o9, rfl⟩
  | spc n =>
    obtain ⟨u1, u2, hP⟩ := hP
    unfold Part.ok at hq
    dsimp only at hq
    refine' enter_led (K := hd01.heap_39 w.params) (binds := [(Str.ofString "page", Value.ref p), (Str.ofString "part", Value.ref a), (Str.ofString "zone", .int zone tz), (Str.ofString "width", .int width tw)]) X T S N ?k6 ?k7 ?k8 ?k9 ?kB ?_ ?c2 ?c3 ?c4 ?c5
    ((case k6 => k_is); (case k7 => k_is); (case k8 => (simp only [recursionLimit]; omega)); (case k9 => exact BindsTo.of_eq rfl); (case c5 => decide); (case kB => exact locs rfl); (case c2 => exact rfl); (case c3 => exact rfl); (case c4 => exact rfl); intro _ _ _ _; (try dsimp only))
    (repeat' (first | (with_reducible ((show wpAny _ _ (exec (PySem.Stmt.If _ _ _ _) _) _ _ _); (fail_if_success (refine hid_probe (by assumption) ?_)); refine hid_any (fun _ _ => ?_))) | (with_reducible (refine Hid.go (by assumption) _ _ ?_)) | ((with_reducible show wpAny _ _ (execs _ _) _ _ _); dsimp only) | (with_reducible (k_here; (with_reducible show wpAny _ _ (call (Value.ref 100) _) _ _ _); k_dflt (refine' Spec.use (write_tab_spec ?h1 ?h2 ?h3 ?h4 ?h5 ?h6 ?h7 ?h8 ?h9 ?h10) (rest := []) ?b0 ?b1 ?b2 ?b3 ?b4 ?b5 ?b6 ?b7 ?b8 ?b9 ?b10 ?_ ?_; ((case b0 => exact rfl); (case b1 => exact rfl); (case b2 => assumption); (case b3 => assumption); (case b4 => assumption); (case b5 => assumption); (case b6 => assumption); (case b7 => exact fun _ h => nomatch h);(case b8 => simp only [Around.deeper]; omega); (case b9 => simp only [Around.deeper]; omega); (case b10 => rfl)); (case h1 => assumption); (case h2 => assumption); (case h3 => assumption); (case h4 => assumption); (case h5 => omega); (case h6 => omega); (case h7 => omega); (case h8 => omega); (case h9 => omega); (case h10 => omega); rotate_left; (intro e9 c9 h9 tk9 led9 x9 n9 o9; refine Stop.intro ?_); rotate_left; (intro v9 h9 tk9 led9 F9 N9 o9; obtain ⟨z9, st9, hst9, t9, k9, its9, y9, S9⟩ := o9; subst z9 y9; (try simp only [List.append_nil] at N9); (try k_sweep))))) | (with_reducible (k_here; (with_reducible show wpAny _ _ (call (Value.ref 93) _) _ _ _); k_dflt (refine' Spec.use (write_blanks_spec ?h1 ?h2 ?h3 ?h4 ?h5 ?h6 ?h7 ?h8 ?h9 ?h10) (rest := []) ?b0 ?b1 ?b2 ?b3 ?b4 ?b5 ?b6 ?b7 ?b8 ?b9 ?b10 ?_ ?_; ((case b0 => exact rfl); (case b1 => exact rfl); (case b2 => assumption); (case b3 => assumption); (case b4 => assumption); (case b5 => assumption); (case b6 => assumption); (case b7 => exact fun _ h => nomatch h);(case b8 => simp only [Around.deeper]; omega); (case b9 => simp only [Around.deeper]; omega); (case b10 => rfl)); (case h1 => assumption); (case h2 => assumption); (case h3 => assumption); (case h4 => assumption); (case h5 => omega); (case h6 => omega); (case h7 => omega); (case h8 => omega); (case h9 => omega); (case h10 => omega); rotate_left; (intro e9 c9 h9 tk9 led9 x9 n9 o9; refine Stop.intro ?_); rotate_left; (intro v9 h9 tk9 led9 F9 N9 o9; obtain ⟨z9, st9, hst9, t9, k9, its9, y9, S9⟩ := o9; subst z9 y9; (try simp only [List.append_nil] at N9); (try k_sweep))))) | (with_reducible (k_here; (with_reducible show wpAny _ _ (call (Value.ref 79) _) _ _ _); k_dflt (refine' Spec.use (write_zone_spec ?h1 ?h2 ?h3 ?h4 ?h5 ?h6 ?h7 ?h8 ?h9 ?h10) (rest := []) ?b0 ?b1 ?b2 ?b3 ?b4 ?b5 ?b6 ?b7 ?b8 ?b9 ?b10 ?_ ?bE; ((case b0 => exact rfl); (case b1 => exact rfl); (case b2 => assumption); (case b3 => assumption); (case b4 => assumption); (case b5 => assumption); (case b6 => assumption); (case b7 => exact fun _ h => nomatch h);(case b8 => simp only [Around.deeper]; omega); (case b9 => simp only [Around.deeper]; omega); (case b10 => rfl)); (case h1 => assumption); (case h2 => assumption); (case h3 => assumption); (case h4 => assumption); (case h5 => omega); (case h6 => omega); (case h7 => omega); (case h8 => omega); (case h9 => omega); (case h10 => omega); (case bE => exact fun _ _ _ _ _ _ _ z => z.elim); (intro v9 h9 tk9 led9 F9 N9 o9; obtain ⟨z9, t9, k9, its9, y9, S9⟩ := o9; subst z9 y9; (try simp only [List.append_nil] at N9); (try k_sweep))))) | (with_reducible (k_here; (with_reducible show wpAny _ _ (call (Value.ref 72) _) _ _ _); k_dflt (refine' Spec.use (write_text_spec ?h1 ?h2 ?h3 ?h4 ?h5 ?h6 ?h7 ?h8 ?h9) (rest := []) ?b0 ?b1 ?b2 ?b3 ?b4 ?b5 ?b6 ?b7 ?b8 ?b9 ?b10 ?_ ?bE; ((case b0 => exact rfl); (case b1 => exact rfl); (case b2 => assumption); (case b3 => assumption); (case b4 => assumption); (case b5 => assumption); (case b6 => assumption); (case b7 => exact fun _ h => nomatch h);(case b8 => simp only [Around.deeper]; omega); (case b9 => simp only [Around.deeper]; omega); (case b10 => rfl)); (case h1 => assumption); (case h2 => assumption); (case h3 => assumption); (case h4 => assumption); (case h5 => omega); (case h6 => omega); (case h7 => omega); (case h8 => omega); (case h9 => omega); (case bE => exact fun _ _ _ _ _ _ _ z => z.elim); (intro v9 h9 tk9 led9 F9 N9 o9; obtain ⟨z9, t9, k9, its9, y9, S9⟩ := o9; subst z9 y9; (try simp only [List.append_nil] at N9); (try k_sweep))))) | (with_reducible (k_here; (with_reducible show wpAny _ _ (call (Value.ref 65) _) _ _ _); k_dflt (refine' Spec.use (end_row_spec ?h1 ?h2 ?h3 ?h4) (rest := []) ?b0 ?b1 ?b2 ?b3 ?b4 ?b5 ?b6 ?b7 ?b8 ?b9 ?b10 ?_ ?bE; ((case b0 => exact rfl); (case b1 => exact rfl); (case b2 => assumption); (case b3 => assumption); (case b4 => assumption); (case b5 => assumption); (case b6 => assumption); (case b7 => exact fun _ h => nomatch h);(case b8 => simp only [Around.deeper]; omega); (case b9 => simp only [Around.deeper]; omega); (case b10 => rfl)); (case h1 => assumption); (case h2 => assumption); (case h3 => assumption); (case h4 => omega); (case bE => exact fun _ _ _ _ _ _ _ z => z.elim)); intro v9 h9 tk9 led9 F9 N9 o9; obtain ⟨z9, t9, k9, y9⟩ := o9; subst z9 y9; (try simp only [List.append_nil] at N9); (try k_sweep))) | (k_unfold; (try dsimp only)) | walk1 | (dsimp only; walk1)))
    · rename withinRow _ _ = some _ => hst
      exact h _ _ _ _ (Sub.of (by assumption)) (Led.of (by assumption)) ⟨rfl, _, by unfold writePart; dsimp only; rw [hst]; rfl, _, _, _, rfl, by assumption⟩
    · skip
      obtain ⟨rfl, o9, rfl⟩ := o9
      exact x9.leave (by rfl) (by rfl) (not_above (by assumption)) fun h'' x2 => hE _ _ _ _ _ x2 ⟨rfl, by unfold writePart; dsimp only; rw [o9]; rfl, rfl⟩
end Mine
namespace Mine

inductive LNext (s : Shared) (h₀ : Heap) (L it : Addr) (oi : Obj) (P : (Str → Option Value) → List (Addr × Obj) → Prop) (s₃ : Shared) : Prop where
  | mk (m₃ : Str → Option Value) (news₃ : List (Addr × Obj)) (h₃ : Heap) (tk₃ : Nat) (e : s₃ = { s with heap := h₃, toks := tk₃ }) (F : Fr h₀ L h₃ m₃) (N : News h₀ L h₃ (news₃ ++ [(it, oi)])) (hP : P m₃ news₃) (hne : ∀ q ∈ news₃, q.1 ≠ it)
inductive LI (s : Shared) (h₀ : Heap) (L it l : Addr) (vs : List Value) (P : List Value → (Str → Option Value) → List (Addr × Obj) → Prop) (n : Nat) (s' : Shared) : Prop where
  | mk (dn rest : List Value) (m' : Str → Option Value) (news' : List (Addr × Obj)) (h : Heap) (tk : Nat) (oi : Obj) (e : s' = { s with heap := h, toks := tk }) (hvs : vs = dn ++ rest) (hn : n = rest.length) (hne : ∀ q ∈ news', q.1 ≠ it) (hP : P rest m' news') (F : Fr h₀ L h m') (N : News h₀ L h (news' ++ [(it, oi)])) (hI : h.IsListIter it l dn.length)
section
variable {prog : Program} {w : World} {A : Around} {E : Value → Shared → Prop} {s : Shared}
theorem loop_list {R : Result → Shared → Prop} {target : Expr} {body : List Stmt} {env : Env} {l : Addr} {vs : List Value} {h₀ : Heap} {m : Str → Option Value} {news : List (Addr × Obj)}
    (P : List Value → (Str → Option Value) → List (Addr × Obj) → Prop) (hh : A.handled = none) (F : Fr h₀ env.locals s.heap m) (N : News h₀ env.locals s.heap news) (h0 : P vs m news)
    (hL : ∀ rest m' news' h, P rest m' news' → Fr h₀ env.locals h m' → News h₀ env.locals h news' → h.IsList l vs.toArray)
    (step : ∀ it oi v rest m' news' h tk, (∀ q ∈ news', q.1 ≠ it) → P (v :: rest) m' news' → Fr h₀ env.locals h m' → News h₀ env.locals h (news' ++ [(it, oi)]) →
      wpAny (model prog w) A (assign target env v) (fun _ s₂ => wpAny (model prog w) A (execs body env) (fun f s₃ => match f with
          | .next | .cont => LNext s h₀ env.locals it oi (P rest) s₃
          | .brk => R (.ok .next) s₃
          | .ret v => R (.ok (.ret v)) s₃) (notedBy (model prog w) A env fun e s' => R (.error e) s') s₂) (notedBy (model prog w) A env fun e s' => R (.error e) s') { s with heap := h, toks := tk })
    (fin : ∀ m' news' h tk, P [] m' news' → Fr h₀ env.locals h m' → News h₀ env.locals h news' → R (.ok .next) { s with heap := h, toks := tk })
    (ht : ∀ it v, letOwnedTupleGo target (.ref it) v = pure () := by intro _ _; rfl) :
    wpAny (model prog w) A (pyIter (.ref l)) (fun it s₂ => codeAny (model prog w) A (.forLoop target it body [] env) R s₂) E s := by
  have hl := hL _ _ _ _ h0 F N
  refine wpAny_pyIter_list hl ?_
  have hfr := next_is_new F
  have hLt := F.ns.lt
  have hlt : l ≠ s.heap.objs.size := by
    obtain ⟨o, ho, _⟩ := hl
    exact Nat.ne_of_lt (Heap.lt_size ho)
  have F1 := F.push { cls := .type "list_iterator", data := .fields #[.ref l, .int 0 0] }
  have NP := News.push F N { cls := .type "list_iterator", data := .fields #[.ref l, .int 0 0] }
  have N1 : News h₀ env.locals (s.heap.push { cls := .type "list_iterator", data := .fields #[.ref l, .int 0 0] }) (news ++ [(s.heap.objs.size, { cls := .type "list_iterator", data := .fields #[.ref l, .int 0 0] })]) := fun q hq => by
    rcases List.mem_append.mp hq with hq | hq
    · exact NP q (List.mem_cons_of_mem _ hq)
    · obtain rfl := List.mem_singleton.mp hq
      exact NP _ List.mem_cons_self
  have hI1 : (s.heap.push { cls := .type "list_iterator", data := .fields #[.ref l, .int 0 0] }).IsListIter s.heap.objs.size l 0 := ⟨_, Heap.get?_push_size _ rfl, rfl, rfl⟩
  have hne1 : ∀ q ∈ news, q.1 ≠ s.heap.objs.size := fun q hq => Nat.ne_of_lt (Heap.lt_size (N q hq).1)
  have hLne : s.heap.objs.size ≠ env.locals := Nat.ne_of_gt hLt
  clear NP
  generalize hit : s.heap.objs.size = it at *
  refine codeAny_forLoop (LI s h₀ env.locals it l vs P) (fun n s' hI => ?_) vs.length ⟨[], vs, m, news, _, s.toks, _, rfl, rfl, rfl, hne1, h0, F1, N1, hI1⟩ (ht it)
  obtain ⟨dn, rest, m', news', h, tk, oi, rfl, hvs, rfl, hne, hP, F', N', hI⟩ := hI
  have N'' : News h₀ env.locals h news' := fun q hq => N' q (List.mem_append_left _ hq)
  have hl' := hL _ _ _ _ hP F' N''
  cases rest with
  | nil =>
    refine wpAny_pyNext_list_end hh hI hl' (by rw [hvs]; simp) fun h' e => ?_
    refine wpAny_execs_nil (fin m' news' h' tk hP (fr_of_but F' hfr hLne fun b o hb => e b o hb) fun q hq => ⟨e _ _ (hne q hq) (N'' q hq).1, (N'' q hq).2⟩)
  | cons v rest =>
    refine wpAny_pyNext_list_item hI hl' (x := v) (by rw [hvs]; simp) fun h' i' e => ?_
    have F2 := fr_of_but F' hfr hLne fun b o hb => e.extBut b o hb
    obtain ⟨oi', ho', hc', hd'⟩ := i'
    have N2 : News h₀ env.locals h' (news' ++ [(it, oi')]) := fun q hq => by
      rcases List.mem_append.mp hq with hq | hq
      · exact ⟨e.extBut _ _ (hne q hq) (N'' q hq).1, (N'' q hq).2⟩
      · obtain rfl := List.mem_singleton.mp hq
        exact ⟨ho', hLne, hfr⟩
    refine wpAny_mono (step it oi' v rest m' news' h' tk hne hP F2 N2) (fun _ s₂ hs₂ => wpAny_mono hs₂ (fun f s₃ hf => ?_) fun _ _ x => x) fun _ _ x => x
    have fin' : LNext s h₀ env.locals it oi' (P rest) s₃ → ∃ m, m < (v :: rest).length ∧ LI s h₀ env.locals it l vs P m s₃ := by
      rintro ⟨m₃, news₃, h₃, tk₃, rfl, F₃, N₃, hP₃, hne₃⟩
      refine ⟨rest.length, by simp, dn ++ [v], rest, m₃, news₃, h₃, tk₃, oi', rfl, by rw [hvs]; simp, rfl, hne₃, hP₃, F₃, N₃, ⟨oi', (N₃ (it, oi') (by simp)).1, hc', ?_⟩⟩
      rw [List.length_append, List.length_singleton]; exact hd'
    cases f with
    | next => exact fin' hf
    | cont => exact fin' hf
    | brk => exact hf
    | ret v => exact hf
end

theorem Flight.drop {h₀ h : Heap} {o : List Env} {led rest : List (Addr × Obj)} {e : Addr} {c : Str} {fl : Value} (x : Flight h₀ o (led ++ rest) e c fl h) : Flight h₀ o led e c fl h := by
  obtain ⟨B, dx, od, t, k1, k2, a3, a4, a5, a6, a7⟩ := x
  exact ⟨B, dx, od, t, k1, fun q hq => k2 q (List.mem_append_left _ hq), a3, a4, a5, a6, a7⟩

theorem writeText_len (s : PS) (x : Str) (w : Int) : (writeText s x w).1.length ≤ s.1.length + 1 + x.length ∧ (writeText s x w).2.length ≤ s.2.length + x.length := by
  have := chop_len w x
  have e0 : (Str.ofString "").length = 0 := by decide +kernel
  have a (y z : Str) : (y ++ z).length = y.length + z.length := by
    show (y.cps ++ z.cps).size = _
    rw [Array.size_append]; rfl
  unfold writeText breakFor endRow
  split <;> simp only [List.length_append, List.length_singleton, a, e0] <;> omega
theorem writePart_len {s s' : PS} {q : Part} {zone width : Int} (h : writePart s q zone width = some s') (hq : q.ok) (hz0 : 2 ≤ zone) (hz1 : zone ≤ 9) (hw0 : 0 ≤ width) : s'.1.length ≤ s.1.length + 401 ∧ s'.2.length ≤ s.2.length + 400 := by
  have a (y z : Str) : (y ++ z).length = y.length + z.length := by
    show (y.cps ++ z.cps).size = _
    rw [Array.size_append]; rfl
  have e0 : (Str.ofString "").length = 0 := by decide +kernel
  unfold writePart at h
  cases q with
  | text x =>
    obtain rfl := Option.some.inj h
    have := writeText_len s x width
    have hq : x.length ≤ 400 := hq
    omega
  | zone =>
    obtain rfl := Option.some.inj h
    have := zoneCol_bounds s.2.length (zone := zone) (by omega)
    unfold writeZone endRow
    split
    · simp only [List.length_append, List.length_singleton, e0]; omega
    · simp only [a, blanks_len]; omega
  | glue => obtain rfl := Option.some.inj h; omega
  | tab n =>
    dsimp only at h
    unfold writeTab at h
    split at h
    · cases h
    · obtain ⟨x, hx, rfl⟩ := Option.map_eq_some_iff.mp h
      have := withinRow_le hx hw0
      unfold endRow
      split
      · simp only [List.length_append, List.length_singleton, a, e0, blanks_len]; omega
      · simp only [a, blanks_len]; omega
  | spc n =>
    dsimp only at h
    obtain ⟨x, hx, rfl⟩ := Option.map_eq_some_iff.mp h
    have := withinRow_le hx hw0
    have := writeText_len s (blanks x) width
    rw [blanks_len] at this
    omega

def runParts (zone width : Int) : PS → Bool → List Part → PS × Bool × Bool
  | s, e, [] => (s, e, false)
  | s, e, q :: qs => match writePart s q zone width with
    | none => (s, e, true)
    | some s' => runParts zone width s' q.isText qs
def writeParts (s : PS) (qs : List Part) (zone width : Int) : PS × Bool :=
  match runParts zone width s true qs with
  | (s', _, true) => (s', true)
  | (s', true, false) => (endRow s', false)
  | (s', false, false) => (s', false)

inductive PartsAt (h : Heap) : List Value → List Part → Prop
  | nil : PartsAt h [] []
  | cons {a q vs qs} : PartAt h a q → q.ok → PartsAt h vs qs → PartsAt h (.ref a :: vs) (q :: qs)
local macro_rules | `(tactic| walk_at "Exists") => `(tactic| refine Stop.intro ?_)
local macro_rules | `(tactic| walk_at "exec While") => `(tactic| refine Stop.intro ?_)
local macro_rules | `(tactic| walk_at "exec Raise some none") => `(tactic| refine Stop.intro ?_)
local macro_rules | `(tactic| walk_at "exec For") => `(tactic| refine Stop.intro ?_)
local macro_rules | `(tactic| walk_at "pyIter ref") => `(tactic| refine Stop.intro ?_)
-- the premises of Spec.use

theorem pg_ne {w : World} {p d o it : Addr} {t1 t2 t3 t3' : Tok} {row row' : Str} {its its' : Array Value} {k k' : Nat} (h : ∀ q ∈ pgLed w p d o t1 t2 t3 row its k, q.1 ≠ it) : ∀ q ∈ pgLed w p d o t1 t2 t3' row' its' k', q.1 ≠ it := fun q hq => by
  have h1 := h _ (.head _)
  have h2 := h _ (.tail _ (.head _))
  have h3 := h _ (.tail _ (.tail _ (.head _)))
  rcases List.mem_cons.mp hq with rfl | hq
  · exact h1
  rcases List.mem_cons.mp hq with rfl | hq
  · exact h2
  obtain rfl := List.mem_singleton.mp hq
  exact h3

inductive PW (w : World) (p d o : Addr) (t1 t2 : Tok) (h₀ : Heap) (zone width : Int) (S : PS) (qs : List Part) (m0 : Str → Option Value) (rest : List Value) (m' : Str → Option Value) (news' : List (Addr × Obj)) : Prop where
  | mk (qs' : List Part) (st : PS) (e : Bool) (t3' : Tok) (k' : Nat) (its' : Array Value) (pv : Option Value) (hps : PartsAt h₀ rest qs') (hrun : runParts zone width S true qs = runParts zone width st e qs') (hb1 : st.1.length + 401 * qs'.length ≤ 20000 + 8020) (hb2 : st.2.length + 400 * qs'.length ≤ 20000 + 8000) (hS' : StrsAre its'.toList st.1) (en : news' = pgLed w p d o t1 t2 t3' st.2 its' k') (em : m' = fun y => if y = Str.ofString "part" then pv else if y = Str.ofString "is_ended" then some (.bool e) else m0 y)
theorem write_parts_spec {w : World} {p d o l : Addr} {t1 t2 t3 tz tw : Tok} {k : Nat} {its : Array Value} {row : Str} {rows : List Str} {vs : List Value} {qs : List Part} {zone width : Int} (hpd : @Ne Nat p d) (hpo : @Ne Nat p o) (hdo : @Ne Nat d o) (hS : StrsAre its.toList rows) (hits : rows.length ≤ 20000) (hrow : row.length ≤ 20000) (hn : qs.length ≤ 20) (hz0 : 2 ≤ zone) (hz1 : zone ≤ 9) (hw0 : 0 ≤ width) (hw1 : width ≤ 100) :
    SpecP w 830 114 [.ref p, .ref l, .int zone tz, .int width tw] (pgLed w p d o t1 t2 t3 row its k) (fun h => h.IsList l vs.toArray ∧ PartsAt h vs qs) (fun v led => v = .none ∧ (writeParts (rows, row) qs zone width).2 = false ∧ PgOut w p d o t1 t2 (writeParts (rows, row) qs zone width).1 led)
      (fun c led => c = Str.ofString "FC" ∧ (writeParts (rows, row) qs zone width).2 = true ∧ PgOut w p d o t1 t2 (writeParts (rows, row) qs zone width).1 led) := by
  intro A outer A₀ base h₀ mean mg mb s R hh hA B X T S N hP hdp hun h hE
  obtain ⟨hd, dp, fr, gd, un⟩ := A
  dsimp only at hh hA hdp hun
  subst hh hA
  have hsz := StrsAre.size hS
  obtain ⟨hl, hps⟩ := hP
  refine' enter_led (K := hd01.heap_39 w.params) (binds := [(Str.ofString "page", Value.ref p), (Str.ofString "parts", Value.ref l), (Str.ofString "zone", .int zone tz), (Str.ofString "width", .int width tw)]) X T S N ?k6 ?k7 ?k8 ?k9 ?kB ?_ ?c2 ?c3 ?c4 ?c5
  ((case k6 => k_is); (case k7 => k_is); (case k8 => (simp only [recursionLimit]; omega)); (case k9 => exact BindsTo.of_eq rfl); (case c5 => decide); (case kB => exact locs rfl); (case c2 => exact rfl); (case c3 => exact rfl); (case c4 => exact rfl); intro _ _ _ _; (try dsimp only))
  (repeat' (first | (with_reducible ((show wpAny _ _ (exec (PySem.Stmt.If _ _ _ _) _) _ _ _); (fail_if_success (refine hid_probe (by assumption) ?_)); refine hid_any (fun _ _ => ?_))) | (with_reducible (refine Hid.go (by assumption) _ _ ?_)) | ((with_reducible show wpAny _ _ (execs _ _) _ _ _); dsimp only) | (with_reducible (k_here; (with_reducible show wpAny _ _ (call (Value.ref 107) _) _ _ _); k_dflt (refine' SpecP.use (write_part_spec ?h1 ?h2 ?h3 ?h4 ?h5 ?h6 ?h7 ?h8 ?h9 ?h10 ?h11) ?b0 ?b1 ?b2 ?b3 ?b4 ?b5 ?b6 ?b7 ?bP ?b8 ?b9 ?b10 ?_ ?_; (case b0 => exact rfl); (case b1 => exact rfl); (case b2 => assumption); (case b3 => assumption); (case b4 => assumption); (case b5 => assumption); (case b6 => assumption); (case b7 => assumption); (case bP => exact fun k _ => PartAt.keeps k (by assumption)); (case b8 => simp only [Around.deeper]; omega); (case b9 => simp only [Around.deeper]; omega); (case b10 => rfl); (case h1 => assumption); (case h2 => assumption); (case h3 => assumption); (case h4 => assumption); (case h5 => omega); (case h6 => omega); (case h7 => assumption); (case h8 => omega); (case h9 => omega); (case h10 => omega); (case h11 => omega); rotate_left; (intro e9 c9 h9 tk9 led9 x9 n9 o9; refine Stop.intro ?_); rotate_left; (intro v9 h9 tk9 led9 F9 N9 o9; obtain ⟨z9, st9, hst9, t9, k9, its9, y9, S9⟩ := o9; subst z9 y9; (try k_sweep))))) | (with_reducible (k_here; (with_reducible show wpAny _ _ (call (Value.ref 65) _) _ _ _); k_dflt (refine' Spec.use (end_row_spec ?h1 ?h2 ?h3 ?h4) (rest := []) ?b0 ?b1 ?b2 ?b3 ?b4 ?b5 ?b6 ?b7 ?b8 ?b9 ?b10 ?_ ?bE; ((case b0 => exact rfl); (case b1 => exact rfl); (case b2 => assumption); (case b3 => assumption); (case b4 => assumption); (case b5 => assumption); (case b6 => assumption); (case b7 => exact fun _ h => nomatch h);(case b8 => simp only [Around.deeper]; omega); (case b9 => simp only [Around.deeper]; omega); (case b10 => rfl)); (case h1 => assumption); (case h2 => assumption); (case h3 => assumption); (case h4 => omega); (case bE => exact fun _ _ _ _ _ _ _ z => z.elim)); intro v9 h9 tk9 led9 F9 N9 o9; obtain ⟨z9, t9, k9, y9⟩ := o9; subst z9 y9; (try simp only [List.append_nil] at N9); (try k_sweep))) | (k_unfold; (try dsimp only)) | walk1 | (dsimp only; walk1)))
  rename Fr _ _ _ _ => F₂
  rename News _ _ _ _ => N₂
  try unfold Stop
  refine wpAny_For ?_
  (repeat' (first | (with_reducible ((show wpAny _ _ (exec (PySem.Stmt.If _ _ _ _) _) _ _ _); (fail_if_success (refine hid_probe (by assumption) ?_)); refine hid_any (fun _ _ => ?_))) | (with_reducible (refine Hid.go (by assumption) _ _ ?_)) | ((with_reducible show wpAny _ _ (execs _ _) _ _ _); dsimp only) | (with_reducible (k_here; (with_reducible show wpAny _ _ (call (Value.ref 107) _) _ _ _); k_dflt (refine' SpecP.use (write_part_spec ?h1 ?h2 ?h3 ?h4 ?h5 ?h6 ?h7 ?h8 ?h9 ?h10 ?h11) ?b0 ?b1 ?b2 ?b3 ?b4 ?b5 ?b6 ?b7 ?bP ?b8 ?b9 ?b10 ?_ ?_; (case b0 => exact rfl); (case b1 => exact rfl); (case b2 => assumption); (case b3 => assumption); (case b4 => assumption); (case b5 => assumption); (case b6 => assumption); (case b7 => assumption); (case bP => exact fun k _ => PartAt.keeps k (by assumption)); (case b8 => simp only [Around.deeper]; omega); (case b9 => simp only [Around.deeper]; omega); (case b10 => rfl); (case h1 => assumption); (case h2 => assumption); (case h3 => assumption); (case h4 => assumption); (case h5 => omega); (case h6 => omega); (case h7 => assumption); (case h8 => omega); (case h9 => omega); (case h10 => omega); (case h11 => omega); rotate_left; (intro e9 c9 h9 tk9 led9 x9 n9 o9; refine Stop.intro ?_); rotate_left; (intro v9 h9 tk9 led9 F9 N9 o9; obtain ⟨z9, st9, hst9, t9, k9, its9, y9, S9⟩ := o9; subst z9 y9; (try k_sweep))))) | (with_reducible (k_here; (with_reducible show wpAny _ _ (call (Value.ref 65) _) _ _ _); k_dflt (refine' Spec.use (end_row_spec ?h1 ?h2 ?h3 ?h4) (rest := []) ?b0 ?b1 ?b2 ?b3 ?b4 ?b5 ?b6 ?b7 ?b8 ?b9 ?b10 ?_ ?bE; ((case b0 => exact rfl); (case b1 => exact rfl); (case b2 => assumption); (case b3 => assumption); (case b4 => assumption); (case b5 => assumption); (case b6 => assumption); (case b7 => exact fun _ h => nomatch h);(case b8 => simp only [Around.deeper]; omega); (case b9 => simp only [Around.deeper]; omega); (case b10 => rfl)); (case h1 => assumption); (case h2 => assumption); (case h3 => assumption); (case h4 => omega); (case bE => exact fun _ _ _ _ _ _ _ z => z.elim)); intro v9 h9 tk9 led9 F9 N9 o9; obtain ⟨z9, t9, k9, y9⟩ := o9; subst z9 y9; (try simp only [List.append_nil] at N9); (try k_sweep))) | (k_unfold; (try dsimp only)) | walk1 | (dsimp only; walk1)))
  try unfold Stop
  refine loop_list (h₀ := h₀) (vs := vs) (PW w p d o t1 t2 h₀ zone width (rows, row) qs (fun y => List.lookup y [(Str.ofString "page", Value.ref p), (Str.ofString "parts", Value.ref l), (Str.ofString "zone", .int zone tz), (Str.ofString "width", .int width tw)].reverse)) rfl (frCongr F₂ (m' := fun y => if y = Str.ofString "part" then none else if y = Str.ofString "is_ended" then some (.bool true) else List.lookup y [(Str.ofString "page", Value.ref p), (Str.ofString "parts", Value.ref l), (Str.ofString "zone", .int zone tz), (Str.ofString "width", .int width tw)].reverse) ?_) N₂ ⟨qs, (rows, row), true, _, _, _, none, hps, rfl, by dsimp only; omega, by dsimp only; omega, hS, rfl, rfl⟩ (fun rest m' news' h' hp F' N' => Fr.lst F' hl) ?_ ?_
  · intro y
    by_cases hy : y = Str.ofString "part"
    · subst hy; rfl
    · simp only [if_neg hy]
  · intro it oi v rest m' news' h tk hne hp F' N'
    obtain ⟨qs', st, e, t3', k', its', pv, hps', hrun, hb1, hb2, hS', rfl, rfl⟩ := hp
    clear F₂ N₂ hps N
    cases hps' with
    | @cons a q _ qs'' ha hqk hps' =>
    rw [List.length_cons] at hb1 hb2
    have hap : ∀ q ∈ [(it, oi)], ∀ q' ∈ pgLed w p d o t1 t2 t3' st.2 its' k', q.1 ≠ q'.1 := fun q hq q' hq' => by
      obtain rfl := List.mem_singleton.mp hq
      exact (hne q' hq').symm
    (repeat' (first | (with_reducible ((show wpAny _ _ (exec (PySem.Stmt.If _ _ _ _) _) _ _ _); (fail_if_success (refine hid_probe (by assumption) ?_)); refine hid_any (fun _ _ => ?_))) | (with_reducible (refine Hid.go (by assumption) _ _ ?_)) | ((with_reducible show wpAny _ _ (execs _ _) _ _ _); dsimp only) | (with_reducible (k_here; (with_reducible show wpAny _ _ (call (Value.ref 107) _) _ _ _); k_dflt (refine' SpecP.use (write_part_spec ?h1 ?h2 ?h3 ?h4 ?h5 ?h6 ?h7 ?h8 ?h9 ?h10 ?h11) ?b0 ?b1 ?b2 ?b3 ?b4 ?b5 ?b6 ?b7 ?bP ?b8 ?b9 ?b10 ?_ ?_; (case b0 => exact rfl); (case b1 => exact rfl); (case b2 => assumption); (case b3 => assumption); (case b4 => assumption); (case b5 => assumption); (case b6 => assumption); (case b7 => assumption); (case bP => exact fun k _ => PartAt.keeps k (by assumption)); (case b8 => simp only [Around.deeper]; omega); (case b9 => simp only [Around.deeper]; omega); (case b10 => rfl); (case h1 => assumption); (case h2 => assumption); (case h3 => assumption); (case h4 => assumption); (case h5 => omega); (case h6 => omega); (case h7 => assumption); (case h8 => omega); (case h9 => omega); (case h10 => omega); (case h11 => omega); rotate_left; (intro e9 c9 h9 tk9 led9 x9 n9 o9; refine Stop.intro ?_); rotate_left; (intro v9 h9 tk9 led9 F9 N9 o9; obtain ⟨z9, st9, hst9, t9, k9, its9, y9, S9⟩ := o9; subst z9 y9; (try k_sweep))))) | (with_reducible (k_here; (with_reducible show wpAny _ _ (call (Value.ref 65) _) _ _ _); k_dflt (refine' Spec.use (end_row_spec ?h1 ?h2 ?h3 ?h4) (rest := []) ?b0 ?b1 ?b2 ?b3 ?b4 ?b5 ?b6 ?b7 ?b8 ?b9 ?b10 ?_ ?bE; ((case b0 => exact rfl); (case b1 => exact rfl); (case b2 => assumption); (case b3 => assumption); (case b4 => assumption); (case b5 => assumption); (case b6 => assumption); (case b7 => exact fun _ h => nomatch h);(case b8 => simp only [Around.deeper]; omega); (case b9 => simp only [Around.deeper]; omega); (case b10 => rfl)); (case h1 => assumption); (case h2 => assumption); (case h3 => assumption); (case h4 => omega); (case bE => exact fun _ _ _ _ _ _ _ z => z.elim)); intro v9 h9 tk9 led9 F9 N9 o9; obtain ⟨z9, t9, k9, y9⟩ := o9; subst z9 y9; (try simp only [List.append_nil] at N9); (try k_sweep))) | (k_unfold; (try dsimp only)) | walk1 | (dsimp only; walk1)))
    · rename writePart _ _ _ _ = some _ => hst
      have hlen := writePart_len hst hqk hz0 hz1 hw0
      refine ⟨_, _, _, _, rfl, frCongr (by assumption) (fun y => ?_), by assumption, ⟨qs'', _, q.isText, _, _, _, some (.ref a), hps', ?_, ?_, ?_, by assumption, rfl, rfl⟩, pg_ne hne⟩
      · by_cases hy : y = Str.ofString "part"
        · subst hy; rfl
        · simp only [if_neg hy]
          by_cases hy : y = Str.ofString "is_ended"
          · subst hy; rfl
          · simp only [if_neg hy]
      · rw [hrun, runParts]; rw [show writePart st q zone width = _ from hst]
      · dsimp only at hlen; omega
      · dsimp only at hlen; omega
    · skip
      obtain ⟨rfl, o9, rfl⟩ := o9
      have hw : writeParts (rows, row) qs zone width = (st, true) := by
        unfold writeParts; rw [hrun, runParts, show writePart st q zone width = _ from o9]
      try unfold Stop
      exact x9.drop.note rfl rfl fun h' x1 u1 => x1.back rfl fun h'' x2 u2 => x2.leaveHeld rfl (not_above F') fun h3 x3 => hE _ _ _ _ _ x3 ⟨rfl, by rw [hw], by rw [hw]; exact ⟨_, _, _, rfl, hS'⟩⟩
  · have h9' := h
    intro m' news' h tk hp F' N'
    obtain ⟨qs', st, e, t3', k', its', pv, hps', hrun, hb1, hb2, hS', rfl, rfl⟩ := hp
    clear F₂ N₂ hps N
    cases hps'
    have hsz' := StrsAre.size hS'
    dsimp only
    cases e
    · have hw : writeParts (rows, row) qs zone width = (st, false) := by unfold writeParts; rw [hrun, runParts]
      (repeat' (first | (with_reducible ((show wpAny _ _ (exec (PySem.Stmt.If _ _ _ _) _) _ _ _); (fail_if_success (refine hid_probe (by assumption) ?_)); refine hid_any (fun _ _ => ?_))) | (with_reducible (refine Hid.go (by assumption) _ _ ?_)) | ((with_reducible show wpAny _ _ (execs _ _) _ _ _); dsimp only) | (with_reducible (k_here; (with_reducible show wpAny _ _ (call (Value.ref 107) _) _ _ _); k_dflt (refine' SpecP.use (write_part_spec ?h1 ?h2 ?h3 ?h4 ?h5 ?h6 ?h7 ?h8 ?h9 ?h10 ?h11) ?b0 ?b1 ?b2 ?b3 ?b4 ?b5 ?b6 ?b7 ?bP ?b8 ?b9 ?b10 ?_ ?_; (case b0 => exact rfl); (case b1 => exact rfl); (case b2 => assumption); (case b3 => assumption); (case b4 => assumption); (case b5 => assumption); (case b6 => assumption); (case b7 => assumption); (case bP => exact fun k _ => PartAt.keeps k (by assumption)); (case b8 => simp only [Around.deeper]; omega); (case b9 => simp only [Around.deeper]; omega); (case b10 => rfl); (case h1 => assumption); (case h2 => assumption); (case h3 => assumption); (case h4 => assumption); (case h5 => omega); (case h6 => omega); (case h7 => assumption); (case h8 => omega); (case h9 => omega); (case h10 => omega); (case h11 => omega); rotate_left; (intro e9 c9 h9 tk9 led9 x9 n9 o9; refine Stop.intro ?_); rotate_left; (intro v9 h9 tk9 led9 F9 N9 o9; obtain ⟨z9, st9, hst9, t9, k9, its9, y9, S9⟩ := o9; subst z9 y9; (try k_sweep))))) | (with_reducible (k_here; (with_reducible show wpAny _ _ (call (Value.ref 65) _) _ _ _); k_dflt (refine' Spec.use (end_row_spec ?h1 ?h2 ?h3 ?h4) (rest := []) ?b0 ?b1 ?b2 ?b3 ?b4 ?b5 ?b6 ?b7 ?b8 ?b9 ?b10 ?_ ?bE; ((case b0 => exact rfl); (case b1 => exact rfl); (case b2 => assumption); (case b3 => assumption); (case b4 => assumption); (case b5 => assumption); (case b6 => assumption); (case b7 => exact fun _ h => nomatch h);(case b8 => simp only [Around.deeper]; omega); (case b9 => simp only [Around.deeper]; omega); (case b10 => rfl)); (case h1 => assumption); (case h2 => assumption); (case h3 => assumption); (case h4 => omega); (case bE => exact fun _ _ _ _ _ _ _ z => z.elim)); intro v9 h9 tk9 led9 F9 N9 o9; obtain ⟨z9, t9, k9, y9⟩ := o9; subst z9 y9; (try simp only [List.append_nil] at N9); (try k_sweep))) | (k_unfold; (try dsimp only)) | walk1 | (dsimp only; walk1)))
      exact h9' _ _ _ _ (Sub.of F') (Led.of N') ⟨rfl, by rw [hw], by rw [hw]; exact ⟨_, _, _, rfl, hS'⟩⟩
    · have hw : writeParts (rows, row) qs zone width = (endRow st, false) := by unfold writeParts; rw [hrun, runParts]
      (repeat' (first | (with_reducible ((show wpAny _ _ (exec (PySem.Stmt.If _ _ _ _) _) _ _ _); (fail_if_success (refine hid_probe (by assumption) ?_)); refine hid_any (fun _ _ => ?_))) | (with_reducible (refine Hid.go (by assumption) _ _ ?_)) | ((with_reducible show wpAny _ _ (execs _ _) _ _ _); dsimp only) | (with_reducible (k_here; (with_reducible show wpAny _ _ (call (Value.ref 107) _) _ _ _); k_dflt (refine' SpecP.use (write_part_spec ?h1 ?h2 ?h3 ?h4 ?h5 ?h6 ?h7 ?h8 ?h9 ?h10 ?h11) ?b0 ?b1 ?b2 ?b3 ?b4 ?b5 ?b6 ?b7 ?bP ?b8 ?b9 ?b10 ?_ ?_; (case b0 => exact rfl); (case b1 => exact rfl); (case b2 => assumption); (case b3 => assumption); (case b4 => assumption); (case b5 => assumption); (case b6 => assumption); (case b7 => assumption); (case bP => exact fun k _ => PartAt.keeps k (by assumption)); (case b8 => simp only [Around.deeper]; omega); (case b9 => simp only [Around.deeper]; omega); (case b10 => rfl); (case h1 => assumption); (case h2 => assumption); (case h3 => assumption); (case h4 => assumption); (case h5 => omega); (case h6 => omega); (case h7 => assumption); (case h8 => omega); (case h9 => omega); (case h10 => omega); (case h11 => omega); rotate_left; (intro e9 c9 h9 tk9 led9 x9 n9 o9; refine Stop.intro ?_); rotate_left; (intro v9 h9 tk9 led9 F9 N9 o9; obtain ⟨z9, st9, hst9, t9, k9, its9, y9, S9⟩ := o9; subst z9 y9; (try k_sweep))))) | (with_reducible (k_here; (with_reducible show wpAny _ _ (call (Value.ref 65) _) _ _ _); k_dflt (refine' Spec.use (end_row_spec ?h1 ?h2 ?h3 ?h4) (rest := []) ?b0 ?b1 ?b2 ?b3 ?b4 ?b5 ?b6 ?b7 ?b8 ?b9 ?b10 ?_ ?bE; ((case b0 => exact rfl); (case b1 => exact rfl); (case b2 => assumption); (case b3 => assumption); (case b4 => assumption); (case b5 => assumption); (case b6 => assumption); (case b7 => exact fun _ h => nomatch h);(case b8 => simp only [Around.deeper]; omega); (case b9 => simp only [Around.deeper]; omega); (case b10 => rfl)); (case h1 => assumption); (case h2 => assumption); (case h3 => assumption); (case h4 => omega); (case bE => exact fun _ _ _ _ _ _ _ z => z.elim)); intro v9 h9 tk9 led9 F9 N9 o9; obtain ⟨z9, t9, k9, y9⟩ := o9; subst z9 y9; (try simp only [List.append_nil] at N9); (try k_sweep))) | (k_unfold; (try dsimp only)) | walk1 | (dsimp only; walk1)))
      exact h9' _ _ _ _ (Sub.of (by assumption)) (Led.of (by assumption)) ⟨rfl, by rw [hw], by rw [hw]; exact ⟨_, _, _, rfl, StrsAre.push1 hS' _ _⟩⟩
end Mine
namespace Mine

local macro_rules | `(tactic| walk_at "exec While") => `(tactic| refine Stop.intro ?_)
local macro_rules | `(tactic| walk_at "exec Raise some none") => `(tactic| refine Stop.intro ?_)
local macro_rules | `(tactic| walk_at "exec For") => `(tactic| refine Stop.intro ?_)
local macro_rules | `(tactic| walk_at "pyIter ref") => `(tactic| refine Stop.intro ?_)
-- the premises of Spec.use

theorem Led.drop2 {h₀ h : Heap} {x y : Addr × Obj} {l : List (Addr × Obj)} (L : Led h₀ h (x :: y :: l)) : Led h₀ h (x :: l) := fun q hq => by
  rcases List.mem_cons.mp hq with rfl | hq
  · exact L _ (.head _)
  · exact L _ (.tail _ (.tail _ hq))

theorem Led.pick {h₀ h : Heap} {x : Addr × Obj} {l : List (Addr × Obj)} (L : Led h₀ h l) (hx : x ∈ l) : Led h₀ h [x] := fun q hq => by
  obtain rfl := List.mem_singleton.mp hq
  exact L _ hx
theorem column_of_spec {w : World} {p d o : Addr} {t1 t2 t3 : Tok} {k : Nat} {its : Array Value} {row : Str} (hpd : @Ne Nat p d) (hpo : @Ne Nat p o) (hdo : @Ne Nat d o) (hrow : row.length ≤ 40000) :
    Spec w 800 121 [.ref p] (pgLed w p d o t1 t2 t3 row its k) (fun v l => l = pgLed w p d o t1 t2 t3 row its k ∧ ∃ t, v = .int ((row.length : Int) + 1) t) (fun _ _ => False) := by
  intro A outer A₀ base h₀ mean mg mb s R hh hA B X T S N hdp hun h hE
  obtain ⟨hd, dp, fr, gd, un⟩ := A
  dsimp only at hh hA hdp hun
  subst hh hA
  refine' enter_led (K := hd01.heap_39 w.params) (binds := [(Str.ofString "page", Value.ref p)]) X T S N ?k6 ?k7 ?k8 ?k9 ?kB ?_ ?c2 ?c3 ?c4 ?c5
  ((case k6 => k_is); (case k7 => k_is); (case k8 => (simp only [recursionLimit]; omega)); (case k9 => exact BindsTo.of_eq rfl); (case c5 => decide); (case kB => exact locs rfl); (case c2 => exact rfl); (case c3 => exact rfl); (case c4 => exact rfl); intro _ _ _ _; (try dsimp only))
  (repeat' (first | (with_reducible ((show wpAny _ _ (exec (PySem.Stmt.If _ _ _ _) _) _ _ _); (fail_if_success (refine hid_probe (by assumption) ?_)); refine hid_any (fun _ _ => ?_))) | (with_reducible (refine Hid.go (by assumption) _ _ ?_)) | ((with_reducible show wpAny _ _ (execs _ _) _ _ _); dsimp only) | (k_unfold; (try dsimp only)) | walk1 | (dsimp only; walk1)))
  exact h _ _ _ _ (Sub.of (by assumption)) (Led.of (by assumption)) ⟨rfl, _, rfl⟩

def allRows (s : PS) : List Str := if s.2 = Str.ofString "" then s.1 else s.1 ++ [s.2]
theorem all_rows_of_spec {w : World} {p d o : Addr} {t1 t2 t3 : Tok} {k : Nat} {its : Array Value} {row : Str} {rows : List Str} (hpd : @Ne Nat p d) (hpo : @Ne Nat p o) (hdo : @Ne Nat d o) (hS : StrsAre its.toList rows) (hits : rows.length ≤ 40000) (hrow : row.length ≤ 40000) :
    Spec w 800 128 [.ref p] (pgLed w p d o t1 t2 t3 row its k) (fun v l => ∃ r its' k', l = (r, W.listOf its' k') :: pgLed w p d o t1 t2 t3 row its k ∧ v = .ref r ∧ StrsAre its'.toList (allRows (rows, row))) (fun _ _ => False) := by
  intro A outer A₀ base h₀ mean mg mb s R hh hA B X T S N hdp hun h hE
  obtain ⟨hd, dp, fr, gd, un⟩ := A
  dsimp only at hh hA hdp hun
  subst hh hA
  have hsz := StrsAre.size hS
  refine' enter_led (K := hd01.heap_39 w.params) (binds := [(Str.ofString "page", Value.ref p)]) X T S N ?k6 ?k7 ?k8 ?k9 ?kB ?_ ?c2 ?c3 ?c4 ?c5
  ((case k6 => k_is); (case k7 => k_is); (case k8 => (simp only [recursionLimit]; omega)); (case k9 => exact BindsTo.of_eq rfl); (case c5 => decide); (case kB => exact locs rfl); (case c2 => exact rfl); (case c3 => exact rfl); (case c4 => exact rfl); intro _ _ _ _; (try dsimp only))
  (repeat' (first | (with_reducible ((show wpAny _ _ (exec (PySem.Stmt.If _ _ _ _) _) _ _ _); (fail_if_success (refine hid_probe (by assumption) ?_)); refine hid_any (fun _ _ => ?_))) | (with_reducible (refine Hid.go (by assumption) _ _ ?_)) | ((with_reducible show wpAny _ _ (execs _ _) _ _ _); dsimp only) | (k_unfold; (try dsimp only)) | walk1 | (dsimp only; walk1)))
  · rename (row != _) = true => hr
    have hr' : row ≠ Str.ofString "" := by simpa using hr
    refine h _ _ _ _ (Sub.of (by assumption)) (Led.drop2 (Led.of (by assumption))) ⟨_, _, _, rfl, rfl, ?_⟩
    rw [show allRows (rows, row) = rows ++ [row] from if_neg hr']
    exact StrsAre.append' (by assumption) (.cons _ _ .nil)
  · rename (row != _) = false => hr
    have hr' : row = Str.ofString "" := by simpa using hr
    refine h _ _ _ _ (Sub.of (by assumption)) (Led.drop2 (Led.of (by assumption))) ⟨_, _, _, rfl, rfl, ?_⟩
    rw [show allRows (rows, row) = rows from if_pos hr']
    simpa using (by assumption : StrsAre its.toList rows)

end Mine
namespace Mine
theorem strs_at {vs us : List Value} {rows : List Str} (h : StrsAre vs rows) : StrsAre us rows → ∀ j (h1 : j < vs.length) (h2 : j < us.length), ∃ x t u, vs[j] = Value.str x t ∧ us[j] = Value.str x u := by
  induction h generalizing us with
  | nil => intro _ j h1; exact absurd h1 (Nat.not_lt_zero _)
  | cons y t _ ih =>
    intro h' j h1 h2
    cases h' with
    | cons _ u r =>
      cases j with
      | zero => exact ⟨y, t, u, rfl, rfl⟩
      | succ j => exact ih r j (Nat.lt_of_succ_lt_succ h1) (Nat.lt_of_succ_lt_succ h2)
theorem all_true (n : Nat) : (List.range n).all (fun _ => true) = true := by simp
section
variable {prog : Program} {w : World} {A : Around} {E : Value → Shared → Prop} {s : Shared}
theorem strs_eqAt {vs us : Array Value} {rows : List Str} (h : StrsAre vs.toList rows) (h' : StrsAre us.toList rows) (j : Nat) (h1 : j < vs.size) (h2 : j < us.size) : SeqAt.EqAt A.in1 s vs[j] us[j] true := by
  obtain ⟨x, t, u, e1, e2⟩ := strs_at h h' j (by simpa using h1) (by simpa using h2)
  rw [Array.getElem_toList] at e1 e2
  rw [e1, e2]
  have := SeqAt.EqAt.str_str (A := A.in1) (s := s) x t x u
  rwa [beq_self_eq_true] at this
theorem eq_strs {a b : Addr} {vs us : Array Value} {rows : List Str} {Q : Value → Shared → Prop} (hl : s.heap.IsList a vs) (hi : StrsAre vs.toList rows) (hl' : s.heap.IsList b us) (hi' : StrsAre us.toList rows) (hu : A.units < cLine)
    (h : Q (.bool true) s) : wpAny (model prog w) A (compareOp .Eq (.ref a) (.ref b)) Q E s := by
  have hs : vs.size = us.size := by
    have z1 := hi.len_eq
    have z2 := hi'.len_eq
    simp only [Array.length_toList] at z1 z2
    omega
  refine SeqAt.RcAt.lists (e := fun _ => true) hl hl' hs hu (fun j h1 h2 => strs_eqAt hi hi' j h1 h2) prog w E Q ?_
  rw [all_true]; exact h
theorem ne_strs {a b : Addr} {vs us : Array Value} {rows : List Str} {Q : Value → Shared → Prop} (hl : s.heap.IsList a vs) (hi : StrsAre vs.toList rows) (hl' : s.heap.IsList b us) (hi' : StrsAre us.toList rows) (hu : A.units < cLine)
    (h : Q (.bool false) s) : wpAny (model prog w) A (compareOp .NotEq (.ref a) (.ref b)) Q E s := by
  have hs : vs.size = us.size := by
    have z1 := hi.len_eq
    have z2 := hi'.len_eq
    simp only [Array.length_toList] at z1 z2
    omega
  refine SeqAt.RcNeAt.lists (e := fun _ => true) hl hl' hs hu (fun j h1 h2 => strs_eqAt hi hi' j h1 h2) prog w E Q ?_
  rw [all_true]; exact h
end
end Mine
namespace Mine
def res (r : PS × Bool × Bool) : PS × Bool := if r.2.2 = true then (r.1, true) else if r.2.1 = true then (endRow r.1, false) else (r.1, false)
theorem writeParts_res (s : PS) (qs : List Part) (z w : Int) : writeParts s qs z w = res (runParts z w s true qs) := by
  unfold writeParts res
  rcases runParts z w s true qs with ⟨s', _ | _, _ | _⟩ <;> rfl
-- the place of a writing that was cut at i: nothing refused yet
def At (z w : Int) (s0 : PS) (qs : List Part) (i : Nat) (S : PS) : Prop := ∃ e, runParts z w s0 true (qs.take i) = (S, e, false)
end Mine
namespace Mine
section
variable {w : World} {A A₀ : Around} {s : Shared} {base h₀ : Heap} {outer : List Env} {news : List (Addr × Obj)}
theorem base_ofX {h : Heap} {L : Addr} {m : Str → Option Value} {env : Env} {rest : List (Addr × Obj)} (B : Below A₀ base outer h₀) (F : Fr h₀ L h m) (N : News h₀ L h (news ++ rest)) (hf : env.frame = some L) (hck : env.scope.kind = .function) :
    Below { A₀ with frames := some (env :: outer) } base (env :: outer) (hideAll h (news.map (·.1))) ∧ Sub (hideAll h (news.map (·.1))) h ∧ Led (hideAll h (news.map (·.1))) h news ∧ (∀ b o, h₀.get? b = some o → (hideAll h (news.map (·.1))).get? b = some o) := by
  have N₁ : ∀ q ∈ news, h.get? q.1 = some q.2 ∧ q.1 ≠ L ∧ h₀.get? q.1 = none := fun q hq => N q (List.mem_append_left _ hq)
  have nm : ∀ b o, h₀.get? b = some o → b ∉ news.map (·.1) := fun b o e q => by
    obtain ⟨p, hp, rfl⟩ := List.mem_map.mp q
    rw [(N₁ p hp).2.2] at e; cases e
  have st : ∀ b o, h₀.get? b = some o → (hideAll h (news.map (·.1))).get? b = some o := fun b o e => hideAll_get _ (F.keep b o e) (nm b o e)
  have nL : L ∉ news.map (·.1) := fun q => by
    obtain ⟨p, hp, e⟩ := List.mem_map.mp q
    exact (N₁ p hp).2.1 e
  have B₁ := pushX B F hf hck
  refine ⟨⟨rfl, fun b o e => st b o (B.stays b o e), funFrames_hideAll B₁.frames fun env' he b hb hf' => ?_⟩, ⟨fun b o e => of_hideAll _ e, Nat.le_of_eq (hideAll_size _ _)⟩, fun q hq => ⟨(N₁ q hq).1, hideAll_none _ (List.mem_map_of_mem hq)⟩, st⟩
  cases he with
  | head => exact nL ((Option.some.inj (hf.symm.trans hf') : L = b) ▸ hb)
  | tail _ he =>
    obtain ⟨L₁, o₁, hf₁, ho₁⟩ := funFrames_in B.frames env' he
    rw [hf₁] at hf'
    exact nm L₁ o₁ ho₁ ((Option.some.inj hf' : L₁ = b) ▸ hb)

theorem SpecP.useX {D : Nat} {f : Addr} {args : List Value} {led rest : List (Addr × Obj)} {Pre : Heap → Prop} {Ok : Value → List (Addr × Obj) → Prop} {Er : Str → List (Addr × Obj) → Prop} (C : SpecP w D f args led Pre Ok Er)
    {mean : ExcName → Option Value} {mg mb : Str → Option Value} {L : Addr} {m : Str → Option Value} {env : Env} {Q E : Value → Shared → Prop}
    (hh : A.handled = none) (hA : A.frames = some (env :: outer)) (hf : env.frame = some L) (hck : env.scope.kind = .function) (B : Below A₀ base outer h₀) (F : Fr h₀ L s.heap m) (X : (hd01.heap_39 w.params).In h₀) (T : TopW' mean mg mb h₀) (N : News h₀ L s.heap (led ++ rest)) (hap : ∀ q ∈ rest, ∀ q' ∈ led, q.1 ≠ q'.1)
    (hP : (∀ b o, h₀.get? b = some o → (hideAll s.heap (led.map (·.1))).get? b = some o) → (∀ q ∈ rest, (hideAll s.heap (led.map (·.1))).get? q.1 = some q.2) → Pre (hideAll s.heap (led.map (·.1)))) (hdp : A.depth ≤ D) (hun : A.units ≤ 9 * D)
    (k : ∀ v h' tk' led', Fr h₀ L h' m → News h₀ L h' (led' ++ rest) → (∀ q ∈ rest, ∀ q' ∈ led', q.1 ≠ q'.1) → Ok v led' → Q v { s with heap := h', toks := tk' })
    (kE : ∀ e c h' tk' led', Flight h₀ (env :: outer) (led' ++ rest) e c .none h' → h'.Ns L m → Er c led' → E (.ref e) { s with heap := h', toks := tk' }) :
    wpAny (model PROG w) A (call (.ref f) args) Q E s := by
  obtain ⟨B', S', L', st⟩ := base_ofX (env := env) B F N hf hck
  have hr : ∀ q ∈ rest, (hideAll s.heap (led.map (·.1))).get? q.1 = some q.2 := fun q hq => hideAll_get _ (N q (List.mem_append_right _ hq)).1 fun z => by
    obtain ⟨p, hp, e⟩ := List.mem_map.mp z
    exact hap q hq p hp e.symm
  refine wpAny_call (C A (env :: outer) _ base _ mean mg mb s _ hh hA B' (fun a o e => st _ _ (X a o e)) (T.keeps st) S' L' (hP st hr) hdp hun (fun v h' tk' led' S D o => ?_) fun e c h' tk' led' x o => ?_)
  · obtain ⟨F', N'⟩ := back_of F N hap S D
    exact k v h' tk' led' F' N' (fun q hq q' hq' z => by
      have h1 := (D q' hq').2
      rw [← z, hr q hq] at h1; cases h1) o
  · obtain ⟨G, dx, od, t, k1, k2, k3, k4, k5, k6, k7⟩ := x
    have hns : ∀ q ∈ led ++ rest, q.1 ∉ (env :: outer).filterMap (·.frame) := fun q hq hm => by
      rw [List.filterMap_cons, hf] at hm
      rcases List.mem_cons.mp hm with z | z
      · exact (N q hq).2.1 z
      · obtain ⟨o, ho⟩ := frames_in B.frames z
        rw [(N q hq).2.2] at ho; cases ho
    refine kE e c h' tk' led' ⟨G, dx, od, t, fun b o hb hn => k1 b o (st b o hb) hn, fun q hq => ?_, k3, k4, k5, ?_, (Heap.UpToSlots.of_keeps st).trans k7⟩ ?_ o
    · rcases List.mem_append.mp hq with hq | hq
      · refine ⟨(k2 q hq).1, ?_⟩
        cases z : h₀.get? q.1 with
        | none => rfl
        | some o => have := (k2 q hq).2; rw [st _ _ z] at this; cases this
      · have P := N q (List.mem_append_right _ hq)
        exact ⟨k1 _ _ (hr q hq) (hns q (List.mem_append_right _ hq)), P.2.2⟩
    · cases z : h₀.get? e with
      | none => rfl
      | some o => rw [st _ _ z] at k6; cases k6
    · have nL : L ∉ led.map (·.1) := fun q => by
        obtain ⟨p, hp, e⟩ := List.mem_map.mp q
        exact (N p (List.mem_append_left _ hp)).2.1 e
      obtain ⟨oL, es, ep, hL, r⟩ := F.ns
      exact k7.ns ⟨oL, es, ep, hideAll_get _ hL nL, r⟩

theorem Spec.toP {D : Nat} {f : Addr} {args : List Value} {led : List (Addr × Obj)} {Ok : Value → List (Addr × Obj) → Prop} {Er : Str → List (Addr × Obj) → Prop} (C : Spec w D f args led Ok Er) : SpecP w D f args led (fun _ => True) Ok Er :=
  fun A outer A₀ base h₀ mean mg mb s R a b c d e f g _ i j k l => C A outer A₀ base h₀ mean mg mb s R a b c d e f g i j k l

theorem Spec.useX {D : Nat} {f : Addr} {args : List Value} {led rest : List (Addr × Obj)} {Ok : Value → List (Addr × Obj) → Prop} (C : Spec w D f args led Ok fun _ _ => False)
    {mean : ExcName → Option Value} {mg mb : Str → Option Value} {L : Addr} {m : Str → Option Value} {env : Env} {Q E : Value → Shared → Prop}
    (hh : A.handled = none) (hA : A.frames = some (env :: outer)) (hf : env.frame = some L) (hck : env.scope.kind = .function) (B : Below A₀ base outer h₀) (F : Fr h₀ L s.heap m) (X : (hd01.heap_39 w.params).In h₀) (T : TopW' mean mg mb h₀) (N : News h₀ L s.heap (led ++ rest)) (hap : ∀ q ∈ rest, ∀ q' ∈ led, q.1 ≠ q'.1)
    (hdp : A.depth ≤ D) (hun : A.units ≤ 9 * D)
    (k : ∀ v h' tk' led', Fr h₀ L h' m → News h₀ L h' (led' ++ rest) → (∀ q ∈ rest, ∀ q' ∈ led', q.1 ≠ q'.1) → Ok v led' → Q v { s with heap := h', toks := tk' }) :
    wpAny (model PROG w) A (call (.ref f) args) Q E s :=
  SpecP.useX C.toP hh hA hf hck B F X T N hap (fun _ _ => trivial) hdp hun k fun _ _ _ _ _ _ _ z => z.elim
end

section
variable {w : World} {A A₀ : Around} {s : Shared} {base h₀ : Heap} {outer : List Env} {K : Frag} {p : Program} {loose : List Str} {mean : ExcName → Option Value} {mg mb : Str → Option Value} {news : List (Addr × Obj)}
  {prog : Program} {R : Result → Shared → Prop} {name qual : Str} {params : Arguments} {body : List Stmt} {scope : Scope} {dV kV doc pm cdv ct oc : Value} {an od : Option Addr} {osl : Array (Option Value)} {f : Addr} {args : Args} {binds : List (Str × Value)}
theorem enter_cells (X : K.In h₀) (T : Top p loose mean mg mb h₀) (S : Sub h₀ s.heap) (N : Led h₀ s.heap news)
    (ho : K.lookup f = some ⟨oc, od, .func (fnOf name qual params body scope dV kV doc pm an cdv ct), osl⟩) (hcd : codeIn K cdv qual = true) (hroom : A.depth < recursionLimit)
    (hbind : BindsTo s (fnOf name qual params body scope dV kV doc pm an cdv ct) args binds) (hkind : (binds.all fun y => scope.names.lookup y.1 == some .local || scope.names.lookup y.1 == some .cell) = true)
    (hnd : ((cellsFrom 0 scope.names []).map (·.1)).Nodup)
    (h : ∀ L' h₁ tk cells, Fr h₀ L' h₁ (bindL (envOfC qual scope L' f cdv).kindOf binds fun _ => none) → News h₀ L' h₁ (cells ++ news) → (∀ q ∈ news, @LT.lt Nat _ q.1 L') →
      CellsAre (bindC (envOfC qual scope L' f cdv).kindOf binds fun _ => none) (cellsFrom (L' + 1) scope.names []) cells →
      wpAny (model prog w) (A.deeper (envOfC qual scope L' f cdv)) (execs body (envOfC qual scope L' f cdv))
        (fun fl s' => R (.ok (.ret (match fl with | .ret v => v | _ => .none))) s')
        (fun e s' => wpAny (model prog w) (A.deeper (envOfC qual scope L' f cdv)) (leaving (envOfC qual scope L' f cdv) e) (fun _ s'' => R (.error e) s'') (fun e' s'' => R (.error e') s'') s')
        { s with heap := h₁, toks := tk })
    (hco : scope.isCoroutine = false) (hgen : scope.isGenerator = false) (hk : scope.kind = .function) : codeAny (model prog w) A (.call (.ref f) args) R s := by
  refine codeAny_call_function hroom (S.keep _ _ (X _ _ ho)) rfl hco hgen rfl (codeRec_of (X.keeps S.keep) hcd) (hbind _ _ _ _ ?_)
  refine wpAny_newFunctionEnv_cells hk (kindsX hkind _) fun env' he s' x => ?_
  subst he
  refine ⟨(T.nolimit.keeps S.keep).keeps x.toInCall.keep, codeAny_func ?_⟩
  obtain ⟨h₁, tk, rfl, _⟩ := x.done
  have hk₁ := x.toInCall.keep
  obtain ⟨cells, NC, Y⟩ := Cl.news (h₀ := s.heap) (Nat.le_refl _) fun n c hm => ⟨x.cell n c (lookup_of_mem_nodup (cellsFrom_names scope.names 0 (s.heap.objs.size + 1) [] [] rfl ▸ hnd) hm), x.above n c hm⟩
  refine wpAny_mono (h s.heap.objs.size h₁ tk cells ⟨x.toInCall.ns, fun b o e => hk₁ b o (S.keep _ _ e), S.size⟩ (fun q hq => ?_) (fun q hq => Heap.lt_size (N q hq).1) Y) (fun fl s' hl => hl) fun _ _ y => y
  rcases List.mem_append.mp hq with hq | hq
  · refine ⟨(NC q hq).1, (NC q hq).2.1, ?_⟩
    cases z : h₀.get? q.1 with
    | none => rfl
    | some o => have := S.keep _ _ z; rw [(NC q hq).2.2] at this; cases this
  · exact ⟨hk₁ _ _ (N q hq).1, Nat.ne_of_lt (Heap.lt_size (N q hq).1), (N q hq).2⟩
end

section
variable {prog : Program} {w : World} {A : Around} {E : Value → Shared → Prop} {s : Shared}
def signs (x : Str) : List Str := x.cps.toList.map fun c => (⟨#[c]⟩ : Str)
inductive LS (s : Shared) (h₀ : Heap) (L it : Addr) (T : String) (x : Str) (t : Tok) (P : List Str → (Str → Option Value) → List (Addr × Obj) → Prop) (n : Nat) (s' : Shared) : Prop where
  | mk (i : Nat) (m' : Str → Option Value) (news' : List (Addr × Obj)) (h : Heap) (tk : Nat) (oi : Obj) (e : s' = { s with heap := h, toks := tk }) (hi : i ≤ x.cps.size) (hn : n = x.cps.size - i) (hne : ∀ q ∈ news', q.1 ≠ it) (hP : P ((signs x).drop i) m' news') (F : Fr h₀ L h m') (N : News h₀ L h (news' ++ [(it, oi)])) (hI : h.IsStrIter it T x t i)
theorem loop_str {R : Result → Shared → Prop} {target : Expr} {body : List Stmt} {env : Env} {x : Str} {t : Tok} {h₀ : Heap} {m : Str → Option Value} {news : List (Addr × Obj)}
    (P : List Str → (Str → Option Value) → List (Addr × Obj) → Prop) (hh : A.handled = none) (F : Fr h₀ env.locals s.heap m) (N : News h₀ env.locals s.heap news) (h0 : P (signs x) m news)
    (step : ∀ it oi c u rest m' news' h tk, (∀ q ∈ news', q.1 ≠ it) → P (c :: rest) m' news' → Fr h₀ env.locals h m' → News h₀ env.locals h (news' ++ [(it, oi)]) →
      wpAny (model prog w) A (assign target env (.str c u)) (fun _ s₂ => wpAny (model prog w) A (execs body env) (fun f s₃ => match f with
          | .next | .cont => LNext s h₀ env.locals it oi (P rest) s₃
          | .brk => R (.ok .next) s₃
          | .ret v => R (.ok (.ret v)) s₃) (notedBy (model prog w) A env fun e s' => R (.error e) s') s₂) (notedBy (model prog w) A env fun e s' => R (.error e) s') { s with heap := h, toks := tk })
    (fin : ∀ m' news' h tk, P [] m' news' → Fr h₀ env.locals h m' → News h₀ env.locals h news' → R (.ok .next) { s with heap := h, toks := tk })
    (ht : ∀ it v, letOwnedTupleGo target (.ref it) v = pure () := by intro _ _; rfl) :
    wpAny (model prog w) A (pyIter (.str x t)) (fun it s₂ => codeAny (model prog w) A (.forLoop target it body [] env) R s₂) E s := by
  have hfr := next_is_new F
  have hLt := F.ns.lt
  have go : ∀ (T : String) (o : Obj), o.isFreed = false → Walks prog w A s.heap.objs.size [s.heap.objs.size] [s.heap.objs.size] x.cps.size (SignAt x) (fun i h => h.IsStrIter s.heap.objs.size T x t i) →
      (s.heap.push o).IsStrIter s.heap.objs.size T x t 0 → codeAny (model prog w) A (.forLoop target (.ref s.heap.objs.size) body [] env) R { s with heap := s.heap.push o } := by
    intro T o hfree Wk hst
    have F1 := F.push o
    have NP := News.push F N o (hfree := hfree)
    have N1 : News h₀ env.locals (s.heap.push o) (news ++ [(s.heap.objs.size, o)]) := fun q hq => by
      rcases List.mem_append.mp hq with hq | hq
      · exact NP q (List.mem_cons_of_mem _ hq)
      · obtain rfl := List.mem_singleton.mp hq
        exact NP _ List.mem_cons_self
    have hne1 : ∀ q ∈ news, q.1 ≠ s.heap.objs.size := fun q hq => Nat.ne_of_lt (Heap.lt_size (N q hq).1)
    have hLne : s.heap.objs.size ≠ env.locals := Nat.ne_of_gt hLt
    clear NP
    generalize hit : s.heap.objs.size = it at *
    refine codeAny_forLoop (LS s h₀ env.locals it T x t P) (fun n s' hI => ?_) x.cps.size ⟨0, m, news, _, s.toks, _, rfl, Nat.zero_le _, rfl, hne1, h0, F1, N1, hst⟩ (ht it)
    obtain ⟨i, m', news', h, tk, oi, rfl, hi, rfl, hne, hP, F', N', hI⟩ := hI
    have N'' : News h₀ env.locals h news' := fun q hq => N' q (List.mem_append_left _ hq)
    have hlen : (signs x).length = x.cps.size := by unfold signs; rw [List.length_map, Array.length_toList]
    by_cases hlt : i < x.cps.size
    · refine Wk.item i _ _ _ hlt hI fun v h' tk' hv hI' e => ?_
      obtain ⟨c, u, hc, rfl⟩ := hv
      have F2 := fr_of_but F' hfr hLne fun b o hb q => e b o (by simpa using hb) q
      obtain ⟨oi', ho', hc', hd'⟩ := id hI'
      have N2 : News h₀ env.locals h' (news' ++ [(it, oi')]) := fun q hq => by
        rcases List.mem_append.mp hq with hq | hq
        · exact ⟨e _ _ (by simpa using hne q hq) (N'' q hq).1, (N'' q hq).2⟩
        · obtain rfl := List.mem_singleton.mp hq
          exact ⟨ho', hLne, hfr⟩
      have hd : (signs x).drop i = (⟨#[c]⟩ : Str) :: (signs x).drop (i + 1) := by
        rw [List.drop_eq_getElem_cons (by rw [hlen]; exact hlt)]
        congr 1
        have : (signs x)[i]? = some (⟨#[c]⟩ : Str) := by
          unfold signs
          rw [List.getElem?_map, Array.getElem?_toList, hc]; rfl
        exact Option.some.inj ((List.getElem?_eq_getElem (by rw [hlen]; exact hlt)).symm.trans this)
      rw [hd] at hP
      refine wpAny_mono (step it oi' _ u _ m' news' h' tk' hne hP F2 N2) (fun _ s₂ hs₂ => wpAny_mono hs₂ (fun f s₃ hf => ?_) fun _ _ x => x) fun _ _ x => x
      have fin' : LNext s h₀ env.locals it oi' (P ((signs x).drop (i + 1))) s₃ → ∃ m, m < x.cps.size - i ∧ LS s h₀ env.locals it T x t P m s₃ := by
        rintro ⟨m₃, news₃, h₃, tk₃, rfl, F₃, N₃, hP₃, hne₃⟩
        exact ⟨x.cps.size - (i + 1), by omega, i + 1, m₃, news₃, h₃, tk₃, oi', rfl, hlt, rfl, hne₃, hP₃, F₃, N₃, ⟨oi', (N₃ (it, oi') (by simp)).1, hc', hd'⟩⟩
      cases f with
      | next => exact fin' hf
      | cont => exact fin' hf
      | brk => exact hf
      | ret v => exact hf
    · obtain rfl : i = x.cps.size := by omega
      rw [List.drop_of_length_le (by rw [hlen]; exact Nat.le_refl _)] at hP
      refine Wk.done _ _ _ hI fun h' tk' e => ?_
      exact wpAny_execs_nil (fin m' news' h' tk' hP (fr_of_but F' hfr hLne fun b o hb q => e b o (by simpa using hb) q) fun q hq => ⟨e _ _ (by simpa using hne q hq) (N'' q hq).1, (N'' q hq).2⟩)
  cases ha : x.cps.all (· < 128)
  · exact wpAny_pyIter_wide ha (go _ _ rfl (Walks.strWide hh _ x t) ⟨_, Heap.get?_push_size _ rfl, rfl, rfl⟩)
  · exact wpAny_pyIter_ascii ha (go _ _ rfl (Walks.strAscii hh _ x t) ⟨_, Heap.get?_push_size _ rfl, rfl, rfl⟩)
end
end Mine
namespace Mine

local macro_rules | `(tactic| walk_at "Exists") => `(tactic| refine Stop.intro ?_)
local macro_rules | `(tactic| walk_at "exec While") => `(tactic| refine Stop.intro ?_)
local macro_rules | `(tactic| walk_at "exec For") => `(tactic| refine Stop.intro ?_)
local macro_rules | `(tactic| walk_at "pyIter ref") => `(tactic| refine Stop.intro ?_)
local macro_rules | `(tactic| walk_at "pyIter str") => `(tactic| refine Stop.intro ?_)

abbrev mnLed (q r : Addr) (row : Str) (t : Tok) (its : Array Value) (kq kr : Nat) : List (Addr × Obj) := [(q, W.listOf #[.ref r, .str row t] kq), (r, W.listOf its kr)]

theorem new_row_spec {w : World} {q r : Addr} {t : Tok} {kq kr : Nat} {its : Array Value} {row : Str} (hqr : @Ne Nat q r) (hits : its.size ≤ 100000) :
    Spec w 790 149 [.ref q] (mnLed q r row t its kq kr) (fun v l => v = .none ∧ ∃ t' kq' kr', l = mnLed q r (Str.ofString "") t' (its.push (.str row t)) kq' kr') (fun _ _ => False) := by
  intro A outer A₀ base h₀ mean mg mb s R hh hA B X T S N hdp hun h hE
  obtain ⟨hd, dp, fr, gd, un⟩ := A
  dsimp only at hh hA hdp hun
  subst hh hA
  refine' enter_led (K := hd01.heap_39 w.params) (binds := [(Str.ofString "page", Value.ref q)]) X T S N ?k6 ?k7 ?k8 ?k9 ?kB ?_ ?c2 ?c3 ?c4 ?c5
  ((case k6 => k_is); (case k7 => k_is); (case k8 => (simp only [recursionLimit]; omega)); (case k9 => exact BindsTo.of_eq rfl); (case c5 => decide); (case kB => exact locs rfl); (case c2 => exact rfl); (case c3 => exact rfl); (case c4 => exact rfl); intro _ _ _ _; (try dsimp only))
  (repeat' (first | (with_reducible ((show wpAny _ _ (exec (PySem.Stmt.If _ _ _ _) _) _ _ _); (fail_if_success (refine hid_probe (by assumption) ?_)); refine hid_any (fun _ _ => ?_))) | (with_reducible (refine Hid.go (by assumption) _ _ ?_)) | ((with_reducible show wpAny _ _ (execs _ _) _ _ _); dsimp only) | (with_reducible (k_here; (with_reducible show wpAny _ _ (call (Value.ref 149) _) _ _ _); k_dflt (refine' Spec.useX (new_row_spec ?h1 ?h2) (rest := []) ?b0 ?b1 ?b2 ?b3 ?b4 ?b5 ?b6 ?b7 ?b8 ?b9 ?b10 ?b11 ?_; (case b0 => exact rfl); (case b1 => exact rfl); (case b2 => exact rfl); (case b3 => exact rfl); (case b4 => assumption); (case b5 => assumption); (case b6 => assumption); (case b7 => assumption); (case b8 => assumption); (case b9 => exact fun _ h => nomatch h); (case b10 => simp only [Around.deeper]; omega); (case b11 => simp only [Around.deeper]; omega); (case h1 => assumption); (case h2 => omega)); intro v9 h9 tk9 led9 F9 N9 hap9 o9; obtain ⟨z9, t9, kq9, kr9, y9⟩ := o9; subst z9 y9; clear hap9; (try simp only [List.append_nil] at N9); (try k_sweep))) | (k_unfold; (try dsimp only)) | walk1 | (dsimp only; walk1)))
  exact h _ _ _ _ (Sub.of (by assumption)) (Led.of (by assumption)) ⟨rfl, _, _, _, rfl⟩

inductive MnOut (q r : Addr) (st : PS) (l : List (Addr × Obj)) : Prop where
  | mk (t : Tok) (its : Array Value) (kq kr : Nat) (e : l = mnLed q r st.2 t its kq kr) (hS : StrsAre its.toList st.1)
def lawSign (width : Int) (s : PS) (c : Str) : PS := ((if 0 < width ∧ (s.2.length : Int) = width then endRow s else s).1, (if 0 < width ∧ (s.2.length : Int) = width then endRow s else s).2 ++ c)
def lawOpen (s : PS) (x : Str) (width : Int) : PS := if 0 < width ∧ s.2 ≠ Str.ofString "" ∧ width < (s.2.length : Int) + (x.length : Int) then endRow s else s
def lawTexted (s : PS) (x : Str) (width : Int) : PS := (signs x).foldl (lawSign width) (lawOpen s x width)

theorem sign_spec {w : World} {q r : Addr} {t tc tw : Tok} {kq kr : Nat} {its : Array Value} {row c : Str} {rows : List Str} {width : Int} (hqr : @Ne Nat q r) (hS : StrsAre its.toList rows) (hits : rows.length ≤ 60000) (hrow : row.length ≤ 60000) (hc : c.length ≤ 1) (hw0 : 0 ≤ width) (hw1 : width ≤ 100) :
    Spec w 790 142 [.ref q, .str c tc, .int width tw] (mnLed q r row t its kq kr) (fun v l => v = .none ∧ MnOut q r (lawSign width (rows, row) c) l) (fun _ _ => False) := by
  intro A outer A₀ base h₀ mean mg mb s R hh hA B X T S N hdp hun h hE
  obtain ⟨hd, dp, fr, gd, un⟩ := A
  dsimp only at hh hA hdp hun
  subst hh hA
  have hsz := StrsAre.size hS
  refine' enter_led (K := hd01.heap_39 w.params) (binds := [(Str.ofString "page", Value.ref q), (Str.ofString "sign", .str c tc), (Str.ofString "width", .int width tw)]) X T S N ?k6 ?k7 ?k8 ?k9 ?kB ?_ ?c2 ?c3 ?c4 ?c5
  ((case k6 => k_is); (case k7 => k_is); (case k8 => (simp only [recursionLimit]; omega)); (case k9 => exact BindsTo.of_eq rfl); (case c5 => decide); (case kB => exact locs rfl); (case c2 => exact rfl); (case c3 => exact rfl); (case c4 => exact rfl); intro _ _ _ _; (try dsimp only))
  (repeat' (first | (with_reducible ((show wpAny _ _ (exec (PySem.Stmt.If _ _ _ _) _) _ _ _); (fail_if_success (refine hid_probe (by assumption) ?_)); refine hid_any (fun _ _ => ?_))) | (with_reducible (refine Hid.go (by assumption) _ _ ?_)) | ((with_reducible show wpAny _ _ (execs _ _) _ _ _); dsimp only) | (with_reducible (k_here; (with_reducible show wpAny _ _ (call (Value.ref 149) _) _ _ _); k_dflt (refine' Spec.useX (new_row_spec ?h1 ?h2) (rest := []) ?b0 ?b1 ?b2 ?b3 ?b4 ?b5 ?b6 ?b7 ?b8 ?b9 ?b10 ?b11 ?_; (case b0 => exact rfl); (case b1 => exact rfl); (case b2 => exact rfl); (case b3 => exact rfl); (case b4 => assumption); (case b5 => assumption); (case b6 => assumption); (case b7 => assumption); (case b8 => assumption); (case b9 => exact fun _ h => nomatch h); (case b10 => simp only [Around.deeper]; omega); (case b11 => simp only [Around.deeper]; omega); (case h1 => assumption); (case h2 => omega)); intro v9 h9 tk9 led9 F9 N9 hap9 o9; obtain ⟨z9, t9, kq9, kr9, y9⟩ := o9; subst z9 y9; clear hap9; (try simp only [List.append_nil] at N9); (try k_sweep))) | (k_unfold; (try dsimp only)) | walk1 | (dsimp only; walk1)))
  all_goals (first
    | (have e : lawSign width (rows, row) c = ((endRow (rows, row)).1, (endRow (rows, row)).2 ++ c) := by
        unfold lawSign; rw [if_pos (show 0 < width ∧ ((row.length : Nat) : Int) = width from ⟨by omega, by omega⟩)]
       refine h _ _ _ _ (Sub.of (by assumption)) (Led.of (by assumption)) ⟨rfl, ?_⟩
       rw [e]; exact ⟨_, _, _, _, rfl, StrsAre.push1 hS _ _⟩)
    | (have e : lawSign width (rows, row) c = (rows, row ++ c) := by
        unfold lawSign; rw [if_neg (show ¬ (0 < width ∧ ((row.length : Nat) : Int) = width) from by omega)]
       refine h _ _ _ _ (Sub.of (by assumption)) (Led.of (by assumption)) ⟨rfl, ?_⟩
       rw [e]; exact ⟨_, _, _, _, rfl, hS⟩))

theorem lawSign_len (width : Int) (s : PS) (c : Str) : (lawSign width s c).1.length ≤ s.1.length + 1 ∧ (lawSign width s c).2.length ≤ s.2.length + c.length := by
  have a (y z : Str) : (y ++ z).length = y.length + z.length := by
    show (y.cps ++ z.cps).size = _
    rw [Array.size_append]; rfl
  have e0 : (Str.ofString "").length = 0 := by decide +kernel
  unfold lawSign endRow
  split
  · simp only [List.length_append, List.length_singleton, a, e0]; omega
  · simp only [a]; omega
theorem signs_len (x : Str) : (signs x).length = x.length := by unfold signs; rw [List.length_map, Array.length_toList]; rfl
theorem signs_one (x : Str) : ∀ c ∈ signs x, Str.length c = 1 := by
  intro c hc
  obtain ⟨n, _, rfl⟩ := List.mem_map.mp hc
  rfl

inductive PT (q r : Addr) (vars : Str → Option Value) (width : Int) (st0 : PS) (x : Str) (rest : List Str) (m' : Str → Option Value) (news' : List (Addr × Obj)) : Prop where
  | mk (st : PS) (t : Tok) (its : Array Value) (kq kr : Nat) (cv : Option Value) (hone : ∀ c ∈ rest, Str.length c = 1) (hrun : (signs x).foldl (lawSign width) st0 = rest.foldl (lawSign width) st)
    (hb1 : st.1.length + rest.length ≤ st0.1.length + x.length) (hb2 : st.2.length + rest.length ≤ st0.2.length + x.length) (hS : StrsAre its.toList st.1) (en : news' = mnLed q r st.2 t its kq kr) (em : m' = fun y => if y = Str.ofString "sign" then cv else vars y)


inductive MnSt (h₀ : Heap) (L : Addr) (m : Str → Option Value) (q r : Addr) (st : PS) (s s' : Shared) : Prop where
  | mk (h : Heap) (tk : Nat) (t : Tok) (its : Array Value) (kq kr : Nat) (e : s' = { s with heap := h, toks := tk }) (F : Fr h₀ L h m) (N : News h₀ L h (mnLed q r st.2 t its kq kr)) (hS : StrsAre its.toList st.1)
theorem app_len (y z : Str) : (y ++ z).length = y.length + z.length := by
  show (y.cps ++ z.cps).size = _
  rw [Array.size_append]; rfl
theorem lawOpen_len (s : PS) (x : Str) (width : Int) : (lawOpen s x width).1.length ≤ s.1.length + 1 ∧ (lawOpen s x width).2.length ≤ s.2.length := by
  have e0 : (Str.ofString "").length = 0 := by decide +kernel
  unfold lawOpen endRow
  split
  · simp only [List.length_append, List.length_singleton, e0]; omega
  · omega
theorem empty_len {x : Str} (h : x.length = 0) : x = Str.ofString "" := by
  obtain ⟨c⟩ := x
  have : c = #[] := by simpa [Str.length] using h
  subst this; rfl
theorem texted_spec {w : World} {q r : Addr} {t tt tw : Tok} {kq kr : Nat} {its : Array Value} {row text : Str} {rows : List Str} {width : Int} (hqr : @Ne Nat q r) (hS : StrsAre its.toList rows) (hits : rows.length ≤ 50000) (hrow : row.length ≤ 50000) (hx : text.length ≤ 400) (hw0 : 0 ≤ width) (hw1 : width ≤ 100) :
    Spec w 780 156 [.ref q, .str text tt, .int width tw] (mnLed q r row t its kq kr) (fun v l => v = .none ∧ MnOut q r (lawTexted (rows, row) text width) l) (fun _ _ => False) := by
  intro A outer A₀ base h₀ mean mg mb s R hh hA B X T S N hdp hun h hE
  obtain ⟨hd, dp, fr, gd, un⟩ := A
  dsimp only at hh hA hdp hun
  subst hh hA
  have hsz := StrsAre.size hS
  refine' enter_led (K := hd01.heap_39 w.params) (binds := [(Str.ofString "page", Value.ref q), (Str.ofString "text", .str text tt), (Str.ofString "width", .int width tw)]) X T S N ?k6 ?k7 ?k8 ?k9 ?kB ?_ ?c2 ?c3 ?c4 ?c5
  ((case k6 => k_is); (case k7 => k_is); (case k8 => (simp only [recursionLimit]; omega)); (case k9 => exact BindsTo.of_eq rfl); (case c5 => decide); (case kB => exact locs rfl); (case c2 => exact rfl); (case c3 => exact rfl); (case c4 => exact rfl); intro _ _ _ _; (try dsimp only))
  rename_i Lf h₁ F₁ N₁
  refine execs_mid (MnSt h₀ Lf (fun y => List.lookup y [(Str.ofString "page", Value.ref q), (Str.ofString "text", .str text tt), (Str.ofString "width", .int width tw)].reverse) q r (lawOpen (rows, row) text width) s) ?_ fun s' hm => ?_
  · have hal := app_len row text
    (repeat' (first | (with_reducible ((show wpAny _ _ (exec (PySem.Stmt.If _ _ _ _) _) _ _ _); (fail_if_success (refine hid_probe (by assumption) ?_)); refine hid_any (fun _ _ => ?_))) | (with_reducible (refine Hid.go (by assumption) _ _ ?_)) | ((with_reducible show wpAny _ _ (execs _ _) _ _ _); dsimp only) | (with_reducible (k_here; (with_reducible show wpAny _ _ (call (Value.ref 149) _) _ _ _); k_dflt (refine' Spec.useX (new_row_spec ?h1 ?h2) (rest := []) ?b0 ?b1 ?b2 ?b3 ?b4 ?b5 ?b6 ?b7 ?b8 ?b9 ?b10 ?b11 ?_; (case b0 => exact rfl); (case b1 => exact rfl); (case b2 => exact rfl); (case b3 => exact rfl); (case b4 => assumption); (case b5 => assumption); (case b6 => assumption); (case b7 => assumption); (case b8 => assumption); (case b9 => exact fun _ h => nomatch h); (case b10 => simp only [Around.deeper]; omega); (case b11 => simp only [Around.deeper]; omega); (case h1 => assumption); (case h2 => omega)); intro v9 h9 tk9 led9 F9 N9 hap9 o9; obtain ⟨z9, t9, kq9, kr9, y9⟩ := o9; subst z9 y9; clear hap9; (try simp only [List.append_nil] at N9); (try k_sweep))) | (k_unfold; (try dsimp only)) | walk1 | (dsimp only; walk1)))
    all_goals (first
      | (rename (row != Str.ofString "") = true => hne
         have hne' : row ≠ Str.ofString "" := by simpa using hne
         first
         | (rw [show lawOpen (rows, row) text width = endRow (rows, row) from if_pos ⟨by omega, hne', by dsimp only; omega⟩]; exact ⟨_, _, _, _, _, _, rfl, by assumption, by assumption, StrsAre.push1 hS _ _⟩)
         | (rw [show lawOpen (rows, row) text width = (rows, row) from if_neg (by dsimp only; omega)]; exact ⟨_, _, _, _, _, _, rfl, by assumption, by assumption, hS⟩))
      | (rename (row != Str.ofString "") = false => hne
         have hne' : row = Str.ofString "" := by simpa using hne
         rw [show lawOpen (rows, row) text width = (rows, row) from if_neg (fun z => z.2.1 hne')]; exact ⟨_, _, _, _, _, _, rfl, by assumption, by assumption, hS⟩)
      | (rw [show lawOpen (rows, row) text width = (rows, row) from if_neg (by dsimp only; omega)]; exact ⟨_, _, _, _, _, _, rfl, by assumption, by assumption, hS⟩))
  clear N S F₁ N₁
  have hol := lawOpen_len (rows, row) text width
  dsimp only at hol
  obtain ⟨h₂, tk₂, t₂, its₂, kq₂, kr₂, rfl, F₂, N₂, hS₂⟩ := hm
  have hsl := signs_len text
  generalize hst0 : lawOpen (rows, row) text width = st0 at N₂ hS₂ hol
  (repeat' (first | (with_reducible ((show wpAny _ _ (exec (PySem.Stmt.If _ _ _ _) _) _ _ _); (fail_if_success (refine hid_probe (by assumption) ?_)); refine hid_any (fun _ _ => ?_))) | (with_reducible (refine Hid.go (by assumption) _ _ ?_)) | ((with_reducible show wpAny _ _ (execs _ _) _ _ _); dsimp only) | (with_reducible (k_here; (with_reducible show wpAny _ _ (call (Value.ref 149) _) _ _ _); k_dflt (refine' Spec.useX (new_row_spec ?h1 ?h2) (rest := []) ?b0 ?b1 ?b2 ?b3 ?b4 ?b5 ?b6 ?b7 ?b8 ?b9 ?b10 ?b11 ?_; (case b0 => exact rfl); (case b1 => exact rfl); (case b2 => exact rfl); (case b3 => exact rfl); (case b4 => assumption); (case b5 => assumption); (case b6 => assumption); (case b7 => assumption); (case b8 => assumption); (case b9 => exact fun _ h => nomatch h); (case b10 => simp only [Around.deeper]; omega); (case b11 => simp only [Around.deeper]; omega); (case h1 => assumption); (case h2 => omega)); intro v9 h9 tk9 led9 F9 N9 hap9 o9; obtain ⟨z9, t9, kq9, kr9, y9⟩ := o9; subst z9 y9; clear hap9; (try simp only [List.append_nil] at N9); (try k_sweep))) | (k_unfold; (try dsimp only)) | walk1 | (dsimp only; walk1)))
  try unfold Stop
  refine wpAny_For ?_
  (repeat' (first | (with_reducible ((show wpAny _ _ (exec (PySem.Stmt.If _ _ _ _) _) _ _ _); (fail_if_success (refine hid_probe (by assumption) ?_)); refine hid_any (fun _ _ => ?_))) | (with_reducible (refine Hid.go (by assumption) _ _ ?_)) | ((with_reducible show wpAny _ _ (execs _ _) _ _ _); dsimp only) | (with_reducible (k_here; (with_reducible show wpAny _ _ (call (Value.ref 149) _) _ _ _); k_dflt (refine' Spec.useX (new_row_spec ?h1 ?h2) (rest := []) ?b0 ?b1 ?b2 ?b3 ?b4 ?b5 ?b6 ?b7 ?b8 ?b9 ?b10 ?b11 ?_; (case b0 => exact rfl); (case b1 => exact rfl); (case b2 => exact rfl); (case b3 => exact rfl); (case b4 => assumption); (case b5 => assumption); (case b6 => assumption); (case b7 => assumption); (case b8 => assumption); (case b9 => exact fun _ h => nomatch h); (case b10 => simp only [Around.deeper]; omega); (case b11 => simp only [Around.deeper]; omega); (case h1 => assumption); (case h2 => omega)); intro v9 h9 tk9 led9 F9 N9 hap9 o9; obtain ⟨z9, t9, kq9, kr9, y9⟩ := o9; subst z9 y9; clear hap9; (try simp only [List.append_nil] at N9); (try k_sweep))) | (k_unfold; (try dsimp only)) | walk1 | (dsimp only; walk1)))
  try unfold Stop
  refine loop_str (h₀ := h₀) (PT q r (fun y => List.lookup y [(Str.ofString "page", Value.ref q), (Str.ofString "text", .str text tt), (Str.ofString "width", .int width tw)].reverse) width st0 text) rfl (frCongr F₂ (m' := fun y => if y = Str.ofString "sign" then none else List.lookup y [(Str.ofString "page", Value.ref q), (Str.ofString "text", .str text tt), (Str.ofString "width", .int width tw)].reverse) ?_) N₂ ⟨st0, t₂, its₂, kq₂, kr₂, none, signs_one text, rfl, by omega, by omega, hS₂, rfl, rfl⟩ ?_ ?_
  · intro y
    by_cases hy : y = Str.ofString "sign"
    · subst hy; rfl
    · simp only [if_neg hy]
  · intro it oi c u rest m' news' h tk hne hp F' N'
    obtain ⟨st, t, its, kq, kr, cv, hone, hrun, hb1, hb2, hS', rfl, rfl⟩ := hp
    clear F₂ N₂
    rw [List.length_cons] at hb1 hb2
    have hc1 := hone c (.head _)
    (repeat' (first | (with_reducible ((show wpAny _ _ (exec (PySem.Stmt.If _ _ _ _) _) _ _ _); (fail_if_success (refine hid_probe (by assumption) ?_)); refine hid_any (fun _ _ => ?_))) | (with_reducible (refine Hid.go (by assumption) _ _ ?_)) | ((with_reducible show wpAny _ _ (execs _ _) _ _ _); dsimp only) | (with_reducible (k_here; (with_reducible show wpAny _ _ (call (Value.ref 149) _) _ _ _); k_dflt (refine' Spec.useX (new_row_spec ?h1 ?h2) (rest := []) ?b0 ?b1 ?b2 ?b3 ?b4 ?b5 ?b6 ?b7 ?b8 ?b9 ?b10 ?b11 ?_; (case b0 => exact rfl); (case b1 => exact rfl); (case b2 => exact rfl); (case b3 => exact rfl); (case b4 => assumption); (case b5 => assumption); (case b6 => assumption); (case b7 => assumption); (case b8 => assumption); (case b9 => exact fun _ h => nomatch h); (case b10 => simp only [Around.deeper]; omega); (case b11 => simp only [Around.deeper]; omega); (case h1 => assumption); (case h2 => omega)); intro v9 h9 tk9 led9 F9 N9 hap9 o9; obtain ⟨z9, t9, kq9, kr9, y9⟩ := o9; subst z9 y9; clear hap9; (try simp only [List.append_nil] at N9); (try k_sweep))) | (k_unfold; (try dsimp only)) | walk1 | (dsimp only; walk1)))
    rename Fr _ _ _ _ => F9
    rename News _ _ _ _ => N9
    clear F' N'
    have hl := lawSign_len width st c
    refine Spec.useX (sign_spec (rows := st.1) (row := st.2) (tc := u) hqr hS' (by omega) (by omega) (by omega) hw0 hw1) rfl rfl rfl rfl (by assumption) F9 (by assumption) (by assumption) N9 (fun q' hq' q'' hq'' => ?_) (by simp only [Around.deeper]; omega) (by simp only [Around.deeper]; omega) (fun v h' tk' led' F8 N8 hap8 o8 => ?_)
    · obtain rfl := List.mem_singleton.mp hq'
      exact (hne q'' hq'').symm
    · obtain ⟨rfl, t8, its8, kq8, kr8, rfl, S8⟩ := o8
      clear F9 N9
      (repeat' (first | (with_reducible ((show wpAny _ _ (exec (PySem.Stmt.If _ _ _ _) _) _ _ _); (fail_if_success (refine hid_probe (by assumption) ?_)); refine hid_any (fun _ _ => ?_))) | (with_reducible (refine Hid.go (by assumption) _ _ ?_)) | ((with_reducible show wpAny _ _ (execs _ _) _ _ _); dsimp only) | (with_reducible (k_here; (with_reducible show wpAny _ _ (call (Value.ref 149) _) _ _ _); k_dflt (refine' Spec.useX (new_row_spec ?h1 ?h2) (rest := []) ?b0 ?b1 ?b2 ?b3 ?b4 ?b5 ?b6 ?b7 ?b8 ?b9 ?b10 ?b11 ?_; (case b0 => exact rfl); (case b1 => exact rfl); (case b2 => exact rfl); (case b3 => exact rfl); (case b4 => assumption); (case b5 => assumption); (case b6 => assumption); (case b7 => assumption); (case b8 => assumption); (case b9 => exact fun _ h => nomatch h); (case b10 => simp only [Around.deeper]; omega); (case b11 => simp only [Around.deeper]; omega); (case h1 => assumption); (case h2 => omega)); intro v9 h9 tk9 led9 F9 N9 hap9 o9; obtain ⟨z9, t9, kq9, kr9, y9⟩ := o9; subst z9 y9; clear hap9; (try simp only [List.append_nil] at N9); (try k_sweep))) | (k_unfold; (try dsimp only)) | walk1 | (dsimp only; walk1)))
      try unfold Stop
      refine ⟨_, _, _, _, rfl, frCongr F8 (fun y => ?_), N8, ⟨lawSign width st c, t8, its8, kq8, kr8, some (.str c u), fun c' hc' => hone c' (.tail _ hc'), by rw [hrun]; rfl, by omega, by omega, S8, rfl, rfl⟩, ?_⟩
      · by_cases hy : y = Str.ofString "sign"
        · subst hy; rfl
        · simp only [if_neg hy]
      · intro q' hq'
        have z1 := hne _ (.head _)
        have z2 := hne _ (.tail _ (.head _))
        rcases List.mem_cons.mp hq' with rfl | hq'
        · exact z1
        · obtain rfl := List.mem_singleton.mp hq'
          exact z2
  · have h9' := h
    intro m' news' h tk hp F' N'
    obtain ⟨st, t, its, kq, kr, cv, hone, hrun, hb1, hb2, hS', rfl, rfl⟩ := hp
    clear F₂ N₂
    dsimp only
    have hw : lawTexted (rows, row) text width = st := by unfold lawTexted; rw [hst0]; exact hrun
    (repeat' (first | (with_reducible ((show wpAny _ _ (exec (PySem.Stmt.If _ _ _ _) _) _ _ _); (fail_if_success (refine hid_probe (by assumption) ?_)); refine hid_any (fun _ _ => ?_))) | (with_reducible (refine Hid.go (by assumption) _ _ ?_)) | ((with_reducible show wpAny _ _ (execs _ _) _ _ _); dsimp only) | (with_reducible (k_here; (with_reducible show wpAny _ _ (call (Value.ref 149) _) _ _ _); k_dflt (refine' Spec.useX (new_row_spec ?h1 ?h2) (rest := []) ?b0 ?b1 ?b2 ?b3 ?b4 ?b5 ?b6 ?b7 ?b8 ?b9 ?b10 ?b11 ?_; (case b0 => exact rfl); (case b1 => exact rfl); (case b2 => exact rfl); (case b3 => exact rfl); (case b4 => assumption); (case b5 => assumption); (case b6 => assumption); (case b7 => assumption); (case b8 => assumption); (case b9 => exact fun _ h => nomatch h); (case b10 => simp only [Around.deeper]; omega); (case b11 => simp only [Around.deeper]; omega); (case h1 => assumption); (case h2 => omega)); intro v9 h9 tk9 led9 F9 N9 hap9 o9; obtain ⟨z9, t9, kq9, kr9, y9⟩ := o9; subst z9 y9; clear hap9; (try simp only [List.append_nil] at N9); (try k_sweep))) | (k_unfold; (try dsimp only)) | walk1 | (dsimp only; walk1)))
    exact h9' _ _ _ _ (Sub.of F') (Led.of N') ⟨rfl, by rw [hw]; exact ⟨_, _, _, _, rfl, hS'⟩⟩
end Mine
namespace Mine


theorem item_any {prog : Program} {w : World} {A : Around} {E : Value → Shared → Prop} {s : Shared} {value slice : PySem.Expr} {l : Addr} {vs : List Value} {k lo hi : Int} {u : Tok} {Q : Value → Shared → Prop}
    (hl : s.heap.IsList l vs.toArray) (hI : ∀ v ∈ vs, ∃ n t, v = Value.int n t ∧ lo ≤ n ∧ n ≤ hi) (h0 : 0 ≤ k) (h1 : k < (vs.length : Int)) (hz : vs.length ≤ 1000) (h : ∀ n t, lo ≤ n → n ≤ hi → Q (.int n t) s)
    (hs : subscripted slice false (.ref l) (.int k u) = operate [.ref l, .int k u] (getItem (.ref l) (.int k u))) :
    wpAny (model prog w) A (subscriptTail value slice (.ref l) (.int k u)) Q E s := by
  have hlt : k.toNat < vs.length := by omega
  obtain ⟨n, t, e, b1, b2⟩ := hI _ (List.getElem_mem hlt)
  exact tail_any hl.typeIs slot_list_getitem.lookup (wpAny_getItem_list hl h0 (by omega) (by simpa using (List.getElem?_eq_getElem hlt).trans (congrArg some e)) (h n t b1 b2)) hs
theorem law_part_spec {w : World} {t : Tok} {n : Int} (hn : 0 ≤ n) :
    Spec w 800 135 [.int n t] [] (fun v l => ∃ a ob q, v = .ref a ∧ l = [(a, ob)] ∧ Part.ok q ∧ ∀ h : Heap, h.get? a = some ob → PartAt h a q) (fun _ _ => False) := by
  intro A outer A₀ base h₀ mean mg mb s R hh hA B X T S N hdp hun h hE
  obtain ⟨hd, dp, fr, gd, un⟩ := A
  dsimp only at hh hA hdp hun
  subst hh hA
  have hsl : (Txt.slice (Str.ofString "abcdefghijklmnopqrstuvwxyzABCDEFGHIJKLMNOP") none (some (Int.fmod (Int.fdiv n 6) 43))).length ≤ 42 := by
    have h0 := Int.fmod_nonneg_of_pos (Int.fdiv n 6) (b := 43) (by decide)
    have h1 : (Str.ofString "abcdefghijklmnopqrstuvwxyzABCDEFGHIJKLMNOP").length = 42 := by decide +kernel
    have h2 := fact_slice_ns (Str.ofString "abcdefghijklmnopqrstuvwxyzABCDEFGHIJKLMNOP") (Int.fmod (Int.fdiv n 6) 43)
    rw [h1] at h2
    omega
  refine' enter_led (K := hd01.heap_39 w.params) (binds := [(Str.ofString "number", Value.int n t)]) X T S N ?k6 ?k7 ?k8 ?k9 ?kB ?_ ?c2 ?c3 ?c4 ?c5
  ((case k6 => k_is); (case k7 => k_is); (case k8 => (simp only [recursionLimit]; omega)); (case k9 => exact BindsTo.of_eq rfl); (case c5 => decide); (case kB => exact locs rfl); (case c2 => exact rfl); (case c3 => exact rfl); (case c4 => exact rfl); intro _ _ _ _; (try dsimp only))
  (repeat' (first | (with_reducible ((show wpAny _ _ (exec (PySem.Stmt.If _ _ _ _) _) _ _ _); (fail_if_success (refine hid_probe (by assumption) ?_)); refine hid_any (fun _ _ => ?_))) | (with_reducible (refine Hid.go (by assumption) _ _ ?_)) | ((with_reducible show wpAny _ _ (execs _ _) _ _ _); dsimp only) | (with_reducible (k_here; (with_reducible show wpAny _ _ (subscriptTail _ _ (Value.ref _) (Value.int (Int.fmod _ 8) _)) _ _ _); (with_unfolding_all refine' item_any (lo := -2) (hi := 500) ?k1 ?k2 ?k3 ?k4 ?k5 ?_ ?k6; (case k1 => exact News.isList (by k_asm) (by k_mem)); (case k2 => ((repeat (refine List.forall_mem_cons.mpr ⟨⟨_, _, rfl, by decide, by decide⟩, ?_⟩)); exact fun _ h => nomatch h)); (case k3 => exact Int.fmod_nonneg_of_pos _ (by decide)); (case k4 => exact Int.fmod_lt_of_pos _ (by decide)); (case k5 => exact Nat.le_of_ble_eq_true rfl); (case k6 => with_unfolding_all rfl); k_whole); intro n9 t9 b91 b92)) | (k_unfold; (try dsimp only)) | walk1 | (dsimp only; walk1)))
  all_goals (first
    | (refine h _ _ _ _ (Sub.of (by assumption)) (Led.pick (Led.of (by assumption)) (.head _)) ?_; refine ⟨_, _, .text _, rfl, rfl, ?_, fun hx hg => ⟨_, _, _, hg, rfl, _, rfl⟩⟩; exact Nat.le_trans hsl (by decide))
    | (refine h _ _ _ _ (Sub.of (by assumption)) (Led.pick (Led.of (by assumption)) (.head _)) ?_; refine ⟨_, _, .zone, rfl, rfl, ?_, fun hx hg => ⟨_, _, hg, rfl, _, rfl⟩⟩; exact trivial)
    | (refine h _ _ _ _ (Sub.of (by assumption)) (Led.pick (Led.of (by assumption)) (.head _)) ?_; refine ⟨_, _, .glue, rfl, rfl, ?_, fun hx hg => ⟨_, _, hg, rfl, _, rfl⟩⟩; exact trivial)
    | (refine h _ _ _ _ (Sub.of (by assumption)) (Led.pick (Led.of (by assumption)) (.head _)) ?_; refine ⟨_, _, .tab _, rfl, rfl, ?_, fun hx hg => ⟨_, _, _, hg, rfl, _, rfl⟩⟩; exact And.intro (by assumption) (by assumption))
    | (refine h _ _ _ _ (Sub.of (by assumption)) (Led.pick (Led.of (by assumption)) (.head _)) ?_; refine ⟨_, _, .spc _, rfl, rfl, ?_, fun hx hg => ⟨_, _, _, hg, rfl, _, rfl⟩⟩; exact And.intro (by assumption) (by assumption)))
end Mine
namespace Mine
section
variable {prog : Program} {w : World} {A : Around} {E : Value → Shared → Prop} {s : Shared} {h₀ : Heap} {L : Addr} {m : Str → Option Value} {env : Env}
theorem step_st {I : Addr} {a c : Int} {n : Nat} : ∀ i (h h' : Heap) (o : Obj) (nw : List (Addr × Obj)), IsRangeIter h I (a + (i : Nat) * c) ((n : Int) - (i : Nat)) c → h.get? I = some o → h'.get? I = some o → (∀ b o, h₀.get? b = some o → h'.get? b = some o) → News h₀ L h' nw → True → IsRangeIter h' I (a + (i : Nat) * c) ((n : Int) - (i : Nat)) c :=
  fun i h h' o nw st e e' _ _ _ => by
    have st' : h.get? I = some _ := st
    show h'.get? I = some _
    rw [e', ← e]; exact st'
theorem comp_step {ct elt iter : Expr} {x y : Str} {px py : Pos} {scope : Scope} {cl : List (Str × Addr)} {pos spos : Pos} {Q : Flow → Shared → Prop} (F₀ : Fr h₀ L s.heap m) (hLe : env.locals = L)
    (hsw : swapsWith (.ListComp elt [⟨.Name x px, iter, [ct], 0⟩] scope pos) (some (.Name y py)) spos.line env = pure true)
    (hclos : closureFor scope env = pure cl) (hcell : ∀ z ∈ scope.names, z.2 ≠ .cell) (hkind : scope.kind = .function)
    (hnames : ∀ z ∈ scope.names, z.2 = .local → scope.names.lookup z.1 = some .local) (hx : scope.names.lookup x = some .local)
    (hy : env.kindOf y = some .local) (hp : (env.scope.kind == .class || (env.scope.kind == .module && env.locals != env.globals)) = false) (hh : A.handled = none)
    (h : wpAny (model prog w) A (eval iter env) (fun xv s₁ => ∃ r a b c t u v n news, xv = .ref r ∧ Fr h₀ L s₁.heap m ∧ News h₀ L s₁.heap news ∧ IsRange s₁.heap r a b c t u v ∧ Builtin.Range.small a b c = true ∧ Builtin.Range.rangeSize a b c = ((n : Nat) : Int) ∧ n ≤ sizeLine ∧
      ∀ g, LCt.CompRestT prog w A h₀ L m env ct elt x scope cl { s₁ with heap := g } (fun _ => True) (fun i v => ∃ t, v = .int (a + (i : Int) * c) t) (LCg.FinA h₀ L m { s₁ with heap := g } y Q) n 0 [] news) E s)
    (hs : ∀ x, foldedSetIterable iter env x = pure x := by intro _; rfl) :
    wpAny (model prog w) A (exec (.Assign [.Name y py] (.ListComp elt [⟨.Name x px, iter, [ct], 0⟩] scope pos) spos) env) Q E s := by
  subst hLe
  rw [exec_Assign_Name_used _ _ _ _ hsw]
  refine wpAny_bind (wpAny_standAt (wpAny_bind ?_))
  show wpAny _ A (do let _ ← comprehension (.ListComp elt [⟨.Name x px, iter, [ct], 0⟩] scope pos) scope env _ (newList []) false (eval iter env) (some (assign (.Name y py) env))) _ _ s
  refine wpAny_bind (wpAny_mono (wpAny_comprehension_free (use := some (assign (.Name y py) env)) (Q := fun _ s' => Q .next s') rfl hs hclos hkind hnames
    (wpAny_mono h (fun xv s₁ h₁ => ?_) fun _ _ e => e)) (fun _ s' hq => wpAny_pure (wpAny_pure hq)) fun _ _ e => e)
  obtain ⟨r, a, b, c, t, u, v, n, news, rfl, F, N, hr, hsm, hn, hsz, R⟩ := h₁
  refine wpAny_pyIter_range hr hsm ?_
  refine LCt.block_T (Walks.range hh _ a c n) hsz (fun i h st => ⟨_, st⟩) step_st hcell hkind hx (by show IsRangeIter _ _ _ _ _; rw [hn]; simpa using Heap.get?_push_size _ rfl) (fun b hb => ?_)
    (F.keeps fun _ _ e => Heap.get?_push_of_some _ e) (N.grown fun _ _ e => Heap.get?_push_of_some _ e) (Nat.ne_of_lt F.ns.lt) (next_is_new F) (fun p hp => Nat.ne_of_lt (Heap.lt_size (N p hp).1)) trivial (R _) ?_
  · rw [List.mem_singleton.mp hb]
    show s₁.heap.objs.size < (s₁.heap.push _).objs.size
    rw [Heap.size_push]; exact Nat.lt_succ_self _
  · intro D C h' tk m' ys news' F' N' o1 hn hC₀ hD₀ hCL hDL hCD offC fin
    show wpAny _ A (assign (.Name y py) env (.ref D)) _ _ _
    refine wpAny_assign_Name (wpAny_storeName_local hy F'.ns (fun h₂ hn₂ hs₂ => ?_) hp)
    have hL₀ : h₀.get? env.locals = none := Heap.get?_none_of_le F'.above
    have F₂ : Fr h₀ env.locals h₂ (fun z => if z = y then some (.ref D) else m z) := ⟨hn₂, fun b o e => hs₂.extBut b o (fun q => by rw [q, hL₀] at e; cases e) (F'.keep b o e), F'.above⟩
    refine ⟨m', hn.sameBut hs₂ hCL, fun h'' hs'' => fin D h'' _ (F₂.change hs'' hCL hC₀) (fun p hp => ?_) o1⟩
    have z : h₂.get? p.1 = some p.2 := hs₂.extBut _ _ (N' p hp).2.1 (N' p hp).1
    refine ⟨hs''.extBut _ _ ?_ z, (N' p hp).2⟩
    rcases List.mem_cons.mp hp with rfl | hp
    · exact Ne.symm hCD
    · exact offC p hp
theorem comp_ind {ct elt : Expr} {x : Str} {scope : Scope} {cl : List (Str × Addr)} {a c : Int} {n : Nat} {news : List (Addr × Obj)} {Fin : List Value → List (Addr × Obj) → Prop} (J : Nat → List Value → Prop)
    (step : ∀ (i : Nat) ys I oI C oC D m₂ h tk t (E' : Value → Shared → Prop), i < n → J i ys → LCg.NsObj oC m₂ → m₂ x = some (.int (a + (i : Int) * c) t) → Fr h₀ L h m → News h₀ L h ((I, oI) :: (C, oC) :: (D, LCg.lst ys) :: news) →
      wpAny (model prog w) A (PySem.isTrue ct (compEnvC scope cl C env) (eval ct (compEnvC scope cl C env))) (fun ok s' => if ok = true then
        wpAny (model prog w) A (eval elt (compEnvC scope cl C env)) (fun y s'' => ∃ h' tk', s'' = { s with heap := h', toks := tk' } ∧ Fr h₀ L h' m ∧ News h₀ L h' ((I, oI) :: (C, oC) :: (D, LCg.lst ys) :: news) ∧ J (i + 1) (ys ++ [y])) E' s'
        else ∃ h' tk', s' = { s with heap := h', toks := tk' } ∧ Fr h₀ L h' m ∧ News h₀ L h' ((I, oI) :: (C, oC) :: (D, LCg.lst ys) :: news) ∧ J (i + 1) ys) E' { s with heap := h, toks := tk })
    (fin : ∀ ys, J n ys → Fin ys news) : ∀ k i ys, i + k = n → J i ys → LCt.CompRestT prog w A h₀ L m env ct elt x scope cl s (fun _ => True) (fun i v => ∃ t, v = Value.int (a + (i : Int) * c) t) Fin k i ys news
  | 0, i, ys, hk, hJ => by
    obtain rfl : i = n := by omega
    exact LCt.CompRestT.zero (fin ys hJ)
  | k + 1, i, ys, hk, hJ => by
    refine LCt.CompRestT.succ fun v I oI C oC D m₂ h tk E' hv hC hx F N off ne => ?_
    obtain ⟨t, rfl⟩ := hv
    refine wpAny_mono (step i ys I oI C oC D m₂ h tk t E' (by omega) hJ hC hx F N) (fun ok s' hs => ?_) fun _ _ e => e
    cases ok with
    | true =>
      simp only [if_true] at hs ⊢
      refine wpAny_mono hs (fun y s'' hy => ?_) fun _ _ e => e
      obtain ⟨h', tk', rfl, F', N', hJ'⟩ := hy
      exact ⟨h', tk', news, rfl, F', N', off, trivial, comp_ind J step fin k (i + 1) _ (by omega) hJ'⟩
    | false =>
      simp only [Bool.false_eq_true, if_false] at hs ⊢
      obtain ⟨h', tk', rfl, F', N', hJ'⟩ := hs
      exact ⟨h', tk', news, rfl, F', N', off, trivial, comp_ind J step fin k (i + 1) _ (by omega) hJ'⟩
theorem eq_len {l b : Addr} {vs us : Array Value} {Q : Value → Shared → Prop} (hl : s.heap.IsList l vs) (hb : s.heap.IsList b us) (hz : vs.size ≠ us.size) (hu : A.units < cLine) (h : Q (.bool false) s) : wpAny (model prog w) A (compareOp .Eq (.ref l) (.ref b)) Q E s :=
  SeqAt.RcAt.lists_lengths hl hb (by simpa using hz) hu prog w E Q h
theorem eq_nil {l b : Addr} {vs us : Array Value} {Q : Value → Shared → Prop} (hl : s.heap.IsList l vs) (hb : s.heap.IsList b us) (h0 : vs.size = 0) (h1 : us.size = 0) (hu : A.units < cLine) (h : Q (.bool true) s) : wpAny (model prog w) A (compareOp .Eq (.ref l) (.ref b)) Q E s := by
  refine SeqAt.RcAt.lists (e := fun _ => true) hl hb (by omega) hu (fun j h1 h2 => absurd h1 (by omega)) prog w E Q ?_
  rw [h0]; exact h
end
end Mine
namespace Mine
theorem zone_steps (len : Nat) {zone : Int} (hz : 2 ≤ zone) (hz1 : zone ≤ 9) (hl : len ≤ 60000) : ∃ j0 n : Nat, (j0 : Int) * zone = zoneCol len zone ∧ (∀ i : Nat, i < j0 → (i : Int) * zone ≤ len) ∧ (∀ i : Nat, j0 < i → zoneCol len zone < (i : Int) * zone) ∧ j0 < n ∧ Builtin.Range.rangeSize 0 ((len : Int) + 2 * zone) zone = (n : Int) ∧ n ≤ 100000 := by
  have h0 : 0 ≤ (len : Int) / zone := Int.ediv_nonneg (by omega) (by omega)
  have hd := Int.mul_ediv_add_emod (len : Int) zone
  have hm0 := Int.emod_nonneg (len : Int) (show zone ≠ 0 by omega)
  have hm1 := Int.emod_lt_of_pos (len : Int) (show 0 < zone by omega)
  obtain ⟨k, hk⟩ := Int.eq_ofNat_of_zero_le h0
  have hzc : zoneCol len zone = ((k : Int) + 1) * zone := by
    unfold zoneCol; rw [Int.fdiv_eq_ediv_of_nonneg _ (by omega), hk]
  rw [hk] at hd
  have hkz : zone * (k : Int) = (k : Int) * zone := Int.mul_comm _ _
  have h2 : ((len : Int) + 2 * zone - 1) / zone = (((len : Int) - 1) / zone) + 2 := by
    rw [show (len : Int) + 2 * zone - 1 = ((len : Int) - 1) + 2 * zone by omega, Int.add_mul_ediv_right _ _ (by omega)]
  have h3 : (k : Int) - 1 ≤ ((len : Int) - 1) / zone := by
    refine (Int.le_ediv_iff_mul_le (by omega)).mpr ?_
    rw [Int.sub_mul]; omega
  have h4 : ((len : Int) - 1) / zone ≤ len := by
    refine Int.le_trans (Int.ediv_le_ediv (by omega) (show (len : Int) - 1 ≤ len by omega)) ?_
    exact Int.ediv_le_self _ (by omega)
  have hn0 : 0 ≤ (((len : Int) - 1) / zone) + 2 + 1 := by omega
  obtain ⟨n, hn⟩ := Int.eq_ofNat_of_zero_le hn0
  refine ⟨k + 1, n, by rw [hzc]; push_cast; rfl, fun i hi => ?_, fun i hi => ?_, by omega, ?_, by omega⟩
  · have := Int.mul_le_mul_of_nonneg_right (show (i : Int) ≤ (k : Int) by omega) (show 0 ≤ zone by omega)
    omega
  · rw [hzc]
    exact Int.mul_lt_mul_of_pos_right (by omega) (by omega)
  · unfold Builtin.Range.rangeSize
    rw [if_pos (by omega), if_pos (by omega), show (len : Int) + 2 * zone - 0 - 1 = (len : Int) + 2 * zone - 1 by omega, h2]
    omega
theorem zone_small {len n : Nat} {zone : Int} (hz : 2 ≤ zone) (hz1 : zone ≤ 9) (hl : len ≤ 60000) (hn : Builtin.Range.rangeSize 0 ((len : Int) + 2 * zone) zone = (n : Int)) (hb : n ≤ 100000) : Builtin.Range.small 0 ((len : Int) + 2 * zone) zone = true := by
  unfold Builtin.Range.small
  rw [hn, if_pos (show zone > 0 by omega)]
  simp only [Builtin.Range.rangeFitsLong, Bool.and_eq_true, Bool.or_eq_true, decide_eq_true_eq]
  refine ⟨⟨⟨⟨?_, ?_⟩, ?_⟩, ?_⟩, .inr ?_⟩ <;> (try constructor) <;> omega
def ZInv (j0 : Nat) (zone width Z : Int) (i : Nat) (ys : List Value) : Prop := (i ≤ j0 → ys = []) ∧ (j0 < i → ((width = 0 ∨ Z + zone ≤ width) → ∃ t r, ys = Value.int Z t :: r) ∧ (¬ (width = 0 ∨ Z + zone ≤ width) → ys = []))
theorem ZInv.zero {j0 : Nat} {zone width Z : Int} : ZInv j0 zone width Z 0 [] := ⟨fun _ => rfl, fun h => absurd h (Nat.not_lt_zero _)⟩
theorem ZInv.yes {j0 i : Nat} {zone width Z A len : Int} {ys : List Value} {t : Tok} (x : ZInv j0 zone width Z i ys) (h1 : i < j0 → A ≤ len) (h2 : i = j0 → A = Z) (h3 : j0 < i → Z < A) (c1 : len < A) (c2 : width = 0 ∨ A + zone ≤ width) : ZInv j0 zone width Z (i + 1) (ys ++ [.int A t]) := by
  refine ⟨fun h => ?_, fun h => ⟨fun ok => ?_, fun nok => ?_⟩⟩
  · have := h1 (by omega); omega
  · by_cases e : i = j0
    · rw [x.1 (by omega), h2 e]; exact ⟨t, [], rfl⟩
    · obtain ⟨t', r, e'⟩ := (x.2 (by omega)).1 ok
      rw [e']; exact ⟨t', r ++ [.int A t], rfl⟩
  · by_cases e : i = j0
    · rw [h2 e] at c2; exact absurd c2 nok
    · have := h3 (by omega)
      exact absurd (c2.imp id fun z => by omega) nok
theorem ZInv.no {j0 i : Nat} {zone width Z A len : Int} {ys : List Value} (x : ZInv j0 zone width Z i ys) (hlZ : len < Z) (h2 : i = j0 → A = Z) (c : ¬ (len < A ∧ (width = 0 ∨ A + zone ≤ width))) : ZInv j0 zone width Z (i + 1) ys := by
  refine ⟨fun h => x.1 (by omega), fun h => ?_⟩
  by_cases e : i = j0
  · have hy := x.1 (by omega)
    have hA := h2 e
    subst hy hA
    exact ⟨fun ok => absurd ⟨hlZ, ok⟩ c, fun _ => rfl⟩
  · exact x.2 (by omega)
end Mine
namespace Mine

local macro_rules | `(tactic| walk_at "Exists") => `(tactic| refine Stop.intro ?_)
local macro_rules | `(tactic| walk_at "exec While") => `(tactic| refine Stop.intro ?_)
local macro_rules | `(tactic| walk_at "exec For") => `(tactic| refine Stop.intro ?_)
local macro_rules | `(tactic| walk_at "compareOp Eq ref ref") => `(tactic| refine Stop.intro ?_)
local macro_rules | `(tactic| walk_at "exec Assign cons ListComp") => `(tactic| refine Stop.intro ?_)

def lawWrap (many width : Int) : Int := if 0 < width then many.fmod width else many
def lawTab (s : PS) (goal : Int) : PS := ((if goal < (s.2.length : Int) then endRow s else s).1, (if goal < (s.2.length : Int) then endRow s else s).2 ++ blanks (goal - ((if goal < (s.2.length : Int) then endRow s else s).2.length : Int)))
def lawParted (s : PS) (p : Part) (zone width : Int) : PS × Bool :=
  match p with
  | .text x => (lawTexted s x width, false)
  | .zone => (writeZone s zone width, false)
  | .glue => (s, false)
  | .tab n => if n - 1 < 0 ∨ 255 < n - 1 then (s, true) else (lawTab s (lawWrap (n - 1) width), false)
  | .spc n => if n < 0 ∨ 255 < n then (s, true) else (lawTexted s (blanks (lawWrap n width)) width, false)

theorem stmt_mid {M : Model} {A : Around} {E : Value → Shared → Prop} {s : Shared} {env : Env} {st : Stmt} {Q : Flow → Shared → Prop} (Mid : Shared → Prop)
    (h1 : wpAny M A (exec st env) (fun f s' => f = .next ∧ Mid s') E s) (h2 : ∀ s', Mid s' → Q .next s') : wpAny M A (exec st env) Q E s :=
  wpAny_mono h1 (fun f s' h => by obtain ⟨rfl, h⟩ := h; exact h2 s' h) fun _ _ x => x
theorem mn_front {h₀ h : Heap} {L : Addr} {q r : Addr} {row : Str} {t : Tok} {its : Array Value} {kq kr : Nat} {c1 c2 c3 : Addr × Obj} (N : News h₀ L h (c1 :: c2 :: c3 :: mnLed q r row t its kq kr)) : News h₀ L h (mnLed q r row t its kq kr ++ [c1, c2, c3]) := fun p hp => N p (by
  rcases List.mem_append.mp hp with hp | hp
  · exact .tail _ (.tail _ (.tail _ hp))
  · rcases List.mem_cons.mp hp with rfl | hp
    · exact .head _
    rcases List.mem_cons.mp hp with rfl | hp
    · exact .tail _ (.head _)
    obtain rfl := List.mem_singleton.mp hp
    exact .tail _ (.tail _ (.head _)))
theorem mn_back {h₀ h : Heap} {L : Addr} {q r : Addr} {row : Str} {t : Tok} {its : Array Value} {kq kr : Nat} {c1 c2 c3 : Addr × Obj} (N : News h₀ L h (mnLed q r row t its kq kr ++ [c1, c2, c3])) : News h₀ L h (c1 :: c2 :: c3 :: mnLed q r row t its kq kr) := fun p hp => N p (by
  rcases List.mem_cons.mp hp with rfl | hp
  · exact List.mem_append_right _ (.head _)
  rcases List.mem_cons.mp hp with rfl | hp
  · exact List.mem_append_right _ (.tail _ (.head _))
  rcases List.mem_cons.mp hp with rfl | hp
  · exact List.mem_append_right _ (.tail _ (.tail _ (.head _)))
  · exact List.mem_append_left _ hp)
theorem mn_apart {L : Nat} {q r : Addr} {row : Str} {t : Tok} {its : Array Value} {kq kr : Nat} {o1 o2 o3 : Obj} (hq : @LT.lt Nat _ q L) (hr : @LT.lt Nat _ r L) : ∀ p ∈ ([(L + 1 + 1 + 1, o1), (L + 1 + 1, o2), (L + 1, o3)] : List (Addr × Obj)), ∀ p' ∈ mnLed q r row t its kq kr, p.1 ≠ p'.1 := fun p hp p' hp' => by
  have h1 : @LT.lt Nat _ p'.1 L := by
    rcases List.mem_cons.mp hp' with rfl | hp'
    · exact hq
    obtain rfl := List.mem_singleton.mp hp'
    exact hr
  have h2 : @LT.lt Nat _ L p.1 := by
    rcases List.mem_cons.mp hp with rfl | hp
    · exact Nat.lt_succ_of_lt (Nat.lt_succ_of_lt (Nat.lt_succ_self L))
    rcases List.mem_cons.mp hp with rfl | hp
    · exact Nat.lt_succ_of_lt (Nat.lt_succ_self L)
    obtain rfl := List.mem_singleton.mp hp
    exact Nat.lt_succ_self L
  exact Nat.ne_of_gt (Nat.lt_trans h1 h2)

inductive WI (h₀ : Heap) (L : Addr) (vars : Str → Option Value) (led : List (Addr × Obj)) (s : Shared) (width n0 : Int) (k : Nat) (s' : Shared) : Prop where
  | mk (h : Heap) (tk : Nat) (M : Int) (tm : Tok) (e : s' = { s with heap := h, toks := tk }) (hk : k = M.toNat) (h0 : 0 ≤ M) (h1 : M ≤ n0) (hw : lawWrap M width = lawWrap n0 width) (F : Fr h₀ L h (fun y => if y = Str.ofString "many" then some (.int M tm) else vars y)) (N : News h₀ L h led)
inductive WM (h₀ : Heap) (L : Addr) (vars : Str → Option Value) (led : List (Addr × Obj)) (s : Shared) (g : Int) (s' : Shared) : Prop where
  | mk (h : Heap) (tk : Nat) (tm : Tok) (e : s' = { s with heap := h, toks := tk }) (F : Fr h₀ L h (fun y => if y = Str.ofString "many" then some (.int g tm) else vars y)) (N : News h₀ L h led)
theorem while_mid {M : Model} {A : Around} {E : Value → Shared → Prop} {s : Shared} {env : Env} {st : Stmt} {Q : Flow → Shared → Prop} {h₀ : Heap} {L : Addr} {vars : Str → Option Value} {led : List (Addr × Obj)} {width n0 : Int} {tm : Tok}
    (F : Fr h₀ L s.heap (fun y => if y = Str.ofString "many" then some (.int n0 tm) else vars y)) (N : News h₀ L s.heap led) (hn : 0 ≤ n0)
    (h1 : WI h₀ L vars led s width n0 n0.toNat s → wpAny M A (exec st env) (fun f s' => f = .next ∧ WM h₀ L vars led s (lawWrap n0 width) s') E s) (h2 : ∀ s', WM h₀ L vars led s (lawWrap n0 width) s' → Q .next s') : wpAny M A (exec st env) Q E s :=
  stmt_mid _ (h1 ⟨s.heap, s.toks, n0, tm, rfl, rfl, hn, Int.le_refl _, rfl, F, N⟩) h2
theorem lawWrap_step {M width : Int} (h : 0 < width) (h1 : width ≤ M) : lawWrap (M - width) width = lawWrap M width := by
  unfold lawWrap
  rw [if_pos h, if_pos h, Int.fmod_eq_emod_of_nonneg _ (by omega), Int.fmod_eq_emod_of_nonneg _ (by omega)]
  exact Int.sub_emod_right M width
theorem lawWrap_stop {M width : Int} (h0 : 0 ≤ M) (h : ¬ (0 < width ∧ width ≤ M)) : lawWrap M width = M := by
  unfold lawWrap
  by_cases h1 : 0 < width
  · rw [if_pos h1, Int.fmod_eq_emod_of_nonneg _ (by omega), Int.emod_eq_of_lt h0 (by omega)]
  · rw [if_neg h1]
theorem lawWrap_bounds {n width : Int} (h0 : 0 ≤ n) (h1 : n ≤ 255) : 0 ≤ lawWrap n width ∧ lawWrap n width ≤ 255 := by
  unfold lawWrap
  by_cases h : 0 < width
  · rw [if_pos h, Int.fmod_eq_emod_of_nonneg _ (by omega)]
    have := Int.emod_nonneg n (show width ≠ 0 by omega)
    refine ⟨by omega, ?_⟩
    by_cases h2 : n < width
    · rw [Int.emod_eq_of_lt h0 h2]; exact h1
    · have := Int.emod_lt_of_pos n h
      omega
  · rw [if_neg h]; omega

theorem many_vars {h₀ h : Heap} {L : Addr} {v v' : Option Value} {vars : Str → Option Value} (F : Fr h₀ L h (fun y => if y = Str.ofString "many" then v else if y = Str.ofString "many" then v' else vars y)) : Fr h₀ L h (fun y => if y = Str.ofString "many" then v else vars y) := frCongr F fun y => by
  by_cases hy : y = Str.ofString "many"
  · simp only [if_pos hy]
  · simp only [if_neg hy]
theorem lawTab_lt {rows : List Str} {row : Str} {g : Int} (h : g < (row.length : Int)) : lawTab (rows, row) g = (rows ++ [row], Str.ofString "" ++ blanks (g - 0)) := by
  have e0 : (Str.ofString "").length = 0 := by decide +kernel
  unfold lawTab
  rw [if_pos h]
  show (rows ++ [row], Str.ofString "" ++ blanks (g - ((Str.ofString "").length : Int))) = _
  rw [e0]; rfl
theorem lawTab_ge {rows : List Str} {row : Str} {g : Int} (h : ¬ g < (row.length : Int)) : lawTab (rows, row) g = (rows, row ++ blanks (g - (row.length : Int))) := by
  unfold lawTab
  rw [if_neg h]

theorem parted_spec {w : World} {q r a : Addr} {t tz tw : Tok} {kq kr : Nat} {its : Array Value} {row : Str} {rows : List Str} {p : Part} {zone width : Int} (hqr : @Ne Nat q r) (hS : StrsAre its.toList rows) (hits : rows.length ≤ 40000) (hrow : row.length ≤ 40000) (hp : p.ok) (hz0 : 2 ≤ zone) (hz1 : zone ≤ 9) (hw0 : 0 ≤ width) (hw1 : width ≤ 100) :
    SpecP w 770 161 [.ref q, .ref a, .int width tw, .int zone tz] (mnLed q r row t its kq kr) (fun h => PartAt h a p) (fun v l => ∃ tv, v = .str (if (lawParted (rows, row) p zone width).2 = true then Str.ofString "FC" else Str.ofString "") tv ∧ MnOut q r (lawParted (rows, row) p zone width).1 l) (fun _ _ => False) := by
  intro A outer A₀ base h₀ mean mg mb s R hh hA B X T S N hP hdp hun h hE
  obtain ⟨hd, dp, fr, gd, un⟩ := A
  dsimp only at hh hA hdp hun
  subst hh hA
  have hsz := StrsAre.size hS
  cases p with
  | text x =>
    obtain ⟨u1, u2, hP⟩ := hP
    unfold Part.ok at hp
    dsimp only at hp
    refine' enter_cells (K := hd01.heap_39 w.params) (binds := [(Str.ofString "page", Value.ref q), (Str.ofString "part", Value.ref a), (Str.ofString "width", .int width tw), (Str.ofString "zone", .int zone tz)]) X T S N ?k6 ?k7 ?k8 ?k9 ?kB ?kD ?_ ?c2 ?c3 ?c4
    ((case k6 => k_is); (case k7 => k_is); (case k8 => (simp only [recursionLimit]; omega)); (case k9 => exact BindsTo.of_eq rfl); (case kB => exact rfl); (case kD => decide +kernel); (case c2 => exact rfl); (case c3 => exact rfl); (case c4 => exact rfl))
    intro Lf h₁ tk₁ cells₁ F₁ N₁ l1 Y₁
    k_cells Y₁
    simp only [List.cons_append, List.nil_append] at N₁
    have hqL : @LT.lt Nat _ q Lf := l1 _ (.head _)
    have hrL : @LT.lt Nat _ r Lf := l1 _ (.tail _ (.head _))
    clear l1
    try dsimp only
    (repeat' (first | (with_reducible ((show wpAny _ _ (exec (PySem.Stmt.If _ _ _ _) _) _ _ _); (fail_if_success (refine hid_probe (by assumption) ?_)); refine hid_any (fun _ _ => ?_))) | (with_reducible (refine Hid.go (by assumption) _ _ ?_)) | ((with_reducible show wpAny _ _ (execs _ _) _ _ _); dsimp only) | (with_reducible ((with_reducible show wpAny _ _ (call (Value.ref 149) _) _ _ _); refine Stop.intro ?_)) | (with_reducible ((with_reducible show wpAny _ _ (call (Value.ref 156) _) _ _ _); refine Stop.intro ?_)) | (k_unfold; (try dsimp only)) | walk1 | (dsimp only; walk1)))
    rename Fr _ _ _ _ => F9
    rename News _ _ _ _ => N9
    try unfold Stop
    refine Spec.useX (texted_spec (rows := rows) (row := row) hqr hS (by omega) (by omega) hp hw0 hw1) rfl rfl rfl rfl (by assumption) F9 (by assumption) (by assumption) (mn_front N9) (mn_apart hqL hrL) (by simp only [Around.deeper]; omega) (by simp only [Around.deeper]; omega) (fun v h' tk' led' F8 N8 hap8 o8 => ?_)
    obtain ⟨rfl, t8, its8, kq8, kr8, rfl, S8⟩ := o8
    clear F9 N9 hap8
    replace N8 := mn_back N8
    (repeat' (first | (with_reducible ((show wpAny _ _ (exec (PySem.Stmt.If _ _ _ _) _) _ _ _); (fail_if_success (refine hid_probe (by assumption) ?_)); refine hid_any (fun _ _ => ?_))) | (with_reducible (refine Hid.go (by assumption) _ _ ?_)) | ((with_reducible show wpAny _ _ (execs _ _) _ _ _); dsimp only) | (with_reducible ((with_reducible show wpAny _ _ (call (Value.ref 149) _) _ _ _); refine Stop.intro ?_)) | (with_reducible ((with_reducible show wpAny _ _ (call (Value.ref 156) _) _ _ _); refine Stop.intro ?_)) | (k_unfold; (try dsimp only)) | walk1 | (dsimp only; walk1)))
    rename Fr _ _ _ _ => F9
    rename News _ _ _ _ => N9
    refine h _ _ _ _ (Sub.of F9) (Led.of fun p hp => N9 p (.tail _ (.tail _ (.tail _ hp)))) ?_
    exact ⟨_, rfl, _, _, _, _, rfl, S8⟩
  | zone =>
    obtain ⟨u1, hP⟩ := hP
    refine' enter_cells (K := hd01.heap_39 w.params) (binds := [(Str.ofString "page", Value.ref q), (Str.ofString "part", Value.ref a), (Str.ofString "width", .int width tw), (Str.ofString "zone", .int zone tz)]) X T S N ?k6 ?k7 ?k8 ?k9 ?kB ?kD ?_ ?c2 ?c3 ?c4
    ((case k6 => k_is); (case k7 => k_is); (case k8 => (simp only [recursionLimit]; omega)); (case k9 => exact BindsTo.of_eq rfl); (case kB => exact rfl); (case kD => decide +kernel); (case c2 => exact rfl); (case c3 => exact rfl); (case c4 => exact rfl))
    intro Lf h₁ tk₁ cells₁ F₁ N₁ l1 Y₁
    k_cells Y₁
    simp only [List.cons_append, List.nil_append] at N₁
    have hqL : @LT.lt Nat _ q Lf := l1 _ (.head _)
    have hrL : @LT.lt Nat _ r Lf := l1 _ (.tail _ (.head _))
    clear l1
    try dsimp only
    (repeat' (first | (with_reducible ((show wpAny _ _ (exec (PySem.Stmt.If _ _ _ _) _) _ _ _); (fail_if_success (refine hid_probe (by assumption) ?_)); refine hid_any (fun _ _ => ?_))) | (with_reducible (refine Hid.go (by assumption) _ _ ?_)) | ((with_reducible show wpAny _ _ (execs _ _) _ _ _); dsimp only) | (with_reducible ((with_reducible show wpAny _ _ (call (Value.ref 149) _) _ _ _); refine Stop.intro ?_)) | (with_reducible ((with_reducible show wpAny _ _ (call (Value.ref 156) _) _ _ _); refine Stop.intro ?_)) | (k_unfold; (try dsimp only)) | walk1 | (dsimp only; walk1)))
    try unfold Stop
    rename Fr _ _ _ _ => F2
    rename News _ _ _ _ => N2

    refine comp_step F2 rfl (by with_unfolding_all rfl) (by with_unfolding_all rfl) (by decide) rfl (by decide) rfl rfl rfl rfl ?_
    (repeat' (first | (with_reducible ((show wpAny _ _ (exec (PySem.Stmt.If _ _ _ _) _) _ _ _); (fail_if_success (refine hid_probe (by assumption) ?_)); refine hid_any (fun _ _ => ?_))) | (with_reducible (refine Hid.go (by assumption) _ _ ?_)) | ((with_reducible show wpAny _ _ (execs _ _) _ _ _); dsimp only) | (with_reducible ((with_reducible show wpAny _ _ (call (Value.ref 149) _) _ _ _); refine Stop.intro ?_)) | (with_reducible ((with_reducible show wpAny _ _ (call (Value.ref 156) _) _ _ _); refine Stop.intro ?_)) | (k_unfold; (try dsimp only)) | walk1 | (dsimp only; walk1)))
    try unfold Stop
    rename IsRange _ _ _ _ _ _ _ _ => hr
    rename Fr _ _ _ _ => F3
    rename News _ _ _ _ => N3
    try clear F2 N2
    obtain ⟨j0, nT, hZ, hlo, hhi, hjn, hnT, hnb⟩ := zone_steps row.length hz0 hz1 (by omega)
    have hZb := zoneCol_bounds row.length (zone := zone) (by omega)
    refine ⟨_, _, _, zone, _, _, _, nT, _, rfl, F3, N3, hr, zone_small (len := row.length) hz0 hz1 (by omega) hnT hnb, hnT, Nat.le_trans hnb (by decide), fun g => ?_⟩
    generalize hZg : zoneCol row.length zone = Z at hZ hhi hZb
    refine comp_ind (ZInv j0 zone width Z) (fun i ys I oI C oC D m₂ h4 tk4 t4 E4 hi hJ hoC hx4 F4 N4 => ?_) (fun ys hJ => ?_) nT 0 [] (Nat.zero_add _) ZInv.zero
    · have g1 : i < j0 → (0 : Int) + (i : Int) * zone ≤ row.length := fun z => by have := hlo i z; omega
      have g2 : i = j0 → (0 : Int) + (i : Int) * zone = Z := fun z => by rw [z, Int.zero_add]; exact hZ
      have g3 : j0 < i → Z < (0 : Int) + (i : Int) * zone := fun z => by have := hhi i z; omega
      have g4 : (0 : Int) + (i : Int) * zone ≤ 900000 ∧ 0 ≤ (0 : Int) + (i : Int) * zone := by
        have z1 := Int.mul_le_mul (show (i : Int) ≤ 100000 by omega) hz1 (by omega) (by omega)
        have z2 := Int.mul_nonneg (show (0 : Int) ≤ (i : Int) by omega) (show 0 ≤ zone by omega)
        omega
      generalize (0 : Int) + (i : Int) * zone = At at g1 g2 g3 g4 hx4
      try clear F3 N3 hr
      (repeat' (first | (with_reducible ((show wpAny _ _ (exec (PySem.Stmt.If _ _ _ _) _) _ _ _); (fail_if_success (refine hid_probe (by assumption) ?_)); refine hid_any (fun _ _ => ?_))) | (with_reducible (refine Hid.go (by assumption) _ _ ?_)) | ((with_reducible show wpAny _ _ (execs _ _) _ _ _); dsimp only) | (with_reducible ((with_reducible show wpAny _ _ (call (Value.ref 149) _) _ _ _); refine Stop.intro ?_)) | (with_reducible ((with_reducible show wpAny _ _ (call (Value.ref 156) _) _ _ _); refine Stop.intro ?_)) | (k_unfold; (try dsimp only)) | walk1 | (dsimp only; walk1)))
      · try unfold Stop
        exact ⟨_, _, rfl, F4, N4, hJ.yes g1 g2 g3 (by omega) (by omega)⟩
      · try unfold Stop
        exact ⟨_, _, rfl, F4, N4, hJ.yes g1 g2 g3 (by omega) (by omega)⟩
      · try unfold Stop
        exact ⟨_, _, rfl, F4, N4, hJ.no hZb.1 g2 (by omega)⟩
      · try unfold Stop
        exact ⟨_, _, rfl, F4, N4, hJ.no hZb.1 g2 (by omega)⟩
    · intro D h5 tk5 F5 N5 off5
      have hqr' := hqr
      try clear F3 N3 hr
      by_cases hok : width = 0 ∨ Z + zone ≤ width
      · obtain ⟨t0, rr, rfl⟩ := (hJ.2 hjn).1 hok
        (repeat' (first | (with_reducible ((show wpAny _ _ (exec (PySem.Stmt.If _ _ _ _) _) _ _ _); (fail_if_success (refine hid_probe (by assumption) ?_)); refine hid_any (fun _ _ => ?_))) | (with_reducible (refine Hid.go (by assumption) _ _ ?_)) | ((with_reducible show wpAny _ _ (execs _ _) _ _ _); dsimp only) | (with_reducible ((with_reducible show wpAny _ _ (call (Value.ref 149) _) _ _ _); refine Stop.intro ?_)) | (with_reducible ((with_reducible show wpAny _ _ (call (Value.ref 156) _) _ _ _); refine Stop.intro ?_)) | (k_unfold; (try dsimp only)) | walk1 | (dsimp only; walk1)))
        try unfold Stop
        rename News _ _ _ _ => N9
        refine eq_len ⟨_, (N9 _ (.tail _ (.head _))).1, rfl, _, rfl⟩ ⟨_, (N9 _ (.head _)).1, rfl, _, rfl⟩ (by simp) (by simp only [Around.deeper]; unfold cLine; omega) ?_
        (repeat' (first | (with_reducible ((show wpAny _ _ (exec (PySem.Stmt.If _ _ _ _) _) _ _ _); (fail_if_success (refine hid_probe (by assumption) ?_)); refine hid_any (fun _ _ => ?_))) | (with_reducible (refine Hid.go (by assumption) _ _ ?_)) | ((with_reducible show wpAny _ _ (execs _ _) _ _ _); dsimp only) | (with_reducible ((with_reducible show wpAny _ _ (call (Value.ref 149) _) _ _ _); refine Stop.intro ?_)) | (with_reducible ((with_reducible show wpAny _ _ (call (Value.ref 156) _) _ _ _); refine Stop.intro ?_)) | (k_unfold; (try dsimp only)) | walk1 | (dsimp only; walk1)))
        rename News _ _ _ _ => N10
        rename Fr _ _ _ _ => F10
        have N11 : News h₀ Lf _ _ := fun p hp => N10 p (.tail _ (.tail _ hp))
        try clear N9
        try clear N10
        (repeat' (first | (with_reducible ((show wpAny _ _ (exec (PySem.Stmt.If _ _ _ _) _) _ _ _); (fail_if_success (refine hid_probe (by assumption) ?_)); refine hid_any (fun _ _ => ?_))) | (with_reducible (refine Hid.go (by assumption) _ _ ?_)) | ((with_reducible show wpAny _ _ (execs _ _) _ _ _); dsimp only) | (with_reducible ((with_reducible show wpAny _ _ (call (Value.ref 149) _) _ _ _); refine Stop.intro ?_)) | (with_reducible ((with_reducible show wpAny _ _ (call (Value.ref 156) _) _ _ _); refine Stop.intro ?_)) | (k_unfold; (try dsimp only)) | walk1 | (dsimp only; walk1)))
        rename Fr _ _ _ _ => F12
        rename News _ _ _ _ => N12
        refine h _ _ _ _ (Sub.of F12) (Led.of fun p hp => N12 p (.tail _ (.tail _ (.tail _ hp)))) ?_
        rw [show lawParted (rows, row) .zone zone width = ((rows, row ++ blanks (Z - (row.length : Int))), false) from by show (writeZone (rows, row) zone width, false) = _; unfold writeZone; rw [hZg, if_neg (by omega)]]
        exact ⟨_, rfl, _, _, _, _, rfl, hS⟩
      · obtain rfl := (hJ.2 hjn).2 hok
        (repeat' (first | (with_reducible ((show wpAny _ _ (exec (PySem.Stmt.If _ _ _ _) _) _ _ _); (fail_if_success (refine hid_probe (by assumption) ?_)); refine hid_any (fun _ _ => ?_))) | (with_reducible (refine Hid.go (by assumption) _ _ ?_)) | ((with_reducible show wpAny _ _ (execs _ _) _ _ _); dsimp only) | (with_reducible ((with_reducible show wpAny _ _ (call (Value.ref 149) _) _ _ _); refine Stop.intro ?_)) | (with_reducible ((with_reducible show wpAny _ _ (call (Value.ref 156) _) _ _ _); refine Stop.intro ?_)) | (k_unfold; (try dsimp only)) | walk1 | (dsimp only; walk1)))
        try unfold Stop
        rename News _ _ _ _ => N9
        refine eq_nil ⟨_, (N9 _ (.tail _ (.head _))).1, rfl, _, rfl⟩ ⟨_, (N9 _ (.head _)).1, rfl, _, rfl⟩ rfl rfl (by simp only [Around.deeper]; unfold cLine; omega) ?_
        (repeat' (first | (with_reducible ((show wpAny _ _ (exec (PySem.Stmt.If _ _ _ _) _) _ _ _); (fail_if_success (refine hid_probe (by assumption) ?_)); refine hid_any (fun _ _ => ?_))) | (with_reducible (refine Hid.go (by assumption) _ _ ?_)) | ((with_reducible show wpAny _ _ (execs _ _) _ _ _); dsimp only) | (with_reducible ((with_reducible show wpAny _ _ (call (Value.ref 149) _) _ _ _); refine Stop.intro ?_)) | (with_reducible ((with_reducible show wpAny _ _ (call (Value.ref 156) _) _ _ _); refine Stop.intro ?_)) | (k_unfold; (try dsimp only)) | walk1 | (dsimp only; walk1)))
        try unfold Stop
        rename News _ _ _ _ => N10
        rename Fr _ _ _ _ => F10
        have N11 : News h₀ Lf _ _ := fun p hp => N10 p (.tail _ (.tail _ hp))
        try clear N10
        refine Spec.useX (new_row_spec (its := its) hqr (by omega)) rfl rfl rfl rfl (by assumption) F10 (by assumption) (by assumption) (mn_front N11) (mn_apart hqL hrL) (by simp only [Around.deeper]; omega) (by simp only [Around.deeper]; omega) (fun v h' tk' led' F8 N8 hap8 o8 => ?_)
        obtain ⟨rfl, t8, kq8, kr8, rfl⟩ := o8
        clear N11 hap8
        replace N8 := mn_back N8
        (repeat' (first | (with_reducible ((show wpAny _ _ (exec (PySem.Stmt.If _ _ _ _) _) _ _ _); (fail_if_success (refine hid_probe (by assumption) ?_)); refine hid_any (fun _ _ => ?_))) | (with_reducible (refine Hid.go (by assumption) _ _ ?_)) | ((with_reducible show wpAny _ _ (execs _ _) _ _ _); dsimp only) | (with_reducible ((with_reducible show wpAny _ _ (call (Value.ref 149) _) _ _ _); refine Stop.intro ?_)) | (with_reducible ((with_reducible show wpAny _ _ (call (Value.ref 156) _) _ _ _); refine Stop.intro ?_)) | (k_unfold; (try dsimp only)) | walk1 | (dsimp only; walk1)))
        rename Fr _ _ _ _ => F12
        rename News _ _ _ _ => N12
        refine h _ _ _ _ (Sub.of F12) (Led.of fun p hp => N12 p (.tail _ (.tail _ (.tail _ hp)))) ?_
        rw [show lawParted (rows, row) .zone zone width = (endRow (rows, row), false) from by show (writeZone (rows, row) zone width, false) = _; unfold writeZone; rw [hZg, if_pos (by omega)]]
        exact ⟨_, rfl, _, _, _, _, rfl, StrsAre.push1 hS _ _⟩
  | glue =>
    obtain ⟨u1, hP⟩ := hP
    refine' enter_cells (K := hd01.heap_39 w.params) (binds := [(Str.ofString "page", Value.ref q), (Str.ofString "part", Value.ref a), (Str.ofString "width", .int width tw), (Str.ofString "zone", .int zone tz)]) X T S N ?k6 ?k7 ?k8 ?k9 ?kB ?kD ?_ ?c2 ?c3 ?c4
    ((case k6 => k_is); (case k7 => k_is); (case k8 => (simp only [recursionLimit]; omega)); (case k9 => exact BindsTo.of_eq rfl); (case kB => exact rfl); (case kD => decide +kernel); (case c2 => exact rfl); (case c3 => exact rfl); (case c4 => exact rfl))
    intro Lf h₁ tk₁ cells₁ F₁ N₁ l1 Y₁
    k_cells Y₁
    simp only [List.cons_append, List.nil_append] at N₁
    have hqL : @LT.lt Nat _ q Lf := l1 _ (.head _)
    have hrL : @LT.lt Nat _ r Lf := l1 _ (.tail _ (.head _))
    clear l1
    try dsimp only
    (repeat' (first | (with_reducible ((show wpAny _ _ (exec (PySem.Stmt.If _ _ _ _) _) _ _ _); (fail_if_success (refine hid_probe (by assumption) ?_)); refine hid_any (fun _ _ => ?_))) | (with_reducible (refine Hid.go (by assumption) _ _ ?_)) | ((with_reducible show wpAny _ _ (execs _ _) _ _ _); dsimp only) | (with_reducible ((with_reducible show wpAny _ _ (call (Value.ref 149) _) _ _ _); refine Stop.intro ?_)) | (with_reducible ((with_reducible show wpAny _ _ (call (Value.ref 156) _) _ _ _); refine Stop.intro ?_)) | (k_unfold; (try dsimp only)) | walk1 | (dsimp only; walk1)))
    rename Fr _ _ _ _ => F9
    rename News _ _ _ _ => N9
    refine h _ _ _ _ (Sub.of F9) (Led.of fun p hp => N9 p (.tail _ (.tail _ (.tail _ hp)))) ?_
    exact ⟨_, rfl, _, _, _, _, rfl, hS⟩
  | tab n =>
    obtain ⟨u1, u2, hP⟩ := hP
    unfold Part.ok at hp
    dsimp only at hp
    refine' enter_cells (K := hd01.heap_39 w.params) (binds := [(Str.ofString "page", Value.ref q), (Str.ofString "part", Value.ref a), (Str.ofString "width", .int width tw), (Str.ofString "zone", .int zone tz)]) X T S N ?k6 ?k7 ?k8 ?k9 ?kB ?kD ?_ ?c2 ?c3 ?c4
    ((case k6 => k_is); (case k7 => k_is); (case k8 => (simp only [recursionLimit]; omega)); (case k9 => exact BindsTo.of_eq rfl); (case kB => exact rfl); (case kD => decide +kernel); (case c2 => exact rfl); (case c3 => exact rfl); (case c4 => exact rfl))
    intro Lf h₁ tk₁ cells₁ F₁ N₁ l1 Y₁
    k_cells Y₁
    simp only [List.cons_append, List.nil_append] at N₁
    have hqL : @LT.lt Nat _ q Lf := l1 _ (.head _)
    have hrL : @LT.lt Nat _ r Lf := l1 _ (.tail _ (.head _))
    clear l1
    try dsimp only
    (repeat' (first | (with_reducible ((show wpAny _ _ (exec (PySem.Stmt.If _ _ _ _) _) _ _ _); (fail_if_success (refine hid_probe (by assumption) ?_)); refine hid_any (fun _ _ => ?_))) | (with_reducible (refine Hid.go (by assumption) _ _ ?_)) | ((with_reducible show wpAny _ _ (execs _ _) _ _ _); dsimp only) | (with_reducible ((with_reducible show wpAny _ _ (call (Value.ref 149) _) _ _ _); refine Stop.intro ?_)) | (with_reducible ((with_reducible show wpAny _ _ (call (Value.ref 156) _) _ _ _); refine Stop.intro ?_)) | (k_unfold; (try dsimp only)) | walk1 | (dsimp only; walk1)))
    · rename Fr _ _ _ _ => F9
      rename News _ _ _ _ => N9
      refine h _ _ _ _ (Sub.of F9) (Led.of fun p hp => N9 p (.tail _ (.tail _ (.tail _ hp)))) ?_
      rw [show lawParted (rows, row) (.tab n) zone width = ((rows, row), true) from if_pos (by omega)]
      exact ⟨_, rfl, _, _, _, _, rfl, hS⟩
    · rename Fr _ _ _ _ => F9
      rename News _ _ _ _ => N9
      refine h _ _ _ _ (Sub.of F9) (Led.of fun p hp => N9 p (.tail _ (.tail _ (.tail _ hp)))) ?_
      rw [show lawParted (rows, row) (.tab n) zone width = ((rows, row), true) from if_pos (by omega)]
      exact ⟨_, rfl, _, _, _, _, rfl, hS⟩
    · try unfold Stop
      rename Fr _ _ _ _ => F9
      rename News _ _ _ _ => N9
      have hg := lawWrap_bounds (n := n - 1) (width := width) (by omega) (by omega)
      refine while_mid (n0 := n - 1) (width := width) F9 N9 (by omega) (fun hI0 => ?_) (fun s' hm => ?_)
      · refine wpAny_While (codeAny_whileLoop _ (fun k s' hI => ?_) _ hI0)
        clear F9 N9 hI0
        obtain ⟨h₃, tk₃, M, tm, rfl, rfl, hM0, hM1, hMw, F₃, N₃⟩ := hI
        by_cases hgo : 0 < width ∧ width ≤ M
        · (repeat' (first | (with_reducible ((show wpAny _ _ (exec (PySem.Stmt.If _ _ _ _) _) _ _ _); (fail_if_success (refine hid_probe (by assumption) ?_)); refine hid_any (fun _ _ => ?_))) | (with_reducible (refine Hid.go (by assumption) _ _ ?_)) | ((with_reducible show wpAny _ _ (execs _ _) _ _ _); dsimp only) | (with_reducible ((with_reducible show wpAny _ _ (call (Value.ref 149) _) _ _ _); refine Stop.intro ?_)) | (with_reducible ((with_reducible show wpAny _ _ (call (Value.ref 156) _) _ _ _); refine Stop.intro ?_)) | (k_unfold; (try dsimp only)) | walk1 | (dsimp only; walk1)))
          try unfold Stop
          rename Fr _ _ _ _ => F9
          rename News _ _ _ _ => N9
          dsimp only
          exact ⟨(M - width).toNat, by omega, _, _, M - width, _, rfl, rfl, by omega, by omega, (lawWrap_step hgo.1 hgo.2).trans hMw, many_vars F9, N9⟩
        · have he : lawWrap (n - 1) width = M := by rw [← hMw, lawWrap_stop hM0 hgo]
          by_cases hw : 0 < width
          · (repeat' (first | (with_reducible ((show wpAny _ _ (exec (PySem.Stmt.If _ _ _ _) _) _ _ _); (fail_if_success (refine hid_probe (by assumption) ?_)); refine hid_any (fun _ _ => ?_))) | (with_reducible (refine Hid.go (by assumption) _ _ ?_)) | ((with_reducible show wpAny _ _ (execs _ _) _ _ _); dsimp only) | (with_reducible ((with_reducible show wpAny _ _ (call (Value.ref 149) _) _ _ _); refine Stop.intro ?_)) | (with_reducible ((with_reducible show wpAny _ _ (call (Value.ref 156) _) _ _ _); refine Stop.intro ?_)) | (k_unfold; (try dsimp only)) | walk1 | (dsimp only; walk1)))
            exact ⟨_, _, tm, rfl, by rw [he]; exact F₃, N₃⟩
          · (repeat' (first | (with_reducible ((show wpAny _ _ (exec (PySem.Stmt.If _ _ _ _) _) _ _ _); (fail_if_success (refine hid_probe (by assumption) ?_)); refine hid_any (fun _ _ => ?_))) | (with_reducible (refine Hid.go (by assumption) _ _ ?_)) | ((with_reducible show wpAny _ _ (execs _ _) _ _ _); dsimp only) | (with_reducible ((with_reducible show wpAny _ _ (call (Value.ref 149) _) _ _ _); refine Stop.intro ?_)) | (with_reducible ((with_reducible show wpAny _ _ (call (Value.ref 156) _) _ _ _); refine Stop.intro ?_)) | (k_unfold; (try dsimp only)) | walk1 | (dsimp only; walk1)))
            exact ⟨_, _, tm, rfl, by rw [he]; exact F₃, N₃⟩
      clear F9 N9
      obtain ⟨h₃, tk₃, tm, rfl, F₃, N₃⟩ := hm
      generalize hgg : lawWrap (n - 1) width = g at F₃ hg
      (repeat' (first | (with_reducible ((show wpAny _ _ (exec (PySem.Stmt.If _ _ _ _) _) _ _ _); (fail_if_success (refine hid_probe (by assumption) ?_)); refine hid_any (fun _ _ => ?_))) | (with_reducible (refine Hid.go (by assumption) _ _ ?_)) | ((with_reducible show wpAny _ _ (execs _ _) _ _ _); dsimp only) | (with_reducible ((with_reducible show wpAny _ _ (call (Value.ref 149) _) _ _ _); refine Stop.intro ?_)) | (with_reducible ((with_reducible show wpAny _ _ (call (Value.ref 156) _) _ _ _); refine Stop.intro ?_)) | (k_unfold; (try dsimp only)) | walk1 | (dsimp only; walk1)))
      · try unfold Stop
        refine Spec.useX (new_row_spec (its := its) hqr (by omega)) rfl rfl rfl rfl (by assumption) F₃ (by assumption) (by assumption) (mn_front N₃) (mn_apart hqL hrL) (by simp only [Around.deeper]; omega) (by simp only [Around.deeper]; omega) (fun v h' tk' led' F8 N8 hap8 o8 => ?_)
        obtain ⟨rfl, t8, kq8, kr8, rfl⟩ := o8
        clear F₃ N₃ hap8
        replace N8 := mn_back N8
        (repeat' (first | (with_reducible ((show wpAny _ _ (exec (PySem.Stmt.If _ _ _ _) _) _ _ _); (fail_if_success (refine hid_probe (by assumption) ?_)); refine hid_any (fun _ _ => ?_))) | (with_reducible (refine Hid.go (by assumption) _ _ ?_)) | ((with_reducible show wpAny _ _ (execs _ _) _ _ _); dsimp only) | (with_reducible ((with_reducible show wpAny _ _ (call (Value.ref 149) _) _ _ _); refine Stop.intro ?_)) | (with_reducible ((with_reducible show wpAny _ _ (call (Value.ref 156) _) _ _ _); refine Stop.intro ?_)) | (k_unfold; (try dsimp only)) | walk1 | (dsimp only; walk1)))
        rename Fr _ _ _ _ => F9
        rename News _ _ _ _ => N9
        refine h _ _ _ _ (Sub.of F9) (Led.of fun p hp => N9 p (.tail _ (.tail _ (.tail _ hp)))) ?_
        rw [show lawParted (rows, row) (.tab n) zone width = (lawTab (rows, row) (lawWrap (n - 1) width), false) from if_neg (by omega), hgg, lawTab_lt (by assumption)]
        exact ⟨_, rfl, _, _, _, _, rfl, StrsAre.push1 hS _ _⟩
      · rename Fr _ _ _ _ => F9
        rename News _ _ _ _ => N9
        refine h _ _ _ _ (Sub.of F9) (Led.of fun p hp => N9 p (.tail _ (.tail _ (.tail _ hp)))) ?_
        rw [show lawParted (rows, row) (.tab n) zone width = (lawTab (rows, row) (lawWrap (n - 1) width), false) from if_neg (by omega), hgg, lawTab_ge (by assumption)]
        exact ⟨_, rfl, _, _, _, _, rfl, hS⟩
  | spc n =>
    obtain ⟨u1, u2, hP⟩ := hP
    unfold Part.ok at hp
    dsimp only at hp
    refine' enter_cells (K := hd01.heap_39 w.params) (binds := [(Str.ofString "page", Value.ref q), (Str.ofString "part", Value.ref a), (Str.ofString "width", .int width tw), (Str.ofString "zone", .int zone tz)]) X T S N ?k6 ?k7 ?k8 ?k9 ?kB ?kD ?_ ?c2 ?c3 ?c4
    ((case k6 => k_is); (case k7 => k_is); (case k8 => (simp only [recursionLimit]; omega)); (case k9 => exact BindsTo.of_eq rfl); (case kB => exact rfl); (case kD => decide +kernel); (case c2 => exact rfl); (case c3 => exact rfl); (case c4 => exact rfl))
    intro Lf h₁ tk₁ cells₁ F₁ N₁ l1 Y₁
    k_cells Y₁
    simp only [List.cons_append, List.nil_append] at N₁
    have hqL : @LT.lt Nat _ q Lf := l1 _ (.head _)
    have hrL : @LT.lt Nat _ r Lf := l1 _ (.tail _ (.head _))
    clear l1
    try dsimp only
    (repeat' (first | (with_reducible ((show wpAny _ _ (exec (PySem.Stmt.If _ _ _ _) _) _ _ _); (fail_if_success (refine hid_probe (by assumption) ?_)); refine hid_any (fun _ _ => ?_))) | (with_reducible (refine Hid.go (by assumption) _ _ ?_)) | ((with_reducible show wpAny _ _ (execs _ _) _ _ _); dsimp only) | (with_reducible ((with_reducible show wpAny _ _ (call (Value.ref 149) _) _ _ _); refine Stop.intro ?_)) | (with_reducible ((with_reducible show wpAny _ _ (call (Value.ref 156) _) _ _ _); refine Stop.intro ?_)) | (k_unfold; (try dsimp only)) | walk1 | (dsimp only; walk1)))
    · rename Fr _ _ _ _ => F9
      rename News _ _ _ _ => N9
      refine h _ _ _ _ (Sub.of F9) (Led.of fun p hp => N9 p (.tail _ (.tail _ (.tail _ hp)))) ?_
      rw [show lawParted (rows, row) (.spc n) zone width = ((rows, row), true) from if_pos (by omega)]
      exact ⟨_, rfl, _, _, _, _, rfl, hS⟩
    · rename Fr _ _ _ _ => F9
      rename News _ _ _ _ => N9
      refine h _ _ _ _ (Sub.of F9) (Led.of fun p hp => N9 p (.tail _ (.tail _ (.tail _ hp)))) ?_
      rw [show lawParted (rows, row) (.spc n) zone width = ((rows, row), true) from if_pos (by omega)]
      exact ⟨_, rfl, _, _, _, _, rfl, hS⟩
    · try unfold Stop
      rename Fr _ _ _ _ => F9
      rename News _ _ _ _ => N9
      have hg := lawWrap_bounds (n := n) (width := width) (by omega) (by omega)
      refine while_mid (n0 := n) (width := width) F9 N9 (by omega) (fun hI0 => ?_) (fun s' hm => ?_)
      · refine wpAny_While (codeAny_whileLoop _ (fun k s' hI => ?_) _ hI0)
        clear F9 N9 hI0
        obtain ⟨h₃, tk₃, M, tm, rfl, rfl, hM0, hM1, hMw, F₃, N₃⟩ := hI
        by_cases hgo : 0 < width ∧ width ≤ M
        · (repeat' (first | (with_reducible ((show wpAny _ _ (exec (PySem.Stmt.If _ _ _ _) _) _ _ _); (fail_if_success (refine hid_probe (by assumption) ?_)); refine hid_any (fun _ _ => ?_))) | (with_reducible (refine Hid.go (by assumption) _ _ ?_)) | ((with_reducible show wpAny _ _ (execs _ _) _ _ _); dsimp only) | (with_reducible ((with_reducible show wpAny _ _ (call (Value.ref 149) _) _ _ _); refine Stop.intro ?_)) | (with_reducible ((with_reducible show wpAny _ _ (call (Value.ref 156) _) _ _ _); refine Stop.intro ?_)) | (k_unfold; (try dsimp only)) | walk1 | (dsimp only; walk1)))
          try unfold Stop
          rename Fr _ _ _ _ => F9
          rename News _ _ _ _ => N9
          dsimp only
          exact ⟨(M - width).toNat, by omega, _, _, M - width, _, rfl, rfl, by omega, by omega, (lawWrap_step hgo.1 hgo.2).trans hMw, many_vars F9, N9⟩
        · have he : lawWrap (n) width = M := by rw [← hMw, lawWrap_stop hM0 hgo]
          by_cases hw : 0 < width
          · (repeat' (first | (with_reducible ((show wpAny _ _ (exec (PySem.Stmt.If _ _ _ _) _) _ _ _); (fail_if_success (refine hid_probe (by assumption) ?_)); refine hid_any (fun _ _ => ?_))) | (with_reducible (refine Hid.go (by assumption) _ _ ?_)) | ((with_reducible show wpAny _ _ (execs _ _) _ _ _); dsimp only) | (with_reducible ((with_reducible show wpAny _ _ (call (Value.ref 149) _) _ _ _); refine Stop.intro ?_)) | (with_reducible ((with_reducible show wpAny _ _ (call (Value.ref 156) _) _ _ _); refine Stop.intro ?_)) | (k_unfold; (try dsimp only)) | walk1 | (dsimp only; walk1)))
            exact ⟨_, _, tm, rfl, by rw [he]; exact F₃, N₃⟩
          · (repeat' (first | (with_reducible ((show wpAny _ _ (exec (PySem.Stmt.If _ _ _ _) _) _ _ _); (fail_if_success (refine hid_probe (by assumption) ?_)); refine hid_any (fun _ _ => ?_))) | (with_reducible (refine Hid.go (by assumption) _ _ ?_)) | ((with_reducible show wpAny _ _ (execs _ _) _ _ _); dsimp only) | (with_reducible ((with_reducible show wpAny _ _ (call (Value.ref 149) _) _ _ _); refine Stop.intro ?_)) | (with_reducible ((with_reducible show wpAny _ _ (call (Value.ref 156) _) _ _ _); refine Stop.intro ?_)) | (k_unfold; (try dsimp only)) | walk1 | (dsimp only; walk1)))
            exact ⟨_, _, tm, rfl, by rw [he]; exact F₃, N₃⟩
      clear F9 N9
      obtain ⟨h₃, tk₃, tm, rfl, F₃, N₃⟩ := hm
      generalize hgg : lawWrap (n) width = g at F₃ hg
      (repeat' (first | (with_reducible ((show wpAny _ _ (exec (PySem.Stmt.If _ _ _ _) _) _ _ _); (fail_if_success (refine hid_probe (by assumption) ?_)); refine hid_any (fun _ _ => ?_))) | (with_reducible (refine Hid.go (by assumption) _ _ ?_)) | ((with_reducible show wpAny _ _ (execs _ _) _ _ _); dsimp only) | (with_reducible ((with_reducible show wpAny _ _ (call (Value.ref 149) _) _ _ _); refine Stop.intro ?_)) | (with_reducible ((with_reducible show wpAny _ _ (call (Value.ref 156) _) _ _ _); refine Stop.intro ?_)) | (k_unfold; (try dsimp only)) | walk1 | (dsimp only; walk1)))
      try unfold Stop
      rename Fr _ _ _ _ => F9
      rename News _ _ _ _ => N9
      have hbl := blanks_len g
      refine Spec.useX (texted_spec (rows := rows) (row := row) (text := blanks g) hqr hS (by omega) (by omega) (by omega) hw0 hw1) rfl rfl rfl rfl (by assumption) F9 (by assumption) (by assumption) (mn_front N9) (mn_apart hqL hrL) (by simp only [Around.deeper]; omega) (by simp only [Around.deeper]; omega) (fun v h' tk' led' F8 N8 hap8 o8 => ?_)
      obtain ⟨rfl, t8, its8, kq8, kr8, rfl, S8⟩ := o8
      clear F9 N9 hap8
      replace N8 := mn_back N8
      (repeat' (first | (with_reducible ((show wpAny _ _ (exec (PySem.Stmt.If _ _ _ _) _) _ _ _); (fail_if_success (refine hid_probe (by assumption) ?_)); refine hid_any (fun _ _ => ?_))) | (with_reducible (refine Hid.go (by assumption) _ _ ?_)) | ((with_reducible show wpAny _ _ (execs _ _) _ _ _); dsimp only) | (with_reducible ((with_reducible show wpAny _ _ (call (Value.ref 149) _) _ _ _); refine Stop.intro ?_)) | (with_reducible ((with_reducible show wpAny _ _ (call (Value.ref 156) _) _ _ _); refine Stop.intro ?_)) | (k_unfold; (try dsimp only)) | walk1 | (dsimp only; walk1)))
      rename Fr _ _ _ _ => F9
      rename News _ _ _ _ => N9
      refine h _ _ _ _ (Sub.of F9) (Led.of fun p hp => N9 p (.tail _ (.tail _ (.tail _ hp)))) ?_
      rw [show lawParted (rows, row) (.spc n) zone width = (lawTexted (rows, row) (blanks (lawWrap n width)) width, false) from if_neg (by omega), hgg]
      exact ⟨_, rfl, _, _, _, _, rfl, S8⟩
end Mine
namespace Mine
theorem empty_app (x : Str) : Str.ofString "" ++ x = x := by
  obtain ⟨c⟩ := x
  show (⟨(Str.ofString "").cps ++ c⟩ : Str) = _
  have : (Str.ofString "").cps = #[] := by decide +kernel
  rw [this, Array.empty_append]
theorem empty_len0 : (Str.ofString "").length = 0 := by decide +kernel
theorem cat_list : ∀ (l : List Nat) (b : Str), (l.map fun c => (⟨#[c]⟩ : Str)).foldl (· ++ ·) b = ⟨b.cps ++ l.toArray⟩
  | [], b => by show b = ⟨b.cps ++ #[]⟩; rw [Array.append_empty]
  | c :: l, b => by
    rw [List.map_cons, List.foldl_cons, cat_list l]
    show (⟨(b.cps ++ #[c]) ++ l.toArray⟩ : Str) = _
    rw [Array.append_assoc]
    congr 1
    congr 1
    apply Array.ext'
    simp
theorem signs_cat (x b : Str) : (signs x).foldl (· ++ ·) b = b ++ x := by
  unfold signs
  rw [cat_list, Array.toArray_toList]
  rfl
theorem fold_fit {w : Int} : ∀ (l : List Str) (s : PS), (∀ c ∈ l, Str.length c = 1) → (0 < w → (s.2.length : Int) + l.length ≤ w) → l.foldl (lawSign w) s = (s.1, l.foldl (· ++ ·) s.2)
  | [], s, _, _ => rfl
  | c :: l, s, h1, h2 => by
    have hc := h1 c (.head _)
    have e : lawSign w s c = (s.1, s.2 ++ c) := by
      unfold lawSign
      rw [if_neg (fun z => by have := h2 z.1; rw [List.length_cons] at this; omega)]
    rw [List.foldl_cons, List.foldl_cons, e, fold_fit l _ (fun c' hc' => h1 c' (.tail _ hc')) fun z => ?_]
    have := h2 z
    rw [List.length_cons] at this
    show ((s.2 ++ c).length : Int) + l.length ≤ w
    rw [app_len]
    omega
theorem signs_split (x : Str) {w : Int} (h0 : 0 ≤ w) (h1 : w ≤ x.length) : signs x = signs (Txt.slice x none (some w)) ++ signs (Txt.slice x (some w) none) := by
  have e1 := eq_of_beq (slice_closes_toL (x := x) h0 h1)
  have e2 := eq_of_beq (slice_closes_fromL (x := x) h0 h1 rfl)
  have hl : x.cps.toList.length = x.length := Array.length_toList
  rw [e1, e2]
  unfold signs
  rw [← List.map_append]
  congr 1
  show x.cps.toList = ((x.cps.toList.drop (0 : Int).toNat).take (w - 0).toNat).toArray.toList ++ ((x.cps.toList.drop w.toNat).take ((x.length : Int) - w).toNat).toArray.toList
  have e3 : (x.cps.toList.drop w.toNat).take ((x.length : Int) - w).toNat = x.cps.toList.drop w.toNat := List.take_of_length_le (by rw [List.length_drop, hl]; omega)
  rw [List.toList_toArray, List.toList_toArray, e3, show (0 : Int).toNat = 0 from rfl, List.drop_zero, Int.sub_zero, List.take_append_drop]
theorem fold_chop {w : Int} (hw : 0 < w) : ∀ (n : Nat) (x : Str), x.length = n → ∀ b : PS, b.2 = Str.ofString "" → (signs x).foldl (lawSign w) b = (b.1 ++ (chop w x).1, (chop w x).2) := by
  intro n
  induction n using Nat.strongRecOn with
  | ind n ih =>
    intro x hx b hb
    by_cases h : w < (x.length : Int)
    · have hg := chop_go ⟨hw, h⟩
      have hp := (fact_slice_ns x w).1 (by omega) (by omega)
      have hr := (fact_slice_sn x w).1 (by omega) (by omega)
      have hsp := signs_split x (w := w) (by omega) (by omega)
      generalize hpe : Txt.slice x none (some w) = p at hg hp hsp
      generalize hre : Txt.slice x (some w) none = r at hg hr hsp
      rw [hsp, List.foldl_append, fold_fit (signs p) b (signs_one p) (fun _ => by rw [hb, empty_len0, signs_len]; omega), signs_cat, hb, empty_app]
      have hrl := signs_len r
      cases hs : signs r with
      | nil => rw [hs] at hrl; rw [List.length_nil] at hrl; omega
      | cons c l =>
        have e : lawSign w (b.1, p) c = lawSign w (b.1 ++ [p], Str.ofString "") c := by
          unfold lawSign
          rw [if_pos ⟨hw, by dsimp only; omega⟩, if_neg (fun z => by have := z.2; dsimp only at this; rw [empty_len0] at this; omega)]
          rfl
        rw [List.foldl_cons, e, ← List.foldl_cons, ← hs, ih r.length (by omega) r rfl _ rfl, hg]
        simp
    · rw [fold_fit (signs x) b (signs_one x) (fun _ => by rw [hb, empty_len0, signs_len]; omega), signs_cat, hb, empty_app, chop_stop (fun z => h z.2), List.append_nil]
theorem lawOpen_eq (s : PS) (x : Str) (w : Int) : lawOpen s x w = breakFor s x.length w := by
  unfold lawOpen breakFor
  have : s.2 ≠ Str.ofString "" ↔ 0 < (s.2.length : Int) := by
    constructor
    · intro h
      rcases Nat.eq_zero_or_pos s.2.length with z | z
      · exact absurd (empty_len z) h
      · omega
    · intro h e
      rw [e, empty_len0] at h
      omega
  simp only [this]
theorem texted_eq (s : PS) (x : Str) (w : Int) : lawTexted s x w = writeText s x w := by
  unfold lawTexted writeText
  rw [lawOpen_eq]
  by_cases hw : 0 < w
  · by_cases h0 : (breakFor s x.length w).2 = Str.ofString ""
    · rw [fold_chop hw _ x rfl _ h0, h0, empty_app]
    · have hn : ¬ (0 < w ∧ 0 < (s.2.length : Int) ∧ w < (s.2.length : Int) + (x.length : Int)) := fun z => h0 (by unfold breakFor; rw [if_pos z]; rfl)
      have hb : breakFor s x.length w = s := by unfold breakFor; rw [if_neg hn]
      rw [hb] at h0 ⊢
      have hl : 0 < s.2.length := by
        rcases Nat.eq_zero_or_pos s.2.length with z | z
        · exact absurd (empty_len z) h0
        · exact z
      rw [fold_fit (signs x) s (signs_one x) (fun _ => by rw [signs_len]; omega), signs_cat, chop_stop (fun z => by omega), List.append_nil]
  · rw [fold_fit (signs x) _ (signs_one x) (fun z => absurd z hw), signs_cat, chop_stop (fun z => hw z.1), List.append_nil]
theorem part_eq (s : PS) (q : Part) (zone width : Int) : (writePart s q zone width = none ∧ lawParted s q zone width = (s, true)) ∨ (∃ s', writePart s q zone width = some s' ∧ lawParted s q zone width = (s', false)) := by
  cases q with
  | text x => exact .inr ⟨_, rfl, by unfold lawParted; dsimp only; rw [texted_eq]⟩
  | zone => exact .inr ⟨_, rfl, rfl⟩
  | glue => exact .inr ⟨_, rfl, rfl⟩
  | tab n =>
    unfold writePart lawParted
    dsimp only
    by_cases h : n - 1 < 0 ∨ 255 < n - 1
    · left
      rw [if_pos h]
      refine ⟨?_, rfl⟩
      unfold writeTab
      by_cases h2 : n < 1
      · rw [if_pos h2]
      · rw [if_neg h2]
        unfold withinRow
        rw [if_neg (by omega)]; rfl
    · right
      rw [if_neg h]
      refine ⟨_, ?_, rfl⟩
      unfold writeTab withinRow
      rw [if_neg (by omega), if_pos (by omega)]
      show some _ = some (lawTab s (lawWrap (n - 1) width))
      congr 1
      show (if lawWrap (n - 1) width < (s.2.length : Int) then ((endRow s).1, (endRow s).2 ++ blanks (lawWrap (n - 1) width - 0)) else (s.1, s.2 ++ blanks (lawWrap (n - 1) width - (s.2.length : Int)))) = _
      unfold lawTab
      by_cases h3 : lawWrap (n - 1) width < (s.2.length : Int)
      · rw [if_pos h3, if_pos h3]
        show _ = ((endRow s).1, (endRow s).2 ++ blanks (lawWrap (n - 1) width - ((Str.ofString "").length : Int)))
        rw [empty_len0]; rfl
      · rw [if_neg h3, if_neg h3]
  | spc n =>
    unfold writePart lawParted
    dsimp only
    by_cases h : n < 0 ∨ 255 < n
    · left
      rw [if_pos h]
      refine ⟨?_, rfl⟩
      unfold withinRow
      rw [if_neg (by omega)]; rfl
    · right
      rw [if_neg h]
      refine ⟨_, ?_, rfl⟩
      unfold withinRow
      rw [if_pos (by omega)]
      show some _ = some (lawTexted s (blanks (lawWrap n width)) width)
      rw [texted_eq]; rfl
def lawParts (zone width : Int) : PS → Bool → List Part → PS × Bool
  | s, r, [] => (s, r)
  | s, true, _ :: _ => (s, true)
  | s, false, q :: qs => lawParts zone width (lawParted s q zone width).1 (lawParted s q zone width).2 qs
theorem lawParts_true (z w : Int) (s : PS) : ∀ qs, lawParts z w s true qs = (s, true)
  | [] => rfl
  | _ :: _ => rfl
def lastText (e : Bool) : List Part → Bool
  | [] => e
  | q :: qs => lastText q.isText qs
theorem parts_eq (z w : Int) : ∀ (qs : List Part) (s : PS) (e : Bool), (runParts z w s e qs).1 = (lawParts z w s false qs).1 ∧ (runParts z w s e qs).2.2 = (lawParts z w s false qs).2 ∧ ((lawParts z w s false qs).2 = false → (runParts z w s e qs).2.1 = lastText e qs)
  | [], s, e => ⟨rfl, rfl, fun _ => rfl⟩
  | q :: qs, s, e => by
    rcases part_eq s q z w with ⟨h1, h2⟩ | ⟨s', h1, h2⟩
    · simp only [runParts, lawParts, h1, h2, lawParts_true]
      exact ⟨trivial, trivial, fun h => by cases h⟩
    · simp only [runParts, lawParts, h1, h2, lastText]
      exact parts_eq z w qs s' q.isText
def lawPiece (zone width : Int) (s : PS) (qs : List Part) : PS × Bool := (if (lawParts zone width s false qs).2 = false ∧ lastText true qs = true then endRow (lawParts zone width s false qs).1 else (lawParts zone width s false qs).1, (lawParts zone width s false qs).2)
theorem piece_eq (z w : Int) (s : PS) (qs : List Part) : writeParts s qs z w = lawPiece z w s qs := by
  rw [writeParts_res]
  obtain ⟨h1, h2, h3⟩ := parts_eq z w qs s true
  unfold res lawPiece
  rw [h2, h1]
  cases hr : (lawParts z w s false qs).2 with
  | true => simp
  | false =>
    rw [h3 hr]
    cases lastText true qs <;> simp
end Mine
namespace Mine

inductive PartsL (tl : List (Addr × Obj)) : List Value → List Part → Prop
  | nil : PartsL tl [] []
  | cons {a ob q vs qs} : (a, ob) ∈ tl → (∀ h : Heap, h.get? a = some ob → PartAt h a q) → q.ok → PartsL tl vs qs → PartsL tl (.ref a :: vs) (q :: qs)
theorem PartsL.app {tl : List (Addr × Obj)} {vs vs' : List Value} {qs qs' : List Part} (x : PartsL tl vs qs) (y : PartsL tl vs' qs') : PartsL tl (vs ++ vs') (qs ++ qs') := by
  induction x with
  | nil => exact y
  | cons a b c _ ih => exact .cons a b c ih
theorem PartsL.mono {tl tl' : List (Addr × Obj)} {vs : List Value} {qs : List Part} (x : PartsL tl vs qs) (k : ∀ p ∈ tl, p ∈ tl') : PartsL tl' vs qs := by
  induction x with
  | nil => exact .nil
  | cons a b c _ ih => exact .cons (k _ a) b c ih
theorem PartsL.at {h : Heap} {tl : List (Addr × Obj)} {vs : List Value} {qs : List Part} (x : PartsL tl vs qs) (k : ∀ p ∈ tl, h.get? p.1 = some p.2) : PartsAt h vs qs := by
  induction x with
  | nil => exact .nil
  | cons a b c _ ih => exact .cons (b h (k _ a)) c ih
theorem PartsL.length {tl : List (Addr × Obj)} {vs : List Value} {qs : List Part} (x : PartsL tl vs qs) : vs.length = qs.length := by
  induction x with
  | nil => rfl
  | cons a b c _ ih => simp [ih]
theorem PartsL.take {tl : List (Addr × Obj)} {vs : List Value} {qs : List Part} (x : PartsL tl vs qs) : ∀ j, PartsL tl (vs.take j) (qs.take j) := by
  induction x with
  | nil => intro j; simpa using PartsL.nil
  | cons a b c _ ih => intro j; cases j with
    | zero => exact .nil
    | succ j => exact .cons a b c (ih j)
theorem PartsL.drop {tl : List (Addr × Obj)} {vs : List Value} {qs : List Part} (x : PartsL tl vs qs) : ∀ j, PartsL tl (vs.drop j) (qs.drop j) := by
  induction x with
  | nil => intro j; simpa using PartsL.nil
  | cons a b c d ih => intro j; cases j with
    | zero => exact .cons a b c d
    | succ j => exact ih j
theorem ints_cons {v : Value} {vs : List Value} {ns : List Int} (h : IntsAre (v :: vs) ns) : ∃ n t r, v = .int n t ∧ ns = n :: r ∧ IntsAre vs r := by
  cases h with
  | cons => exact ⟨_, _, _, rfl, rfl, by assumption⟩
inductive CI (s₁ : Shared) (h₀ : Heap) (L I D C ax : Addr) (m : Str → Option Value) (vs : List Value) (news : List (Addr × Obj)) (n : Nat) (s' : Shared) : Prop where
  | mk (dn rest : List Value) (nr : List Int) (accs : List Value) (qs : List Part) (tl : List (Addr × Obj)) (oi : Obj) (k : Nat) (oC : Obj) (mc : Str → Option Value) (h : Heap) (tk : Nat) (e : s' = { s₁ with heap := h, toks := tk }) (hvs : vs = dn ++ rest) (hn : n = rest.length) (hIr : IntsAre rest nr) (hnr : ∀ n ∈ nr, 0 ≤ n) (hal : accs.length = dn.length) (hP : PartsL tl accs qs) (F : Fr h₀ L h m)
    (N : News h₀ L h ((I, oi) :: (D, W.listOf accs.toArray k) :: (C, oC) :: (tl ++ news))) (hit : h.IsListIter I ax dn.length) (hns : h.Ns C mc) (hoff : ∀ q ∈ tl, q.1 ≠ I ∧ q.1 ≠ D ∧ q.1 ≠ C) (hnd : (tl.map (·.1)).Nodup) (hap : ∀ q ∈ tl, ∀ q' ∈ news, q.1 ≠ q'.1)

theorem comp_eval {w : World} {A A₀ : Around} {base h₀ : Heap} {mean : ExcName → Option Value} {mg mb : Str → Option Value} {s : Shared} {L a : Addr} {cn : Str} {cs : Scope} {ccd : Value} {cl : List (Str × Addr)} {Q : Value → Shared → Prop} {E : Value → Shared → Prop} {np np2 cpos px pos : Pos} {iter : Expr} {scope : Scope}
    (hh : A.handled = none) (hA : A.frames = some [envX cn cs L a ccd cl]) (B : Below A₀ base [] h₀) (X : (hd01.heap_39 w.params).In h₀) (T : TopW' mean mg mb h₀) (hdp : A.depth ≤ 800) (hun : A.units ≤ 9 * 800) (hck : cs.kind = .function)
    (hfree : ∀ y ∈ scope.names, y.2 ≠ .free) (hcell : ∀ y ∈ scope.names, y.2 ≠ .cell) (hkind : scope.kind = .function) (hnames : ∀ y ∈ scope.names, y.2 = .local → scope.names.lookup y.1 = some .local)
    (hx : scope.names.lookup (Str.ofString "number") = some .local) (hf : scope.names.lookup (Str.ofString "_law_part") = some .globalImplicit)
    (h : wpAny (model PROG w) A (eval iter (envX cn cs L a ccd cl)) (fun xv s₁ => ∃ ax vs ns m news, xv = .ref ax ∧ Fr h₀ L s₁.heap m ∧ News h₀ L s₁.heap news ∧ (∀ h, News h₀ L h news → h.IsList ax vs.toArray) ∧ IntsAre vs ns ∧ (∀ n ∈ ns, 0 ≤ n) ∧ vs.length ≤ 100 ∧
      ∀ D h' tk accs qs tl k, Fr h₀ L h' m → News h₀ L h' ((D, W.listOf accs.toArray k) :: (tl ++ news)) → (∀ p ∈ tl, ∀ p' ∈ news, p.1 ≠ p'.1) → (tl.map (·.1)).Nodup → (∀ p ∈ tl, p.1 ≠ D) → (∀ p ∈ news, p.1 ≠ D) → PartsL tl accs qs → accs.length = vs.length → Q (.ref D) { s₁ with heap := h', toks := tk }) E s)
    (hs : ∀ x, foldedSetIterable iter (envX cn cs L a ccd cl) x = pure x := by intro _; rfl) :
    wpAny (model PROG w) A (eval (.ListComp (.Call (.Name (Str.ofString "_law_part") np) [.Name (Str.ofString "number") np2] [] cpos) [⟨.Name (Str.ofString "number") px, iter, [], 0⟩] scope pos) (envX cn cs L a ccd cl)) Q E s := by
  rw [eval_ListComp]
  refine wpAny_comprehension rfl hs hfree hkind hnames (wpAny_mono h (fun xv s₁ h₁ => ?_) fun _ _ e => e)
  obtain ⟨ax, vs, ns, m, news, rfl, F, N, hax, hI, hn0, hlen, hQ⟩ := h₁
  refine wpAny_pyIter_list (hax _ N) (wpAny_newObj_type (hd := by size_fits) (wpAny_newFunctionEnv hcell (by intro y hy; simp at hy) (fun h₁ hns₁ hsb₁ => ?_) hkind))
  dsimp only at hns₁ hsb₁ ⊢
  have F1 := F.push { cls := .type "list_iterator", data := .fields #[.ref ax, .int 0 0] }
  have N1 := News.push F N { cls := .type "list_iterator", data := .fields #[.ref ax, .int 0 0] }
  have hH1 := Heap.size_push s₁.heap { cls := .type "list_iterator", data := .fields #[.ref ax, .int 0 0] }
  have hlI : ∀ q ∈ news, q.1 < s₁.heap.objs.size := fun q hq => Heap.lt_size (N q hq).1
  have hLI := F.ns.lt
  generalize s₁.heap.push { cls := .type "list_iterator", data := .fields #[.ref ax, .int 0 0] } = H1 at *
  have F2 := F1.push { cls := .type "list", dict := none, data := .seq ([] : List Value).toArray }
  have N2 := News.push F1 N1 { cls := .type "list", dict := none, data := .seq ([] : List Value).toArray }
  have hH2 := Heap.size_push H1 { cls := .type "list", dict := none, data := .seq ([] : List Value).toArray }
  generalize H1.push { cls := .type "list", dict := none, data := .seq ([] : List Value).toArray } = H2 at *
  have hC0 : h₀.get? H2.objs.size = none := no_at F2
  have hD0 : h₀.get? H1.objs.size = none := no_at F1
  have hI0 : h₀.get? s₁.heap.objs.size = none := no_at F
  generalize hIe : s₁.heap.objs.size = I at *
  generalize hDe : H1.objs.size = D at *
  generalize hCe : H2.objs.size = C at *
  have hDI : D ≠ I := by rw [hH1]; exact Nat.succ_ne_self _
  have hCI : C ≠ I := by rw [hH2, hH1]; omega
  have hCD : C ≠ D := by rw [hH2]; exact Nat.succ_ne_self _
  have hLCI : I ≠ L ∧ D ≠ L ∧ C ≠ L := ⟨Nat.ne_of_gt hLI, by rw [hH1]; exact Nat.ne_of_gt (Nat.lt_succ_of_lt hLI), by rw [hH2, hH1]; exact Nat.ne_of_gt (Nat.lt_succ_of_lt (Nat.lt_succ_of_lt hLI))⟩
  have hoff : ∀ q ∈ news, q.1 ≠ I ∧ q.1 ≠ D ∧ q.1 ≠ C := fun q hq => by
    have := hlI q hq
    exact ⟨Nat.ne_of_lt this, by rw [hH1]; exact Nat.ne_of_lt (Nat.lt_succ_of_lt this), by rw [hH2, hH1]; exact Nat.ne_of_lt (Nat.lt_succ_of_lt (Nat.lt_succ_of_lt this))⟩
  have k3 : ∀ b o, b ≠ C → H2.get? b = some o → h₁.get? b = some o := fun b o hb e => hsb₁.extBut b o hb (Heap.get?_push_of_some _ e)
  have F3 : Fr h₀ L h₁ m := fr_of_but F2 hC0 hLCI.2.2 k3
  obtain ⟨oC, _, _, hoC, _⟩ := id hns₁
  have N3 : News h₀ L h₁ ((I, { cls := .type "list_iterator", data := .fields #[.ref ax, .int 0 0] }) :: (D, W.listOf #[] 0) :: (C, oC) :: ([] ++ news)) := fun q hq => by
    rcases List.mem_cons.mp hq with rfl | hq
    · exact ⟨k3 _ _ hCI.symm (N2 _ (.tail _ (.head _))).1, hLCI.1, hI0⟩
    rcases List.mem_cons.mp hq with rfl | hq
    · exact ⟨k3 _ _ hCD.symm (N2 _ (.head _)).1, hLCI.2.1, hD0⟩
    rcases List.mem_cons.mp hq with rfl | hq
    · exact ⟨hoC, hLCI.2.2, hC0⟩
    · exact ⟨k3 _ _ (hoff q hq).2.2 (N2 _ (.tail _ (.tail _ hq))).1, (N q hq).2⟩
  have hit : h₁.IsListIter I ax 0 := ⟨_, (N3 _ (.head _)).1, rfl, rfl⟩
  clear N2 F2 N1 F1 hsb₁ hoC
  have loop : ∀ R : Result → Shared → Prop, (∀ f s', (∃ m, s'.heap.Ns C m ∧ ∀ h', Heap.SameBut C s'.heap h' → Q (.ref D) { s' with heap := h' }) → R (.ok f) s') → ∀ s₂ : Shared, s₂ = { s₁ with heap := h₁, toks := s₁.toks + ([] : List (Str × Value)).length } →
      codeAny (model PROG w) A (.compLoop (.ListComp (.Call (.Name (Str.ofString "_law_part") np) [.Name (Str.ofString "number") np2] [] cpos) [⟨.Name (Str.ofString "number") px, iter, [], 0⟩] scope pos) 0 (.ref I) (.ref D) (compEnv scope C (envX cn cs L a ccd cl))) R s₂ := by
    intro R hR
    rintro s₂ rfl
    refine codeAny_compLoop_list (CI s₁ h₀ L I D C ax m vs news) (fun n s' hInv => ?_) vs.length ⟨[], vs, ns, [], [], [], _, 0, oC, _, h₁, _, rfl, rfl, rfl, hI, hn0, rfl, .nil, F3, N3, hit, hns₁, (fun q hq => nomatch hq), .nil, (fun q hq => nomatch hq)⟩
    obtain ⟨dn, rest, nr, accs, qs, tl, oi, k, oC', mc, h, tk, rfl, hvs, rfl, hIr, hnr, hal, hP, F', N', hit', hns', hoff', hnd', hap'⟩ := hInv
    have Nn : News h₀ L h news := fun q hq => N' q (.tail _ (.tail _ (.tail _ (List.mem_append_right _ hq))))
    have hoffA : ∀ q ∈ tl ++ news, q.1 ≠ I ∧ q.1 ≠ D ∧ q.1 ≠ C := fun q hq => (List.mem_append.mp hq).elim (hoff' q) (hoff q)
    cases rest with
    | nil =>
      refine wpAny_pyNext_list_end hh hit' (hax _ Nn) (by rw [hvs]; simp) fun h' e => ?_
      have Fa : Fr h₀ L h' m := fr_of_but F' hI0 hLCI.1 fun b o hb q => e b o hb q
      have Na : News h₀ L h' ((D, W.listOf accs.toArray k) :: (C, oC') :: (tl ++ news)) := fun q hq => by
        rcases List.mem_cons.mp hq with rfl | hq
        · exact ⟨e _ _ hDI (N' _ (.tail _ (.head _))).1, (N' _ (.tail _ (.head _))).2⟩
        rcases List.mem_cons.mp hq with rfl | hq
        · exact ⟨e _ _ hCI (N' _ (.tail _ (.tail _ (.head _)))).1, (N' _ (.tail _ (.tail _ (.head _)))).2⟩
        · have z := N' q (.tail _ (.tail _ (.tail _ hq)))
          exact ⟨e _ _ (hoffA q hq).1 z.1, z.2⟩
      have hoC' := (N' (C, oC') (.tail _ (.tail _ (.head _)))).1
      refine hR _ _ ⟨mc, ?_, fun h'' e2 => ?_⟩
      · obtain ⟨o, es, ep, h1, r⟩ := hns'
        rw [hoC'] at h1; obtain rfl := Option.some.inj h1
        exact ⟨oC', es, ep, (Na _ (.tail _ (.head _))).1, r⟩
      · refine hQ D h'' _ accs qs tl k (fr_of_but Fa hC0 hLCI.2.2 fun b o hb q => e2.extBut b o hb q) (fun q hq => ?_) hap' hnd' (fun p hp => (hoff' p hp).2.1) (fun p hp => (hoff p hp).2.1) hP (by rw [hal, hvs]; simp)
        rcases List.mem_cons.mp hq with rfl | hq
        · exact ⟨e2.extBut _ _ hCD.symm (Na _ (.head _)).1, (Na _ (.head _)).2⟩
        · have z := Na q (.tail _ (.tail _ hq))
          exact ⟨e2.extBut _ _ (hoffA q hq).2.2 z.1, z.2⟩
    | cons v rest =>
      obtain ⟨n, tn, nr', rfl, rfl, hIr'⟩ := ints_cons hIr
      refine wpAny_pyNext_list_item hit' (hax _ Nn) (x := .int n tn) (by rw [hvs]; simp) fun h2 i2 e2 => ?_
      refine wpAny_assign_Name (wpAny_storeName_local (m := mc) hx (?_) (fun h3 hn3 hs3 => ?_) (by simp [compEnv, hkind]))
      · obtain ⟨o, es, ep, h1, r⟩ := hns'
        exact ⟨o, es, ep, e2.extBut _ _ hCI h1, r⟩
      have e3 : ∀ b o, b ≠ I → b ≠ C → h.get? b = some o → h3.get? b = some o := fun b o n1 n2 q => hs3.extBut _ _ n2 (e2.extBut _ _ n1 q)
      have F3' := fr_of_but2 F' hI0 hC0 hLCI.1 hLCI.2.2 e3
      obtain ⟨oi2, hoi2, hc2, hd2⟩ := i2
      obtain ⟨oC3, esC, epC, hoC3, rC⟩ := id hn3
      have N3' : News h₀ L h3 ([] ++ ((I, oi2) :: (D, W.listOf accs.toArray k) :: (C, oC3) :: (tl ++ news))) := fun q hq => by
        rcases List.mem_cons.mp hq with rfl | hq
        · exact ⟨hs3.extBut _ _ hCI.symm hoi2, hLCI.1, hI0⟩
        rcases List.mem_cons.mp hq with rfl | hq
        · exact ⟨e3 _ _ hDI hCD.symm (N' _ (.tail _ (.head _))).1, (N' _ (.tail _ (.head _))).2⟩
        rcases List.mem_cons.mp hq with rfl | hq
        · exact ⟨hoC3, hLCI.2.2, hC0⟩
        · have z := N' q (.tail _ (.tail _ (.tail _ hq)))
          exact ⟨e3 _ _ (hoffA q hq).1 (hoffA q hq).2.2 z.1, z.2⟩
      refine wpAny_Call_ofName (Calls.Name_function_global hkind hf (Calls.loadGlobal_global (mg := mg) (T.g.keeps F3'.keep) (mg_of X T.g (by k_is)) ?_))
      refine callWith_K X (by k_is) ?_
      walk1
      refine wpAny_Name (wpAny_loadName_local (env := compEnv scope C (envX cn cs L a ccd cl)) hkind hx hn3 (if_pos rfl) ?_)
      iterate 3 (first | walk1 | (dsimp only; walk1) | skip)
      refine Spec.useX (law_part_spec (hnr n (.head _))) hh hA rfl hck B F3' X T N3' (fun _ _ _ hq => nomatch hq) hdp hun (fun v h' tk' led' F9 N9 hap9 o9 => ?_)
      obtain ⟨ta, ob, q, rfl, rfl, hqok, hPA⟩ := o9
      have hta : ∀ p ∈ (I, oi2) :: (D, W.listOf accs.toArray k) :: (C, oC3) :: (tl ++ news), p.1 ≠ ta := fun p hp => hap9 p hp _ (.head _)
      have htI : ta ≠ I := (hta _ (.head _)).symm
      have htD : ta ≠ D := (hta _ (.tail _ (.head _))).symm
      have htC : ta ≠ C := (hta _ (.tail _ (.tail _ (.head _)))).symm
      have gI := (N9 (I, oi2) (.tail _ (.head _))).1
      have gD := (N9 (D, W.listOf accs.toArray k) (.tail _ (.tail _ (.head _)))).1
      have gC := (N9 (C, oC3) (.tail _ (.tail _ (.tail _ (.head _))))).1
      refine wpAny_list_append_plain ⟨k, gD⟩ (fun h'' pl hs'' => ?_) (by rw [List.size_toArray, hal]; rw [hvs] at hlen; simp at hlen; unfold sizeLine; omega)
      obtain ⟨k', gD'⟩ := pl
      rw [List.push_toArray] at gD'
      have F10 := fr_of_but F9 hD0 hLCI.2.1 fun b o hb e => hs''.extBut b o hb e
      refine ⟨rest.length, by simp, dn ++ [.int n tn], rest, nr', accs ++ [.ref ta], qs ++ [q], (ta, ob) :: tl, oi2, k', oC3, (fun x => if x = Str.ofString "number" then some (Value.int n tn) else mc x), h'', _, rfl, by rw [hvs]; simp, rfl, hIr', fun n hn => hnr n (.tail _ hn), by simp [hal], PartsL.app (hP.mono fun p hp => .tail _ hp) (.cons (.head _) hPA hqok .nil), F10, fun q hq => ?_, ⟨oi2, hs''.extBut _ _ hDI.symm gI, hc2, ?_⟩, ?_, fun q hq => ?_, ?_, ?_⟩
      · rcases List.mem_cons.mp hq with rfl | hq
        · exact ⟨hs''.extBut _ _ hDI.symm gI, hLCI.1, hI0⟩
        rcases List.mem_cons.mp hq with rfl | hq
        · exact ⟨gD', hLCI.2.1, hD0⟩
        rcases List.mem_cons.mp hq with rfl | hq
        · exact ⟨hs''.extBut _ _ hCD gC, hLCI.2.2, hC0⟩
        rcases List.mem_cons.mp hq with rfl | hq
        · exact ⟨hs''.extBut _ _ htD (N9 _ (.head _)).1, (N9 _ (.head _)).2⟩
        · have z := N9 q (.tail _ (.tail _ (.tail _ (.tail _ hq))))
          exact ⟨hs''.extBut _ _ (hoffA q hq).2.1 z.1, z.2⟩
      · rw [List.length_append, List.length_singleton]; exact hd2
      · exact ⟨oC3, esC, epC, hs''.extBut _ _ hCD gC, rC⟩
      · rcases List.mem_cons.mp hq with rfl | hq
        · exact ⟨htI, htD, htC⟩
        · exact hoff' q hq
      · refine List.nodup_cons.mpr ⟨fun hm => ?_, hnd'⟩
        obtain ⟨p, hp, e⟩ := List.mem_map.mp hm
        exact hta p (.tail _ (.tail _ (.tail _ (List.mem_append_left _ hp)))) e
      · intro p hp p' hp'
        rcases List.mem_cons.mp hp with rfl | hp
        · exact (hta p' (.tail _ (.tail _ (.tail _ (List.mem_append_right _ hp'))))).symm
        · exact hap' p hp p' hp'
  exact codeAny_compStart_list (loop _ (fun _ _ h => h) _ rfl) (wpAny_pyIter_listiter hit (loop _ (fun _ _ h => h) _ rfl))
end Mine
namespace Mine

theorem Flight.frames {h₁ h : Heap} {l : List Env} {led : List (Addr × Obj)} {e : Addr} {c : Str} {fl : Value} (x : Flight h₁ l led e c fl h) : (∀ b o, h₁.get? b = some o → b ∉ l.filterMap (·.frame) → h.get? b = some o) ∧ (∀ q ∈ led, h.get? q.1 = some q.2 ∧ h₁.get? q.1 = none) ∧ h₁.UpToSlots h ∧ h₁.get? e = none ∧
    ∃ dx vs od t, h.get? e = some (excV dx vs) ∧ h.get? dx = some od ∧ (∀ h : Heap, h.get? dx = some od → ∃ mA, h.Ns dx mA ∧ mA (Str.ofString "code") = some (.str c t)) ∧ ∀ b ∈ l.filterMap (·.frame), b ≠ dx ∧ b ≠ e ∧ ∀ q ∈ led, q.1 ≠ b := by
  obtain ⟨B, dx, od, t, k1, k2, k3, k4, k5, k6, k7⟩ := x
  obtain ⟨b1, b2, b3, vs, T, oT, ts, b4, b5⟩ := k3
  refine ⟨fun b o hb hn => b1 _ _ (k1 b o hb hn), fun q hq => ⟨b1 _ _ (k2 q hq).1, (k2 q hq).2⟩, k7, k6, dx, vs, od, t, b4, b1 _ _ k4, k5, fun b hb => ?_⟩
  obtain ⟨z1, o', z2, z3⟩ := b3.mem hb
  refine ⟨fun z => ?_, fun z => ?_, fun q hq z => ?_⟩
  · rw [z, k4] at z1; cases z1
  · rw [z, b4] at z2; injection z2 with z2; subst z2; exact z3 vs rfl
  · rw [← z, (k2 q hq).1] at z1; cases z1


theorem catchX {w : World} {A : Around} {s : Shared} {h₀ : Heap} {outer : List Env} {led : List (Addr × Obj)} {e L a : Addr} {c n : Str} {m : Str → Option Value} {mean : ExcName → Option Value} {mg mb : Str → Option Value} {cn : Str} {cs : Scope} {ccd : Value} {cl : List (Str × Addr)} {Q : Flow → Shared → Prop} {E : Value → Shared → Prop} {np pos : Pos} {b₀ : Stmt} {suite : List Stmt} {rest : List ExceptHandler}
    (hfr : A.frames = some (envX cn cs L a ccd cl :: outer)) (x : Flight h₀ (envX cn cs L a ccd cl :: outer) led e c .none s.heap) (hns : s.heap.Ns L m) (X : (hd01.heap_39 w.params).In h₀) (T : TopW' mean mg mb h₀)
    (hn : ∀ b o, h₀.get? b = some o → b ∉ (envX cn cs L a ccd cl :: outer).filterMap (·.frame)) (hab : h₀.objs.size ≤ L)
    (k : ∀ h₅ h' tk E', Flight h₀ (envX cn cs L a ccd cl :: outer) led e c .none h₅ → Fr h₀ L h' (fun y => if y = n then some (.ref e) else m y) → (∀ b o, b ≠ L → h₅.get? b = some o → h'.get? b = some o) →
      wpAny (model PROG w) (A.mark (some (.ref e))) (execs (b₀ :: suite) (envX cn cs L a ccd cl)) (fun f s₄ => wpAny (model PROG w) A (do bindName (envX cn cs L a ccd cl) n .none; unbindBehindTheSuite (envX cn cs L a ccd cl) n pos) (fun _ s₅ => Q f s₅) E s₄) E' { s with heap := h', toks := tk })
    (hk : cs.kind = .function) (hlo : (envX cn cs L a ccd cl).kindOf n = some .local) (hx : (envX cn cs L a ccd cl).kindOf "BasicError" = some .globalImplicit) :
    wpAny (model PROG w) A (noteFrame (.ref e) (envX cn cs L a ccd cl)) (fun _ s₂ => wpAny (model PROG w) A (setFlight (.ref e) none) (fun _ s₃ => wpAny (model PROG w) A (handleBy (.ref e) (envX cn cs L a ccd cl) (.ExceptHandler (some (.Name (Str.ofString "BasicError") np)) (some n) (b₀ :: suite) pos :: rest)) Q E s₃) E s₂) E s := by
  refine x.note hfr rfl fun h₃ x3 u3 => x3.set (fr := none) fun h₄ x4 u4 => ?_
  have ns4 := u4.ns (u3.ns hns)
  obtain ⟨y1, y2, y3, y4, dx, vs, od, t, y5, y6, y7, y8⟩ := x4.frames
  have F4 : Fr h₀ L h₄ m := ⟨ns4, fun b o hb => y1 b o hb (hn b o hb), hab⟩
  refine wpAny_handleBy_cons (codeAny_handlers_test (nameX_K F4 X (topRead_of T) (by k_is) ?_ hk hx)) (by intro q; cases q)
  obtain ⟨nm, q, bs, dd, k0, k1, k2, k3, k5, mN, hC, hNs, n1, n2, n3, n4, n5, n6⟩ := excClass (X.keeps F4.keep)
  refine wpAny_excMatches_sub_self hC y5 rfl (by decide +kernel) (codeAny_handlers_suite_as ?_)
  refine x4.set (fr := none) fun h₅ x5 u5 => ?_
  have ns5 := u5.ns ns4
  obtain ⟨y1, y2, y3, y4, dx, vs, od, t, y5, y6, y7, y8⟩ := x5.frames
  have F5 : Fr h₀ L h₅ m := ⟨ns5, fun b o hb => y1 b o hb (hn b o hb), hab⟩
  refine wpAny_storeName_local hlo F5.ns (fun h' hn' hs' => ?_) (by show (cs.kind == .class || (cs.kind == .module && L != mainGlobals)) = false; rw [hk]; rfl)
  exact k h₅ h' _ _ x5 (F5.set hn' hs') fun b o hb e => hs'.extBut b o hb e

section
variable {prog : Program} {w : World} {A : Around} {E : Value → Shared → Prop} {s : Shared}
inductive RI (s : Shared) (h₀ : Heap) (L it : Addr) (n : Nat) (P : Nat → (Str → Option Value) → List (Addr × Obj) → Prop) (k : Nat) (s' : Shared) : Prop where
  | mk (i : Nat) (m' : Str → Option Value) (news' : List (Addr × Obj)) (h : Heap) (tk : Nat) (oi : Obj) (e : s' = { s with heap := h, toks := tk }) (hi : i ≤ n) (hk : k = n - i) (hne : ∀ q ∈ news', q.1 ≠ it) (hP : P i m' news') (F : Fr h₀ L h m') (N : News h₀ L h (news' ++ [(it, oi)])) (hst : IsRangeIter h it (0 + (i : Nat) * 1) ((n : Int) - (i : Nat)) 1)
theorem loop_range {R : Result → Shared → Prop} {target : Expr} {body : List Stmt} {env : Env} {r : Addr} {n : Nat} {t u v : Tok} {h₀ : Heap} {m : Str → Option Value} {news : List (Addr × Obj)}
    (P : Nat → (Str → Option Value) → List (Addr × Obj) → Prop) (hh : A.handled = none) (F : Fr h₀ env.locals s.heap m) (N : News h₀ env.locals s.heap news) (hr : IsRange s.heap r 0 (n : Int) 1 t u v) (hn : n ≤ 1000) (h0 : P 0 m news)
    (step : ∀ it oi (i : Nat) u m' news' h tk, i < n → (∀ q ∈ news', q.1 ≠ it) → P i m' news' → Fr h₀ env.locals h m' → News h₀ env.locals h (news' ++ [(it, oi)]) →
      wpAny (model prog w) A (assign target env (.int (i : Int) u)) (fun _ s₂ => wpAny (model prog w) A (execs body env) (fun f s₃ => match f with
          | .next | .cont => LNext s h₀ env.locals it oi (P (i + 1)) s₃
          | .brk => R (.ok .next) s₃
          | .ret v => R (.ok (.ret v)) s₃) (notedBy (model prog w) A env fun e s' => R (.error e) s') s₂) (notedBy (model prog w) A env fun e s' => R (.error e) s') { s with heap := h, toks := tk })
    (fin : ∀ m' news' h tk, P n m' news' → Fr h₀ env.locals h m' → News h₀ env.locals h news' → R (.ok .next) { s with heap := h, toks := tk })
    (ht : ∀ it v, letOwnedTupleGo target (.ref it) v = pure () := by intro _ _; rfl) :
    wpAny (model prog w) A (pyIter (.ref r)) (fun it s₂ => codeAny (model prog w) A (.forLoop target it body [] env) R s₂) E s := by
  have hrs : Builtin.Range.rangeSize 0 (n : Int) 1 = (n : Int) := by
    unfold Builtin.Range.rangeSize
    rw [if_pos (by decide)]
    split
    · rw [Int.ediv_one]; omega
    · omega
  have hsm : Builtin.Range.small 0 (n : Int) 1 = true := by
    unfold Builtin.Range.small
    rw [hrs, if_pos (by decide)]
    simp only [Builtin.Range.rangeFitsLong, Bool.and_eq_true, Bool.or_eq_true, decide_eq_true_eq]
    refine ⟨⟨⟨⟨?_, ?_⟩, ?_⟩, ?_⟩, .inr ?_⟩ <;> (try constructor) <;> omega
  refine wpAny_pyIter_range hr hsm ?_
  rw [hrs]
  have hfr := next_is_new F
  have hLt := F.ns.lt
  have F1 := F.push { cls := .type "range_iterator", data := .fields #[rawInt 0, rawInt (n : Int), rawInt 1] }
  have NP := News.push F N { cls := .type "range_iterator", data := .fields #[rawInt 0, rawInt (n : Int), rawInt 1] }
  have N1 : News h₀ env.locals (s.heap.push { cls := .type "range_iterator", data := .fields #[rawInt 0, rawInt (n : Int), rawInt 1] }) (news ++ [(s.heap.objs.size, { cls := .type "range_iterator", data := .fields #[rawInt 0, rawInt (n : Int), rawInt 1] })]) := fun q hq => by
    rcases List.mem_append.mp hq with hq | hq
    · exact NP q (List.mem_cons_of_mem _ hq)
    · obtain rfl := List.mem_singleton.mp hq
      exact NP _ List.mem_cons_self
  have hI1 : IsRangeIter (s.heap.push { cls := .type "range_iterator", data := .fields #[rawInt 0, rawInt (n : Int), rawInt 1] }) s.heap.objs.size (0 + ((0 : Nat) : Int) * 1) ((n : Int) - ((0 : Nat) : Int)) 1 := by
    show _ = _
    simpa using Heap.get?_push_size _ rfl
  have hne1 : ∀ q ∈ news, q.1 ≠ s.heap.objs.size := fun q hq => Nat.ne_of_lt (Heap.lt_size (N q hq).1)
  have hLne : s.heap.objs.size ≠ env.locals := Nat.ne_of_gt hLt
  clear NP
  generalize hit : s.heap.objs.size = it at *
  refine codeAny_forLoop (RI s h₀ env.locals it n P) (fun k s' hI => ?_) n ⟨0, m, news, _, s.toks, _, rfl, Nat.zero_le _, rfl, hne1, h0, F1, N1, hI1⟩ (ht it)
  obtain ⟨i, m', news', h, tk, oi, rfl, hi, rfl, hne, hP, F', N', hI⟩ := hI
  have N'' : News h₀ env.locals h news' := fun q hq => N' q (List.mem_append_left _ hq)
  by_cases hlt : i < n
  · refine (Walks.range hh it 0 1 n).item i _ _ _ hlt hI fun v h' tk' hv hI' e => ?_
    obtain ⟨u, rfl⟩ := hv
    rw [Int.mul_one, Int.zero_add]
    have F2 := fr_of_but F' hfr hLne fun b o hb q => e b o (by simpa using hb) q
    have ho' := hI'
    have N2 : News h₀ env.locals h' (news' ++ [(it, _)]) := fun q hq => by
      rcases List.mem_append.mp hq with hq | hq
      · exact ⟨e _ _ (by simpa using hne q hq) (N'' q hq).1, (N'' q hq).2⟩
      · obtain rfl := List.mem_singleton.mp hq
        exact ⟨ho', hLne, hfr⟩
    refine wpAny_mono (step it _ i u m' news' h' tk' hlt hne hP F2 N2) (fun _ s₂ hs₂ => wpAny_mono hs₂ (fun f s₃ hf => ?_) fun _ _ x => x) fun _ _ x => x
    cases f with
    | next =>
      obtain ⟨m₃, news₃, h₃, tk₃, rfl, F₃, N₃, hP₃, hne₃⟩ := hf
      exact ⟨n - (i + 1), by omega, i + 1, m₃, news₃, h₃, tk₃, _, rfl, hlt, rfl, hne₃, hP₃, F₃, N₃, (N₃ (it, _) (by simp)).1⟩
    | cont =>
      obtain ⟨m₃, news₃, h₃, tk₃, rfl, F₃, N₃, hP₃, hne₃⟩ := hf
      exact ⟨n - (i + 1), by omega, i + 1, m₃, news₃, h₃, tk₃, _, rfl, hlt, rfl, hne₃, hP₃, F₃, N₃, (N₃ (it, _) (by simp)).1⟩
    | brk => exact hf
    | ret v => exact hf
  · obtain rfl : i = n := by omega
    refine (Walks.range hh it 0 1 i).done _ _ _ hI fun h' tk' e => ?_
    exact wpAny_execs_nil (fin m' news' h' tk' hP (fr_of_but F' hfr hLne fun b o hb q => e b o (by simpa using hb) q) fun q hq => ⟨e _ _ (by simpa using hne q hq) (N'' q hq).1, (N'' q hq).2⟩)
end
section
variable {prog : Program} {w : World} {A : Around} {E : Value → Shared → Prop} {s : Shared} {h₀ : Heap} {L l a b : Addr} {m : Str → Option Value} {news : List (Addr × Obj)}
theorem len_own {vs : List Value} {n : Nat} {Q : Value → Shared → Prop} (hl : s.heap.IsList l vs.toArray) (hk : vs.length = n) (hz : n ≤ 16384) (h : Q (.int (n : Int) (s.toks + 1)) { s with toks := s.toks + 1 + 1 }) :
    wpAny (model prog w) A (call (.builtin "len") [.ref l]) Q E s := kun_lenL hl (by rw [List.size_toArray, hk]) (by omega) h
theorem pick_mid (vs : List Value) {x y : Int} (hx : 0 ≤ x) (h0 : 0 ≤ y) : slicePick vs.toArray (some x) (some y) none = ((vs.take y.toNat).drop x.toNat).toArray := by
  have e : sliceBounds (some x) (some y) none vs.toArray.size = (((min x.toNat vs.toArray.size : Nat) : Int), ((min y.toNat vs.toArray.size : Nat) : Int), 1) := by
    simp only [sliceBounds, Option.getD_none, show (1 : Int) > 0 by decide, if_true, if_neg (show ¬ (x < 0) by omega), if_neg (show ¬ (y < 0) by omega)]
    congr 1
    · omega
    · congr 1
      omega
  rw [kmk_pick_nat _ e, List.size_toArray, kmk_drop_min, List.drop_take]
  congr 1
  by_cases h1 : y.toNat ≤ vs.length
  · by_cases h2 : x.toNat ≤ vs.length
    · rw [Nat.min_eq_left h1, Nat.min_eq_left h2]
    · rw [List.drop_of_length_le (by omega), List.take_nil, List.take_nil]
  · rw [Nat.min_eq_right (by omega)]
    by_cases h2 : x.toNat ≤ vs.length
    · rw [Nat.min_eq_left h2, List.take_of_length_le (by simp), List.take_of_length_le (by simp; omega)]
    · rw [List.drop_of_length_le (by omega), List.take_nil, List.take_nil]
theorem slice_own {value slice : PySem.Expr} {vs : List Value} {n : Nat} {x y : Int} {t1 t2 : Tok} {Q : Value → Shared → Prop} (F : Fr h₀ L s.heap m) (N : News h₀ L s.heap news) (hl : s.heap.IsList l vs.toArray) (hk : vs.length = n) (hn : n ≤ 16384) (hx : 0 ≤ x) (h0 : 0 ≤ y)
    (h : ∀ D h', Fr h₀ L h' m → News h₀ L h' ((D, W.listOf ((vs.take y.toNat).drop x.toNat).toArray 0) :: news) → (∀ p ∈ news, p.1 < D) → Q (.ref D) { s with heap := h' })
    (hs : subscripted slice false (.ref l) (.ref s.heap.objs.size) = operate [.ref s.heap.objs.size, .ref l] (getItem (.ref l) (.ref s.heap.objs.size))) (ht : ∀ r, letTemporaryGo value (.ref l) r = pure ()) :
    wpAny (model prog w) A (subscriptTail value slice (.ref l) (.ref s.heap.objs.size)) Q E { s with heap := s.heap.push { cls := .type "slice", data := .fields #[.int x t1, .int y t2, .none] } } := by
  refine kmk_slice F N hl (.int _ _) (.int _ _) (fun D h' F' N' l1 => h D h' F' ?_ l1) hs ht (by rw [List.size_toArray]; unfold sizeLine; omega)
  rw [pick_mid vs hx h0] at N'
  exact N'
end
end Mine
namespace Mine
theorem execs_mid2 {M : Model} {A : Around} {E : Value → Shared → Prop} {s : Shared} {env : Env} {st1 st2 : Stmt} {rest : List Stmt} {Q : Flow → Shared → Prop} (Mid : Shared → Prop)
    (h1 : wpAny M A (exec st1 env) (fun f s' => f = .next ∧ wpAny M A (exec st2 env) (fun f s'' => f = .next ∧ Mid s'') E s') E s) (h2 : ∀ s', Mid s' → wpAny M A (execs rest env) Q E s') : wpAny M A (execs (st1 :: st2 :: rest) env) Q E s :=
  execs_mid (fun s' => wpAny M A (exec st2 env) (fun f s'' => f = .next ∧ Mid s'') E s') h1 fun s' h => execs_mid Mid h h2
inductive M2 (h₀ : Heap) (L : Addr) (s s' : Shared) : Prop where
  | mk (m0 : Str → Option Value) (h : Heap) (tk : Nat) (D : Addr) (vs : List Value) (ns : List Int) (k : Nat) (width zone : Int) (tw tz : Tok) (oc : Obj) (vc : Option Value) (e : s' = { s with heap := h, toks := tk }) (F : Fr h₀ L h (fun y => if y = Str.ofString "width" then some (.int width tw) else if y = Str.ofString "zone" then some (.int zone tz) else if y = Str.ofString "some" then some (.ref D) else m0 y)) (N : News h₀ L h [(D, W.listOf (List.toArray vs) k), (L + 1, oc)]) (hoc : oc.data = .cell vc) (hD : @LT.lt Nat _ (L + 1) D) (hI : IntsAre vs ns) (hn0 : ∀ n ∈ ns, 0 ≤ n) (hl0 : 1 ≤ ns.length) (hl1 : ns.length ≤ 15) (hw0 : 0 ≤ width) (hw1 : width ≤ 100) (hz0 : 2 ≤ zone) (hz1 : zone ≤ 9)
theorem stage12 {M : Model} {A : Around} {E : Value → Shared → Prop} {s : Shared} {env : Env} {st1 st2 : Stmt} {rest : List Stmt} {Q : Flow → Shared → Prop} {h₀ : Heap} {L : Addr} {m0 : Str → Option Value} (F0 : Fr h₀ L s.heap m0)
    (h1 : ∀ E : Value → Shared → Prop, wpAny M A (exec st1 env) (fun f s' => f = .next ∧ wpAny M A (exec st2 env) (fun f s'' => f = .next ∧ M2 h₀ L s s'') E s') E s) (h2 : ∀ s', M2 h₀ L s s' → wpAny M A (execs rest env) Q E s') : wpAny M A (execs (st1 :: st2 :: rest) env) Q E s := execs_mid2 (M2 h₀ L s) (h1 _) h2
theorem b7 (x : Int) : 2 ≤ 3 + x.fmod 7 ∧ 3 + x.fmod 7 ≤ 9 := by
  have z1 := Int.fmod_nonneg_of_pos x (b := 7) (by decide)
  have z2 := Int.fmod_lt_of_pos x (b := 7) (by decide)
  omega
theorem b26 (x : Int) : 0 ≤ 5 + x.fmod 26 ∧ 5 + x.fmod 26 ≤ 100 := by
  have z1 := Int.fmod_nonneg_of_pos x (b := 26) (by decide)
  have z2 := Int.fmod_lt_of_pos x (b := 26) (by decide)
  omega
theorem some_ok {ws : List Value} {l : List Int} {x : Int} (hI : IntsAre ws (List.map (fun k' : Int => if k' < 0 then -k' else k') (List.take 14 l) ++ [x])) (hx : 0 ≤ x) : (∀ n ∈ List.map (fun k' : Int => if k' < 0 then -k' else k') (List.take 14 l) ++ [x], (0 : Int) ≤ n) ∧ 1 ≤ (List.map (fun k' : Int => if k' < 0 then -k' else k') (List.take 14 l) ++ [x]).length ∧ (List.map (fun k' : Int => if k' < 0 then -k' else k') (List.take 14 l) ++ [x]).length ≤ 15 := by
  refine ⟨fun n hn => ?_, ?_, ?_⟩
  · rcases List.mem_append.mp hn with hn | hn
    · obtain ⟨z, _, rfl⟩ := List.mem_map.mp hn
      split <;> omega
    · simp at hn
      omega
  · simp
  · simp; omega
theorem news_37 {h₀ h : Heap} {L : Addr} {x1 x2 x3 x4 x5 x6 x7 : Addr × Obj} (N : News h₀ L h [x1, x2, x3, x4, x5, x6, x7]) : News h₀ L h [x3, x7] := fun q hq => by
  rcases List.mem_cons.mp hq with rfl | hq
  · exact N _ (.tail _ (.tail _ (.head _)))
  obtain rfl := List.mem_singleton.mp hq
  exact N _ (.tail _ (.tail _ (.tail _ (.tail _ (.tail _ (.tail _ (.head _)))))))
inductive M3 (w : World) (h₀ : Heap) (L : Addr) (m0 : Str → Option Value) (s s' : Shared) : Prop where
  | mk (h : Heap) (tk : Nat) (D : Addr) (vs : List Value) (ns : List Int) (k : Nat) (width zone : Int) (tw tz : Tok) (oc : Obj) (vc : Option Value) (p d o q r : Nat) (a1 a2 t tq : Tok) (ko kq kr : Nat) (e : s' = { s with heap := h, toks := tk }) (F : Fr h₀ L h (fun y => if y = Str.ofString "page" then some (.ref p) else if y = Str.ofString "mine" then some (.ref q) else if y = Str.ofString "width" then some (.int width tw) else if y = Str.ofString "zone" then some (.int zone tz) else if y = Str.ofString "some" then some (.ref D) else m0 y))
    (N : News h₀ L h ((L + 1, oc) :: (pgLed w p d o a1 a2 t (Str.ofString "") #[] ko ++ (mnLed q r (Str.ofString "") tq #[] kq kr ++ [(D, W.listOf (List.toArray vs) k)])))) (hoc : oc.data = .cell vc) (ord : @LT.lt Nat _ (L + 1) D ∧ @LT.lt Nat _ D d ∧ d < p ∧ p < o ∧ o < r ∧ r < q) (hI : IntsAre vs ns) (hn0 : ∀ n ∈ ns, 0 ≤ n) (hl0 : 1 ≤ ns.length) (hl1 : ns.length ≤ 15) (hw0 : 0 ≤ width) (hw1 : width ≤ 100) (hz0 : 2 ≤ zone) (hz1 : zone ≤ 9)
theorem stage3 {w : World} {A : Around} {E : Value → Shared → Prop} {s2 : Shared} {env : Env} {st1 : Stmt} {rest : List Stmt} {Q : Flow → Shared → Prop} {h₀ : Heap} {L D : Addr} {m0 : Str → Option Value} {width zone : Int} {tw tz : Tok} (F2 : Fr h₀ L s2.heap (fun y => if y = Str.ofString "width" then some (.int width tw) else if y = Str.ofString "zone" then some (.int zone tz) else if y = Str.ofString "some" then some (.ref D) else m0 y))
    (h1 : ∀ E : Value → Shared → Prop, wpAny (model PROG w) A (exec st1 env) (fun f s' => f = .next ∧ M3 w h₀ L m0 s2 s') E s2) (h2 : ∀ s', M3 w h₀ L m0 s2 s' → wpAny (model PROG w) A (execs rest env) Q E s') : wpAny (model PROG w) A (execs (st1 :: rest) env) Q E s2 := execs_mid (M3 w h₀ L m0 s2) (h1 _) h2

theorem reorder8 {h₀ h : Heap} {L : Addr} {x1 q r o p d D c : Addr × Obj} (N : News h₀ L h [x1, q, r, o, p, d, D, c]) : News h₀ L h (c :: p :: d :: o :: q :: r :: [D]) := fun y hy => N y (by
  simp only [List.mem_cons, List.not_mem_nil, or_false] at hy ⊢
  rcases hy with h | h | h | h | h | h | h <;> simp [h])
inductive M4 (w : World) (h₀ : Heap) (L : Addr) (m0 : Str → Option Value) (s s' : Shared) : Prop where
  | mk (h : Heap) (tk : Nat) (width zone : Int) (tw tz : Tok) (oc : Obj) (PL : Addr) (pvs : List Value) (qs : List Part) (tl : List (Addr × Obj)) (kp : Nat) (p d o q r : Nat) (a1 a2 t tq : Tok) (ko kq kr : Nat) (m1 : Str → Option Value) (e : s' = { s with heap := h, toks := tk }) (F : Fr h₀ L h (fun y => if y = Str.ofString "page" then some (.ref p) else if y = Str.ofString "mine" then some (.ref q) else if y = Str.ofString "width" then some (.int width tw) else if y = Str.ofString "zone" then some (.int zone tz) else m1 y))
    (N : News h₀ L h ((L + 1, oc) :: (PL, W.listOf pvs.toArray kp) :: (pgLed w p d o a1 a2 t (Str.ofString "") #[] ko ++ (mnLed q r (Str.ofString "") tq #[] kq kr ++ tl)))) (hoc : oc.data = .cell (some (.ref PL))) (ord : d < p ∧ p < o ∧ o < r ∧ r < q)
    (hpg : ∀ x ∈ (L + 1, oc) :: (PL, W.listOf pvs.toArray kp) :: tl, @Ne Nat x.1 p ∧ @Ne Nat x.1 d ∧ @Ne Nat x.1 o) (hmn : ∀ x ∈ (L + 1, oc) :: (PL, W.listOf pvs.toArray kp) :: tl, @Ne Nat x.1 q ∧ @Ne Nat x.1 r)
    (hp : PartsL tl pvs qs) (hlen : pvs.length ≤ 14) (hw0 : 0 ≤ width) (hw1 : width ≤ 100) (hz0 : 2 ≤ zone) (hz1 : zone ≤ 9)
theorem stage4 {w : World} {A : Around} {E : Value → Shared → Prop} {s2 : Shared} {env : Env} {st1 : Stmt} {rest : List Stmt} {Q : Flow → Shared → Prop} {h₀ : Heap} {L D : Addr} {p q : Nat} {m0 : Str → Option Value} {width zone : Int} {tw tz : Tok} (F2 : Fr h₀ L s2.heap (fun y => if y = Str.ofString "page" then some (.ref p) else if y = Str.ofString "mine" then some (.ref q) else if y = Str.ofString "width" then some (.int width tw) else if y = Str.ofString "zone" then some (.int zone tz) else if y = Str.ofString "some" then some (.ref D) else m0 y))
    (h1 : ∀ E : Value → Shared → Prop, wpAny (model PROG w) A (exec st1 env) (fun f s' => f = .next ∧ M4 w h₀ L m0 s2 s') E s2) (h2 : ∀ s', M4 w h₀ L m0 s2 s' → wpAny (model PROG w) A (execs rest env) Q E s') : wpAny (model PROG w) A (execs (st1 :: rest) env) Q E s2 := execs_mid (M4 w h₀ L m0 s2) (h1 _) h2

theorem store_cell {M : Model} {A : Around} {E : Value → Shared → Prop} {s : Shared} {h₀ : Heap} {L a : Addr} {cn : Str} {cs : Scope} {ccd : Value} {cl : List (Str × Addr)} {m : Str → Option Value} {y : Str} {ca : Addr} {oc : Obj} {vc : Option Value} {v : Value} {led : List (Addr × Obj)} {Q : Unit → Shared → Prop}
    (F : Fr h₀ L s.heap m) (N : News h₀ L s.heap led) (hcm : (ca, oc) ∈ led) (hoc : oc.data = .cell vc) (hck : cs.kind = .function) (hy : (envX cn cs L a ccd cl).kindOf y = some .cell) (hyc : cl.lookup y = some ca)
    (h : ∀ h' oc', Fr h₀ L h' m → (∀ p ∈ led, p.1 ≠ ca → h'.get? p.1 = some p.2 ∧ p.1 ≠ L ∧ h₀.get? p.1 = none) → (h'.get? ca = some oc' ∧ ca ≠ L ∧ h₀.get? ca = none) → oc'.data = .cell (some v) → Q () { s with heap := h' }) : wpAny M A (storeName (envX cn cs L a ccd cl) y v) Q E s := by
  have Nc := N _ hcm
  refine wpAny_storeName_cell hck hy hyc ⟨oc, Nc.1, hoc⟩ fun h₂ hv₂ hs₂ => ?_
  obtain ⟨oc', hc', hd'⟩ := hv₂
  exact h h₂ oc' (fr_of_but F Nc.2.2 Nc.2.1 fun b o hb q => hs₂.extBut b o hb q) (fun p hp hne => ⟨hs₂.extBut _ _ hne (N p hp).1, (N p hp).2⟩) ⟨hc', Nc.2⟩ hd'

theorem M4_pack {w : World} {h₀ : Heap} {L : Addr} {m0 : Str → Option Value} {s : Shared} {h : Heap} {tk : Nat} {width zone : Int} {tw tz : Tok} {oc oc9 oD : Obj} {PL D : Addr} {accs : List Value} {qs : List Part} {tl : List (Addr × Obj)} {k : Nat} {p d o q r : Nat} {a1 a2 t tq : Tok} {ko kq kr : Nat} {X : Addr × Obj}
    (F : Fr h₀ L h (fun y => if y = Str.ofString "page" then some (.ref p) else if y = Str.ofString "mine" then some (.ref q) else if y = Str.ofString "width" then some (.int width tw) else if y = Str.ofString "zone" then some (.int zone tz) else if y = Str.ofString "some" then some (.ref D) else m0 y))
    (N : ∀ y ∈ (PL, W.listOf accs.toArray k) :: (tl ++ (X :: (L + 1, oc) :: (pgLed w p d o a1 a2 t (Str.ofString "") #[] ko ++ (mnLed q r (Str.ofString "") tq #[] kq kr ++ [(D, oD)])))), y.1 ≠ L + 1 → h.get? y.1 = some y.2 ∧ y.1 ≠ L ∧ h₀.get? y.1 = none)
    (Nc : h.get? (L + 1) = some oc9 ∧ L + 1 ≠ L ∧ h₀.get? (L + 1) = none) (hoc : oc9.data = .cell (some (.ref PL))) (ord : @LT.lt Nat _ (L + 1) D ∧ @LT.lt Nat _ D d ∧ d < p ∧ p < o ∧ o < r ∧ r < q)
    (hap : ∀ y ∈ tl, ∀ y' ∈ X :: (L + 1, oc) :: (pgLed w p d o a1 a2 t (Str.ofString "") #[] ko ++ (mnLed q r (Str.ofString "") tq #[] kq kr ++ [(D, oD)])), y.1 ≠ y'.1)
    (hnw : ∀ y' ∈ X :: (L + 1, oc) :: (pgLed w p d o a1 a2 t (Str.ofString "") #[] ko ++ (mnLed q r (Str.ofString "") tq #[] kq kr ++ [(D, oD)])), y'.1 ≠ PL)
    (hp : PartsL tl accs qs) (hlen : accs.length ≤ 14) (hw0 : 0 ≤ width) (hw1 : width ≤ 100) (hz0 : 2 ≤ zone) (hz1 : zone ≤ 9) : M4 w h₀ L m0 s { s with heap := h, toks := tk } := by
  obtain ⟨o1, o2, o3, o4, o5, o6⟩ := ord
  have mc : ∀ {P : Addr × Obj → Prop}, (∀ y' ∈ X :: (L + 1, oc) :: (pgLed w p d o a1 a2 t (Str.ofString "") #[] ko ++ (mnLed q r (Str.ofString "") tq #[] kq kr ++ [(D, oD)])), P y') → P (L + 1, oc) ∧ (∀ y ∈ pgLed w p d o a1 a2 t (Str.ofString "") #[] ko, P y) ∧ (∀ y ∈ mnLed q r (Str.ofString "") tq #[] kq kr, P y) := fun H =>
    ⟨H _ (.tail _ (.head _)), fun y hy => H _ (.tail _ (.tail _ (List.mem_append_left _ hy))), fun y hy => H _ (.tail _ (.tail _ (List.mem_append_right _ (List.mem_append_left _ hy))))⟩
  have lo : @LT.lt Nat _ (L + 1) d := Nat.lt_trans o1 o2
  have H1 := mc hnw
  have hmem : ∀ y, y ∈ tl ∨ y ∈ pgLed w p d o a1 a2 t (Str.ofString "") #[] ko ∨ y ∈ mnLed q r (Str.ofString "") tq #[] kq kr ∨ y = (PL, W.listOf accs.toArray k) → y.1 ≠ L + 1 → h.get? y.1 = some y.2 ∧ y.1 ≠ L ∧ h₀.get? y.1 = none := fun y hy => N y (by
    rcases hy with hy | hy | hy | rfl
    · exact .tail _ (List.mem_append_left _ hy)
    · exact .tail _ (List.mem_append_right _ (.tail _ (.tail _ (List.mem_append_left _ hy))))
    · exact .tail _ (List.mem_append_right _ (.tail _ (.tail _ (List.mem_append_right _ (List.mem_append_left _ hy)))))
    · exact .head _)
  have gd : @LT.lt Nat _ (L + 1) p := Nat.lt_trans lo o3
  have go : @LT.lt Nat _ (L + 1) o := Nat.lt_trans gd o4
  have gr : @LT.lt Nat _ (L + 1) r := Nat.lt_trans go o5
  have gq : @LT.lt Nat _ (L + 1) q := Nat.lt_trans gr o6
  have epg : ∀ y ∈ pgLed w p d o a1 a2 t (Str.ofString "") #[] ko, y.1 ≠ L + 1 := fun y hy => by
    rcases List.mem_cons.mp hy with rfl | hy
    · exact Nat.ne_of_gt gd
    rcases List.mem_cons.mp hy with rfl | hy
    · exact Nat.ne_of_gt lo
    obtain rfl := List.mem_singleton.mp hy
    exact Nat.ne_of_gt go
  have emn : ∀ y ∈ mnLed q r (Str.ofString "") tq #[] kq kr, y.1 ≠ L + 1 := fun y hy => by
    rcases List.mem_cons.mp hy with rfl | hy
    · exact Nat.ne_of_gt gq
    obtain rfl := List.mem_singleton.mp hy
    exact Nat.ne_of_gt gr
  refine ⟨h, tk, width, zone, tw, tz, oc9, PL, accs, qs, tl, k, p, d, o, q, r, a1, a2, t, tq, ko, kq, kr, _, rfl, F, fun y hy => ?_, hoc, ⟨o3, o4, o5, o6⟩, fun y hy => ?_, fun y hy => ?_, hp, hlen, hw0, hw1, hz0, hz1⟩
  · rcases List.mem_cons.mp hy with rfl | hy
    · exact Nc
    rcases List.mem_cons.mp hy with rfl | hy
    · exact hmem _ (.inr (.inr (.inr rfl))) (Ne.symm H1.1)
    rcases List.mem_append.mp hy with hy | hy
    · exact hmem y (.inr (.inl hy)) (epg y hy)
    rcases List.mem_append.mp hy with hy | hy
    · exact hmem y (.inr (.inr (.inl hy))) (emn y hy)
    · exact hmem y (.inl hy) (hap y hy _ (.tail _ (.head _)))
  · rcases List.mem_cons.mp hy with rfl | hy
    · exact ⟨Nat.ne_of_lt gd, Nat.ne_of_lt lo, Nat.ne_of_lt go⟩
    rcases List.mem_cons.mp hy with rfl | hy
    · exact ⟨Ne.symm (H1.2.1 _ (.head _)), Ne.symm (H1.2.1 _ (.tail _ (.head _))), Ne.symm (H1.2.1 _ (.tail _ (.tail _ (.head _))))⟩
    · have z := (mc (hap y hy)).2.1
      exact ⟨z _ (.head _), z _ (.tail _ (.head _)), z _ (.tail _ (.tail _ (.head _)))⟩
  · rcases List.mem_cons.mp hy with rfl | hy
    · exact ⟨Nat.ne_of_lt gq, Nat.ne_of_lt gr⟩
    rcases List.mem_cons.mp hy with rfl | hy
    · exact ⟨Ne.symm (H1.2.2 _ (.head _)), Ne.symm (H1.2.2 _ (.tail _ (.head _)))⟩
    · have z := (mc (hap y hy)).2.2
      exact ⟨z _ (.head _), z _ (.tail _ (.head _))⟩

theorem ints_mem {vs : List Value} {ns : List Int} (h : IntsAre vs ns) : ∀ v ∈ vs, ∃ n t, v = Value.int n t ∧ n ∈ ns := by
  induction vs generalizing ns with
  | nil => intro v hv; cases hv
  | cons v vs ih =>
    obtain ⟨n, t, r, rfl, rfl, h'⟩ := ints_cons h
    intro v hv
    rcases List.mem_cons.mp hv with rfl | hv
    · exact ⟨n, t, rfl, .head _⟩
    · obtain ⟨n', t', e, hm⟩ := ih h' v hv
      exact ⟨n', t', e, .tail _ hm⟩
theorem cuts_ok {ys : List Value} {m : Nat} (h : IntsAre ys (List.map (fun k' : Int => ((m : Int) * k').fdiv 3) (rangeKs 0 ((4 : Int) - 0).toNat))) (hm : m ≤ 14) : ys.length = 4 ∧ ∀ v ∈ ys, ∃ n t, v = Value.int n t ∧ 0 ≤ n ∧ n ≤ 20 := by
  have e : rangeKs 0 ((4 : Int) - 0).toNat = [0, 1, 2, 3] := by decide
  rw [e] at h
  refine ⟨by rw [h.length]; rfl, fun v hv => ?_⟩
  obtain ⟨n, t, rfl, hn⟩ := ints_mem h v hv
  refine ⟨n, t, rfl, ?_⟩
  simp only [List.map_cons, List.map_nil, List.mem_cons, List.not_mem_nil, or_false] at hn
  have k : ∀ z : Int, 0 ≤ z → z ≤ 60 → 0 ≤ z.fdiv 3 ∧ z.fdiv 3 ≤ 20 := fun z h0 h1 => by
    rw [Int.fdiv_eq_ediv_of_nonneg _ (by decide)]; omega
  rcases hn with rfl | rfl | rfl | rfl <;> exact k _ (by omega) (by omega)

set_option genInjectivity false in
set_option genSizeOf false in
structure C1 where
  (width zone : Int) (tw tz : Tok) (PL : Addr) (pvs : List Value) (qs : List Part) (tl : List (Addr × Obj)) (kp : Nat) (p d o q r : Nat) (a1 a2 : Tok) (CU : Addr) (cvs : List Value) (kc : Nat) (oc : Obj) (m1 : Str → Option Value)
def C1.rest (c : C1) (L : Addr) : List (Addr × Obj) := (c.CU, W.listOf c.cvs.toArray c.kc) :: (L + 1, c.oc) :: (c.PL, W.listOf c.pvs.toArray c.kp) :: c.tl
def C1.vars (c : C1) : Str → Option Value := fun y => if y = Str.ofString "cuts" then some (.ref c.CU) else if y = Str.ofString "page" then some (.ref c.p) else if y = Str.ofString "mine" then some (.ref c.q) else if y = Str.ofString "width" then some (.int c.width c.tw) else if y = Str.ofString "zone" then some (.int c.zone c.tz) else c.m1 y
structure C1.Ok (c : C1) (L : Addr) : Prop where
  (hoc : c.oc.data = .cell (some (.ref c.PL))) (ord : c.d < c.p ∧ c.p < c.o ∧ c.o < c.r ∧ c.r < c.q) (hpg : ∀ x ∈ c.rest L, @Ne Nat x.1 c.p ∧ @Ne Nat x.1 c.d ∧ @Ne Nat x.1 c.o) (hmn : ∀ x ∈ c.rest L, @Ne Nat x.1 c.q ∧ @Ne Nat x.1 c.r)
  (hp : PartsL c.tl c.pvs c.qs) (hlen : c.pvs.length ≤ 14) (hcl : c.cvs.length = 4) (hcv : ∀ v ∈ c.cvs, ∃ n t, v = Value.int n t ∧ 0 ≤ n ∧ n ≤ 20) (hw0 : 0 ≤ c.width) (hw1 : c.width ≤ 100) (hz0 : 2 ≤ c.zone) (hz1 : c.zone ≤ 9)
inductive C1.St (c : C1) (w : World) (h₀ : Heap) (L : Addr) (m : Str → Option Value) (S : PS) (h : Heap) : Prop where
  | mk (F : Fr h₀ L h m) (t tq : Tok) (its itq : Array Value) (k kq kr : Nat) (N : News h₀ L h (pgLed w c.p c.d c.o c.a1 c.a2 t S.2 its k ++ (mnLed c.q c.r S.2 tq itq kq kr ++ c.rest L))) (hS : StrsAre its.toList S.1) (hS' : StrsAre itq.toList S.1)
def PS0 : PS := ([], Str.ofString "")
inductive M5 (w : World) (h₀ : Heap) (L : Addr) (s s' : Shared) : Prop where
  | mk (h : Heap) (tk : Nat) (c : C1) (e : s' = { s with heap := h, toks := tk }) (ok : c.Ok L) (st : c.St w h₀ L c.vars PS0 h)
theorem stage5 {w : World} {A : Around} {E : Value → Shared → Prop} {s2 : Shared} {env : Env} {st1 : Stmt} {rest : List Stmt} {Q : Flow → Shared → Prop} {h₀ : Heap} {L : Addr} {m : Str → Option Value} (F2 : Fr h₀ L s2.heap m)
    (h1 : ∀ E : Value → Shared → Prop, wpAny (model PROG w) A (exec st1 env) (fun f s' => f = .next ∧ M5 w h₀ L s2 s') E s2) (h2 : ∀ s', M5 w h₀ L s2 s' → wpAny (model PROG w) A (execs rest env) Q E s') : wpAny (model PROG w) A (execs (st1 :: rest) env) Q E s2 := execs_mid (M5 w h₀ L s2) (h1 _) h2
theorem M5_pack {w : World} {h₀ : Heap} {L : Addr} {s : Shared} {h : Heap} {tk : Nat} {width zone : Int} {tw tz : Tok} {oc : Obj} {PL : Addr} {pvs : List Value} {qs : List Part} {tl : List (Addr × Obj)} {kp : Nat} {p d o q r : Nat} {a1 a2 t tq : Tok} {ko kq kr : Nat} {m1 : Str → Option Value} {CU : Addr} {ys : List Value}
    (F : Fr h₀ L h (fun z => if z = Str.ofString "cuts" then some (.ref CU) else (fun y => if y = Str.ofString "page" then some (.ref p) else if y = Str.ofString "mine" then some (.ref q) else if y = Str.ofString "width" then some (.int width tw) else if y = Str.ofString "zone" then some (.int zone tz) else m1 y) z))
    (N : News h₀ L h ((CU, LCg.lst ys) :: (L + 1, oc) :: (PL, W.listOf pvs.toArray kp) :: (pgLed w p d o a1 a2 t (Str.ofString "") #[] ko ++ (mnLed q r (Str.ofString "") tq #[] kq kr ++ tl)))) (hoc : oc.data = .cell (some (.ref PL))) (ord : d < p ∧ p < o ∧ o < r ∧ r < q)
    (hpg : ∀ x ∈ (L + 1, oc) :: (PL, W.listOf pvs.toArray kp) :: tl, @Ne Nat x.1 p ∧ @Ne Nat x.1 d ∧ @Ne Nat x.1 o) (hmn : ∀ x ∈ (L + 1, oc) :: (PL, W.listOf pvs.toArray kp) :: tl, @Ne Nat x.1 q ∧ @Ne Nat x.1 r)
    (off : (@Ne Nat p CU) ∧ (@Ne Nat d CU) ∧ (@Ne Nat o CU) ∧ (@Ne Nat q CU) ∧ (@Ne Nat r CU))
    (hp : PartsL tl pvs qs) (hlen : pvs.length ≤ 14) (hcu : ys.length = 4 ∧ ∀ v ∈ ys, ∃ n t, v = Value.int n t ∧ 0 ≤ n ∧ n ≤ 20) (hw0 : 0 ≤ width) (hw1 : width ≤ 100) (hz0 : 2 ≤ zone) (hz1 : zone ≤ 9) : M5 w h₀ L s { s with heap := h, toks := tk } := by
  refine ⟨h, tk, ⟨width, zone, tw, tz, PL, pvs, qs, tl, kp, p, d, o, q, r, a1, a2, CU, ys, ys.length, oc, m1⟩, rfl, ⟨hoc, ord, fun x hx => ?_, fun x hx => ?_, hp, hlen, hcu.1, hcu.2, hw0, hw1, hz0, hz1⟩, F, t, tq, #[], #[], ko, kq, kr, fun y hy => ?_, .nil, .nil⟩
  · rcases List.mem_cons.mp hx with rfl | hx
    · exact ⟨off.1.symm, off.2.1.symm, off.2.2.1.symm⟩
    · exact hpg x hx
  · rcases List.mem_cons.mp hx with rfl | hx
    · exact ⟨off.2.2.2.1.symm, off.2.2.2.2.symm⟩
    · exact hmn x hx
  · refine N y ?_
    rcases List.mem_append.mp hy with hy | hy
    · exact .tail _ (.tail _ (.tail _ (List.mem_append_left _ hy)))
    rcases List.mem_append.mp hy with hy | hy
    · exact .tail _ (.tail _ (.tail _ (List.mem_append_right _ (List.mem_append_left _ hy))))
    rcases List.mem_cons.mp hy with rfl | hy
    · exact .head _
    rcases List.mem_cons.mp hy with rfl | hy
    · exact .tail _ (.head _)
    rcases List.mem_cons.mp hy with rfl | hy
    · exact .tail _ (.tail _ (.head _))
    · exact .tail _ (.tail _ (.tail _ (List.mem_append_right _ (List.mem_append_right _ hy))))
end Mine
namespace Mine
def C1.slots (c : C1) (vt vp vr va vh vf : Option Value) : Str → Option Value := fun y => if y = Str.ofString "turn" then vt else if y = Str.ofString "piece" then vp else if y = Str.ofString "refused" then vr else if y = Str.ofString "part" then va else if y = Str.ofString "heard" then vh else if y = Str.ofString "refusal" then vf else c.vars y
theorem slots_of {c : C1} {h₀ h : Heap} {L : Addr} {m : Str → Option Value} (F : Fr h₀ L h m) (e : ∀ y, y ≠ Str.ofString "turn" → y ≠ Str.ofString "piece" → y ≠ Str.ofString "refused" → y ≠ Str.ofString "part" → y ≠ Str.ofString "heard" → y ≠ Str.ofString "refusal" → m y = c.vars y) :
    Fr h₀ L h (c.slots (m (Str.ofString "turn")) (m (Str.ofString "piece")) (m (Str.ofString "refused")) (m (Str.ofString "part")) (m (Str.ofString "heard")) (m (Str.ofString "refusal"))) := frCongr F fun y => by
  unfold C1.slots
  by_cases h1 : y = Str.ofString "turn"
  · rw [if_pos h1, h1]
  rw [if_neg h1]
  by_cases h2 : y = Str.ofString "piece"
  · rw [if_pos h2, h2]
  rw [if_neg h2]
  by_cases h3 : y = Str.ofString "refused"
  · rw [if_pos h3, h3]
  rw [if_neg h3]
  by_cases h4 : y = Str.ofString "part"
  · rw [if_pos h4, h4]
  rw [if_neg h4]
  by_cases h5 : y = Str.ofString "heard"
  · rw [if_pos h5, h5]
  rw [if_neg h5]
  by_cases h6 : y = Str.ofString "refusal"
  · rw [if_pos h6, h6]
  rw [if_neg h6]
  exact e y h1 h2 h3 h4 h5 h6
def code (b : Bool) : Str := if b = true then Str.ofString "FC" else Str.ofString ""
inductive P6 (w : World) (L : Addr) (c : C1) (i : Nat) (m' : Str → Option Value) (news' : List (Addr × Obj)) : Prop where
  | mk (S : PS) (t tq : Tok) (its itq : Array Value) (k kq kr : Nat) (vt vp vr va vh vf : Option Value) (em : m' = c.slots vt vp vr va vh vf) (en : news' = pgLed w c.p c.d c.o c.a1 c.a2 t S.2 its k ++ (mnLed c.q c.r S.2 tq itq kq kr ++ c.rest L)) (hS : StrsAre its.toList S.1) (hS' : StrsAre itq.toList S.1) (hb1 : S.1.length ≤ 6100 * i) (hb2 : S.2.length ≤ 6100 * i)
inductive TS (w : World) (h₀ : Heap) (L : Addr) (c : C1) (Z : List (Addr × Obj)) (PC : Addr) (PV : List Value) (kpc : Nat) (Sp Sm : PS) (r : Str) (s s' : Shared) : Prop where
  | mk (h : Heap) (tk : Nat) (tr t tq : Tok) (its itq : Array Value) (k kq kr : Nat) (vt va vh vf : Option Value) (e : s' = { s with heap := h, toks := tk }) (F : Fr h₀ L h (c.slots vt (some (.ref PC)) (some (.str r tr)) va vh vf)) (N : News h₀ L h ((PC, W.listOf PV.toArray kpc) :: (pgLed w c.p c.d c.o c.a1 c.a2 t Sp.2 its k ++ (mnLed c.q c.r Sm.2 tq itq kq kr ++ (c.rest L ++ Z))))) (hS : StrsAre its.toList Sp.1) (hS' : StrsAre itq.toList Sm.1)
inductive TH (w : World) (h₀ : Heap) (L : Addr) (c : C1) (Z : List (Addr × Obj)) (PC : Addr) (PV : List Value) (kpc : Nat) (Sp Sm : PS) (r hd : Str) (s s' : Shared) : Prop where
  | mk (h : Heap) (tk : Nat) (tr th t tq : Tok) (its itq : Array Value) (k kq kr : Nat) (vt va vf : Option Value) (e : s' = { s with heap := h, toks := tk }) (F : Fr h₀ L h (c.slots vt (some (.ref PC)) (some (.str r tr)) va (some (.str hd th)) vf)) (N : News h₀ L h ((PC, W.listOf PV.toArray kpc) :: (pgLed w c.p c.d c.o c.a1 c.a2 t Sp.2 its k ++ (mnLed c.q c.r Sm.2 tq itq kq kr ++ (c.rest L ++ Z))))) (hS : StrsAre its.toList Sp.1) (hS' : StrsAre itq.toList Sm.1)
inductive T1 (w : World) (h₀ : Heap) (L : Addr) (c : C1) (Z : List (Addr × Obj)) (S : PS) (s s' : Shared) : Prop where
  | mk (PC : Addr) (PV : List Value) (QV : List Part) (kpc : Nat) (hPC : (@Ne Nat PC c.p ∧ @Ne Nat PC c.d ∧ @Ne Nat PC c.o) ∧ (@Ne Nat PC c.q ∧ @Ne Nat PC c.r)) (hQ : PartsL c.tl PV QV) (hQl : QV.length ≤ 14) (st : TS w h₀ L c Z PC PV kpc S S (Str.ofString "") s s')
section
variable {w : World} {A : Around} {E : Value → Shared → Prop} {s2 : Shared} {env : Env} {st1 : Stmt} {rest : List Stmt} {Q : Flow → Shared → Prop} {h₀ : Heap} {L : Addr} {c : C1} {Z : List (Addr × Obj)}
theorem turn1 {S : PS} {m : Str → Option Value} (F : Fr h₀ L s2.heap m)
    (h1 : ∀ E : Value → Shared → Prop, wpAny (model PROG w) A (exec st1 env) (fun f s' => f = .next ∧ T1 w h₀ L c Z S s2 s') E s2) (h2 : ∀ s', T1 w h₀ L c Z S s2 s' → wpAny (model PROG w) A (execs rest env) Q E s') : wpAny (model PROG w) A (execs (st1 :: rest) env) Q E s2 := execs_mid (T1 w h₀ L c Z S s2) (h1 _) h2
theorem turn2 {PC : Addr} {PV : List Value} {kpc : Nat} {S : PS} {QV : List Part} {m : Str → Option Value} (F : Fr h₀ L s2.heap m)
    (h1 : ∀ E : Value → Shared → Prop, wpAny (model PROG w) A (exec st1 env) (fun f s' => f = .next ∧ TS w h₀ L c Z PC PV kpc S (lawParts c.zone c.width S false QV).1 (code (lawParts c.zone c.width S false QV).2) s2 s') E s2) (h2 : ∀ s', TS w h₀ L c Z PC PV kpc S (lawParts c.zone c.width S false QV).1 (code (lawParts c.zone c.width S false QV).2) s2 s' → wpAny (model PROG w) A (execs rest env) Q E s') : wpAny (model PROG w) A (execs (st1 :: rest) env) Q E s2 := execs_mid (TS w h₀ L c Z PC PV kpc S (lawParts c.zone c.width S false QV).1 (code (lawParts c.zone c.width S false QV).2) s2) (h1 _) h2
theorem turn3 {PC : Addr} {PV : List Value} {kpc : Nat} {S : PS} {QV : List Part} {m : Str → Option Value} (F : Fr h₀ L s2.heap m)
    (h1 : ∀ E : Value → Shared → Prop, wpAny (model PROG w) A (exec st1 env) (fun f s' => f = .next ∧ TS w h₀ L c Z PC PV kpc S (lawPiece c.zone c.width S QV).1 (code (lawPiece c.zone c.width S QV).2) s2 s') E s2) (h2 : ∀ s', TS w h₀ L c Z PC PV kpc S (lawPiece c.zone c.width S QV).1 (code (lawPiece c.zone c.width S QV).2) s2 s' → wpAny (model PROG w) A (execs rest env) Q E s') : wpAny (model PROG w) A (execs (st1 :: rest) env) Q E s2 := execs_mid (TS w h₀ L c Z PC PV kpc S (lawPiece c.zone c.width S QV).1 (code (lawPiece c.zone c.width S QV).2) s2) (h1 _) h2
theorem turn4 {PC : Addr} {PV : List Value} {kpc : Nat} {S : PS} {QV : List Part} {m : Str → Option Value} (F : Fr h₀ L s2.heap m)
    (h1 : ∀ E : Value → Shared → Prop, wpAny (model PROG w) A (exec st1 env) (fun f s' => f = .next ∧ TH w h₀ L c Z PC PV kpc S (lawPiece c.zone c.width S QV).1 (code (lawPiece c.zone c.width S QV).2) (Str.ofString "") s2 s') E s2) (h2 : ∀ s', TH w h₀ L c Z PC PV kpc S (lawPiece c.zone c.width S QV).1 (code (lawPiece c.zone c.width S QV).2) (Str.ofString "") s2 s' → wpAny (model PROG w) A (execs rest env) Q E s') : wpAny (model PROG w) A (execs (st1 :: rest) env) Q E s2 := execs_mid (TH w h₀ L c Z PC PV kpc S (lawPiece c.zone c.width S QV).1 (code (lawPiece c.zone c.width S QV).2) (Str.ofString "") s2) (h1 _) h2
theorem turn5 {PC : Addr} {PV : List Value} {kpc : Nat} {S : PS} {QV : List Part} {m : Str → Option Value} (F : Fr h₀ L s2.heap m)
    (h1 : ∀ E : Value → Shared → Prop, wpAny (model PROG w) A (exec st1 env) (fun f s' => f = .next ∧ TH w h₀ L c Z PC PV kpc (lawPiece c.zone c.width S QV).1 (lawPiece c.zone c.width S QV).1 (code (lawPiece c.zone c.width S QV).2) (code (lawPiece c.zone c.width S QV).2) s2 s') E s2) (h2 : ∀ s', TH w h₀ L c Z PC PV kpc (lawPiece c.zone c.width S QV).1 (lawPiece c.zone c.width S QV).1 (code (lawPiece c.zone c.width S QV).2) (code (lawPiece c.zone c.width S QV).2) s2 s' → wpAny (model PROG w) A (execs rest env) Q E s') : wpAny (model PROG w) A (execs (st1 :: rest) env) Q E s2 := execs_mid (TH w h₀ L c Z PC PV kpc (lawPiece c.zone c.width S QV).1 (lawPiece c.zone c.width S QV).1 (code (lawPiece c.zone c.width S QV).2) (code (lawPiece c.zone c.width S QV).2) s2) (h1 _) h2
theorem T1_pack {S : PS} {h : Heap} {tk : Nat} {m : Str → Option Value} {X : Addr × Obj} {PC : Addr} {a b k0 : Nat} {tr t tq : Tok} {its itq : Array Value} {k kq kr : Nat} {R : Prop} (F : Fr h₀ L h m) (e : ∀ y, y ≠ Str.ofString "turn" → y ≠ Str.ofString "piece" → y ≠ Str.ofString "refused" → y ≠ Str.ofString "part" → y ≠ Str.ofString "heard" → y ≠ Str.ofString "refusal" → m y = c.vars y)
    (ep : m (Str.ofString "piece") = some (.ref PC)) (er : m (Str.ofString "refused") = some (.str (Str.ofString "") tr)) (N : News h₀ L h (X :: (PC, W.listOf ((c.pvs.take b).drop a).toArray k0) :: (pgLed w c.p c.d c.o c.a1 c.a2 t S.2 its k ++ (mnLed c.q c.r S.2 tq itq kq kr ++ (c.rest L ++ Z)))))
    (ho : @LT.lt Nat _ c.p PC ∧ @LT.lt Nat _ c.d PC ∧ @LT.lt Nat _ c.o PC ∧ @LT.lt Nat _ c.q PC ∧ @LT.lt Nat _ c.r PC ∧ R) (ok : c.Ok L) (hS : StrsAre its.toList S.1) (hS' : StrsAre itq.toList S.1) : T1 w h₀ L c Z S s2 { s2 with heap := h, toks := tk } := by
  obtain ⟨z1, z2, z3, z4, z5, _⟩ := ho
  have F2 := slots_of (c := c) F e
  rw [ep, er] at F2
  exact ⟨PC, _, (c.qs.take b).drop a, k0, ⟨⟨Nat.ne_of_gt z1, Nat.ne_of_gt z2, Nat.ne_of_gt z3⟩, Nat.ne_of_gt z4, Nat.ne_of_gt z5⟩, (ok.hp.take b).drop a, by rw [← ((ok.hp.take b).drop a).length, List.length_drop, List.length_take]; have := ok.hlen; omega, ⟨h, tk, tr, t, tq, its, itq, k, kq, kr, _, _, _, _, rfl, F2, fun y hy => N y (.tail _ hy), hS, hS'⟩⟩
inductive P2 (w : World) (L : Addr) (c : C1) (Z : List (Addr × Obj)) (PC : Addr) (PV : List Value) (kpc : Nat) (S : PS) (QV : List Part) (rest : List Value) (m' : Str → Option Value) (news' : List (Addr × Obj)) : Prop where
  | mk (st : PS) (rf : Bool) (qs' : List Part) (tr t tq : Tok) (its itq : Array Value) (k kq kr : Nat) (vt va vh vf : Option Value) (hps : PartsL c.tl rest qs') (hrun : lawParts c.zone c.width S false QV = lawParts c.zone c.width st rf qs') (hb1 : st.1.length + 401 * qs'.length ≤ 20000 + 401 * 14) (hb2 : st.2.length + 400 * qs'.length ≤ 20000 + 400 * 14)
    (em : m' = c.slots vt (some (.ref PC)) (some (.str (code rf) tr)) va vh vf) (en : news' = (PC, W.listOf PV.toArray kpc) :: (pgLed w c.p c.d c.o c.a1 c.a2 t S.2 its k ++ (mnLed c.q c.r st.2 tq itq kq kr ++ (c.rest L ++ Z)))) (hS : StrsAre its.toList S.1) (hS' : StrsAre itq.toList st.1)
end
theorem lawParted_len {st : PS} {q : Part} {zone width : Int} (hq : q.ok) (hz0 : 2 ≤ zone) (hz1 : zone ≤ 9) (hw0 : 0 ≤ width) : (lawParted st q zone width).1.1.length ≤ st.1.length + 401 ∧ (lawParted st q zone width).1.2.length ≤ st.2.length + 400 := by
  rcases part_eq st q zone width with ⟨_, h2⟩ | ⟨s', h1, h2⟩
  · rw [h2]; dsimp only; omega
  · rw [h2]; exact writePart_len h1 hq hz0 hz1 hw0
theorem mem6 {y x : Addr × Obj} {M P R Z Y : List (Addr × Obj)} : y ∈ M ++ (x :: (P ++ (R ++ (Z ++ Y)))) ↔ y ∈ (x :: (P ++ (M ++ (R ++ Z)))) ++ Y := by
  simp only [List.mem_append, List.mem_cons]
  constructor
  · rintro (h | h | h | h | h | h) <;> simp [h]
  · rintro ((h | h | h | h | h) | h) <;> simp [h]
theorem parted_use {w : World} {A A₀ : Around} {base h₀ : Heap} {mean : ExcName → Option Value} {mg mb : Str → Option Value} {s : Shared} {L : Addr} {env : Env} {m : Str → Option Value} {E Q : Value → Shared → Prop} {c : C1} {Z Y : List (Addr × Obj)} {PC ap : Addr} {PV : List Value} {kpc : Nat} {S st : PS} {q : Part} {ob : Obj} {t tq tw tz : Tok} {its itq : Array Value} {k kq kr : Nat}
    (hh : A.handled = none) (hA : A.frames = some [env]) (hf : env.frame = some L) (hck : env.scope.kind = .function) (B : Below A₀ base [] h₀) (F : Fr h₀ L s.heap m) (KX : (hd01.heap_39 w.params).In h₀) (T : TopW' mean mg mb h₀)
    (N : News h₀ L s.heap (((PC, W.listOf PV.toArray kpc) :: (pgLed w c.p c.d c.o c.a1 c.a2 t S.2 its k ++ (mnLed c.q c.r st.2 tq itq kq kr ++ (c.rest L ++ Z)))) ++ Y)) (ok : c.Ok L) (hPC : @Ne Nat PC c.q ∧ @Ne Nat PC c.r) (hZ : ∀ y ∈ Z ++ Y, @Ne Nat y.1 c.q ∧ @Ne Nat y.1 c.r)
    (hm : (ap, ob) ∈ c.tl) (hPA : ∀ h : Heap, h.get? ap = some ob → PartAt h ap q) (hqk : q.ok) (hS' : StrsAre itq.toList st.1) (hb1 : st.1.length ≤ 40000) (hb2 : st.2.length ≤ 40000) (hdp : A.depth ≤ 770) (hun : A.units ≤ 9 * 770)
    (kQ : ∀ h' tk' tv t8 its8 kq8 kr8, Fr h₀ L h' m → News h₀ L h' (((PC, W.listOf PV.toArray kpc) :: (pgLed w c.p c.d c.o c.a1 c.a2 t S.2 its k ++ (mnLed c.q c.r (lawParted st q c.zone c.width).1.2 t8 its8 kq8 kr8 ++ (c.rest L ++ Z)))) ++ Y) → StrsAre its8.toList (lawParted st q c.zone c.width).1.1 → Q (.str (code (lawParted st q c.zone c.width).2) tv) { s with heap := h', toks := tk' }) :
    wpAny (model PROG w) A (call (.ref 161) [.ref c.q, .ref ap, .int c.width tw, .int c.zone tz]) Q E s := by
  obtain ⟨o3, o4, o5, o6⟩ := ok.ord
  refine SpecP.useX (rest := (PC, W.listOf PV.toArray kpc) :: (pgLed w c.p c.d c.o c.a1 c.a2 t S.2 its k ++ (c.rest L ++ (Z ++ Y)))) (parted_spec (rows := st.1) (row := st.2) (p := q) (Nat.ne_of_gt o6) hS' hb1 hb2 hqk ok.hz0 ok.hz1 ok.hw0 ok.hw1) hh hA hf hck B F KX T (fun y hy => N y (mem6.mp hy)) ?_ (fun _ kk => hPA _ (kk (ap, ob) ?_)) hdp hun (fun v h' tk' led' F8 N8 hap8 o8 => ?_) (fun _ _ _ _ _ _ _ z => z.elim)
  · have two : ∀ {y : Addr × Obj}, @Ne Nat y.1 c.q ∧ @Ne Nat y.1 c.r → ∀ y' ∈ mnLed c.q c.r st.2 tq itq kq kr, y.1 ≠ y'.1 := fun hy y' hy' => by
      rcases List.mem_cons.mp hy' with rfl | hy'
      · exact hy.1
      obtain rfl := List.mem_singleton.mp hy'
      exact hy.2
    intro y hy
    refine two ?_
    rcases List.mem_cons.mp hy with rfl | hy
    · exact hPC
    rcases List.mem_append.mp hy with hy | hy
    · rcases List.mem_cons.mp hy with rfl | hy
      · exact ⟨Nat.ne_of_lt (Nat.lt_trans o4 (Nat.lt_trans o5 o6)), Nat.ne_of_lt (Nat.lt_trans o4 o5)⟩
      rcases List.mem_cons.mp hy with rfl | hy
      · exact ⟨Nat.ne_of_lt (Nat.lt_trans o3 (Nat.lt_trans o4 (Nat.lt_trans o5 o6))), Nat.ne_of_lt (Nat.lt_trans o3 (Nat.lt_trans o4 o5))⟩
      obtain rfl := List.mem_singleton.mp hy
      exact ⟨Nat.ne_of_lt (Nat.lt_trans o5 o6), Nat.ne_of_lt o5⟩
    rcases List.mem_append.mp hy with hy | hy
    · exact ok.hmn y hy
    · exact hZ y hy
  · exact List.mem_cons_of_mem _ (List.mem_append_right _ (List.mem_append_left _ (.tail _ (.tail _ (.tail _ hm)))))
  · obtain ⟨tv, rfl, t8, its8, kq8, kr8, rfl, S8⟩ := o8
    exact kQ h' tk' tv t8 its8 kq8 kr8 F8 (fun y hy => N8 y (mem6.mpr hy)) S8
theorem ne_mn {q r it : Addr} {row row' : Str} {t t' : Tok} {its its' : Array Value} {kq kr kq' kr' : Nat} {x : Addr × Obj} {P R : List (Addr × Obj)} (h : ∀ y ∈ x :: (P ++ (mnLed q r row t its kq kr ++ R)), y.1 ≠ it) : ∀ y ∈ x :: (P ++ (mnLed q r row' t' its' kq' kr' ++ R)), y.1 ≠ it := fun y hy => by
  have h1 := h _ (.tail _ (List.mem_append_right _ (List.mem_append_left _ (.head _))))
  have h2 := h _ (.tail _ (List.mem_append_right _ (List.mem_append_left _ (.tail _ (.head _)))))
  rcases List.mem_cons.mp hy with rfl | hy
  · exact h _ (.head _)
  rcases List.mem_append.mp hy with hy | hy
  · exact h y (.tail _ (List.mem_append_left _ hy))
  rcases List.mem_append.mp hy with hy | hy
  · rcases List.mem_cons.mp hy with rfl | hy
    · exact h1
    obtain rfl := List.mem_singleton.mp hy
    exact h2
  · exact h y (.tail _ (List.mem_append_right _ (List.mem_append_right _ hy)))
theorem PartsL.last {tl : List (Addr × Obj)} {vs : List Value} {qs : List Part} (x : PartsL tl vs qs) : ∀ e, vs ≠ [] → ∃ a ob q, (a, ob) ∈ tl ∧ (∀ h : Heap, h.get? a = some ob → PartAt h a q) ∧ vs[vs.length - 1]? = some (.ref a) ∧ lastText e qs = q.isText := by
  induction x with
  | nil => intro e h; exact absurd rfl h
  | @cons a ob q vs qs h1 h2 h3 h4 ih =>
    intro e _
    cases h4 with
    | nil => exact ⟨a, ob, q, h1, h2, rfl, rfl⟩
    | @cons a' ob' q' vs' qs' g1 g2 g3 g4 =>
      obtain ⟨a'', ob'', q'', k1, k2, k3, k4⟩ := ih q.isText (by simp)
      refine ⟨a'', ob'', q'', k1, k2, ?_, k4⟩
      simpa using k3
theorem item_at {prog : Program} {w : World} {A : Around} {E : Value → Shared → Prop} {s : Shared} {value slice : PySem.Expr} {l : Addr} {vs : List Value} {k : Int} {u : Tok} {v : Value} {Q : Value → Shared → Prop}
    (hl : s.heap.IsList l vs.toArray) (h0 : 0 ≤ k) (h1 : k < 1000) (hv : vs[k.toNat]? = some v) (h : Q v s)
    (hs : subscripted slice false (.ref l) (.int k u) = operate [.ref l, .int k u] (getItem (.ref l) (.int k u))) :
    wpAny (model prog w) A (subscriptTail value slice (.ref l) (.int k u)) Q E s :=
  tail_any hl.typeIs slot_list_getitem.lookup (wpAny_getItem_list hl h0 (by omega) (by simpa using hv) h) hs
theorem PartAt.first {h : Heap} {a : Addr} {q : Part} (x : PartAt h a q) : ∃ kd t1 r, IsTup h a (List.toArray (Value.str kd t1 :: r)) ∧ (kd == Str.ofString "text") = q.isText := by
  cases q with
  | text x' => obtain ⟨t1, t2, x⟩ := x; exact ⟨_, t1, _, x, show (Str.ofString "text" == Str.ofString "text") = true by decide +kernel⟩
  | zone => obtain ⟨t1, x⟩ := x; exact ⟨_, t1, _, x, by decide +kernel⟩
  | glue => obtain ⟨t1, x⟩ := x; exact ⟨_, t1, _, x, by decide +kernel⟩
  | tab n => obtain ⟨t1, t2, x⟩ := x; exact ⟨_, t1, _, x, show (Str.ofString "tab" == Str.ofString "text") = false by decide +kernel⟩
  | spc n => obtain ⟨t1, t2, x⟩ := x; exact ⟨_, t1, _, x, show (Str.ofString "spc" == Str.ofString "text") = false by decide +kernel⟩
theorem mem5 {y x : Addr × Obj} {M P R : List (Addr × Obj)} : y ∈ M ++ (x :: (P ++ R)) ↔ y ∈ x :: (P ++ (M ++ R)) := by
  simp only [List.mem_append, List.mem_cons]
  constructor
  · rintro (h | h | h | h) <;> simp [h]
  · rintro (h | h | h | h) <;> simp [h]
theorem mn_far {w : World} {L : Addr} {c : C1} {Z : List (Addr × Obj)} {PC : Addr} {oPC : Obj} {r1 r2 : Str} {t tq : Tok} {its itq : Array Value} {k kq kr : Nat} (ok : c.Ok L) (hPC : @Ne Nat PC c.q ∧ @Ne Nat PC c.r) (hZ : ∀ y ∈ Z, @Ne Nat y.1 c.q ∧ @Ne Nat y.1 c.r) :
    ∀ y ∈ (PC, oPC) :: (pgLed w c.p c.d c.o c.a1 c.a2 t r1 its k ++ (c.rest L ++ Z)), ∀ y' ∈ mnLed c.q c.r r2 tq itq kq kr, y.1 ≠ y'.1 := by
  obtain ⟨o3, o4, o5, o6⟩ := ok.ord
  have two : ∀ {y : Addr × Obj}, @Ne Nat y.1 c.q ∧ @Ne Nat y.1 c.r → ∀ y' ∈ mnLed c.q c.r r2 tq itq kq kr, y.1 ≠ y'.1 := fun hy y' hy' => by
    rcases List.mem_cons.mp hy' with rfl | hy'
    · exact hy.1
    obtain rfl := List.mem_singleton.mp hy'
    exact hy.2
  intro y hy
  refine two ?_
  rcases List.mem_cons.mp hy with rfl | hy
  · exact hPC
  rcases List.mem_append.mp hy with hy | hy
  · rcases List.mem_cons.mp hy with rfl | hy
    · exact ⟨Nat.ne_of_lt (Nat.lt_trans o4 (Nat.lt_trans o5 o6)), Nat.ne_of_lt (Nat.lt_trans o4 o5)⟩
    rcases List.mem_cons.mp hy with rfl | hy
    · exact ⟨Nat.ne_of_lt (Nat.lt_trans o3 (Nat.lt_trans o4 (Nat.lt_trans o5 o6))), Nat.ne_of_lt (Nat.lt_trans o3 (Nat.lt_trans o4 o5))⟩
    obtain rfl := List.mem_singleton.mp hy
    exact ⟨Nat.ne_of_lt (Nat.lt_trans o5 o6), Nat.ne_of_lt o5⟩
  rcases List.mem_append.mp hy with hy | hy
  · exact ok.hmn y hy
  · exact hZ y hy
theorem new_row_use {w : World} {A A₀ : Around} {base h₀ : Heap} {mean : ExcName → Option Value} {mg mb : Str → Option Value} {s : Shared} {L : Addr} {env : Env} {m : Str → Option Value} {E Q : Value → Shared → Prop} {c : C1} {Z : List (Addr × Obj)} {PC : Addr} {PV : List Value} {kpc : Nat} {r1 r2 : Str} {rows : List Str} {t tq : Tok} {its itq : Array Value} {k kq kr : Nat}
    (hh : A.handled = none) (hA : A.frames = some [env]) (hf : env.frame = some L) (hck : env.scope.kind = .function) (B : Below A₀ base [] h₀) (F : Fr h₀ L s.heap m) (KX : (hd01.heap_39 w.params).In h₀) (T : TopW' mean mg mb h₀)
    (N : News h₀ L s.heap ((PC, W.listOf PV.toArray kpc) :: (pgLed w c.p c.d c.o c.a1 c.a2 t r1 its k ++ (mnLed c.q c.r r2 tq itq kq kr ++ (c.rest L ++ Z))))) (ok : c.Ok L) (hPC : @Ne Nat PC c.q ∧ @Ne Nat PC c.r) (hZ : ∀ y ∈ Z, @Ne Nat y.1 c.q ∧ @Ne Nat y.1 c.r)
    (hS' : StrsAre itq.toList rows) (hb1 : rows.length ≤ 40000) (hdp : A.depth ≤ 770) (hun : A.units ≤ 9 * 770)
    (kQ : ∀ h' tk' t8 its8 kq8 kr8, Fr h₀ L h' m → News h₀ L h' ((PC, W.listOf PV.toArray kpc) :: (pgLed w c.p c.d c.o c.a1 c.a2 t r1 its k ++ (mnLed c.q c.r (Str.ofString "") t8 its8 kq8 kr8 ++ (c.rest L ++ Z)))) → StrsAre its8.toList (rows ++ [r2]) → Q .none { s with heap := h', toks := tk' }) :
    wpAny (model PROG w) A (call (.ref 149) [.ref c.q]) Q E s := by
  have hsz := StrsAre.size hS'
  refine Spec.useX (rest := (PC, W.listOf PV.toArray kpc) :: (pgLed w c.p c.d c.o c.a1 c.a2 t r1 its k ++ (c.rest L ++ Z))) (new_row_spec (its := itq) (Nat.ne_of_gt ok.ord.2.2.2) (by omega)) hh hA hf hck B F KX T (fun y hy => N y (mem5.mp hy)) (mn_far ok hPC hZ) (by omega) (by omega) (fun v h' tk' led' F8 N8 hap8 o8 => ?_)
  obtain ⟨rfl, t8, kq8, kr8, rfl⟩ := o8
  exact kQ h' tk' t8 _ kq8 kr8 F8 (fun y hy => N8 y (mem5.mpr hy)) (StrsAre.push1 hS' _ _)
theorem PartsL.oks {tl : List (Addr × Obj)} {vs : List Value} {qs : List Part} (x : PartsL tl vs qs) : ∀ q ∈ qs, q.ok := by
  induction x with
  | nil => intro q hq; cases hq
  | cons a b c d ih => intro q hq; rcases List.mem_cons.mp hq with rfl | hq
                       · exact c
                       · exact ih q hq
theorem lawParts_len' {zone width : Int} (hz0 : 2 ≤ zone) (hz1 : zone ≤ 9) (hw0 : 0 ≤ width) : ∀ (qs : List Part) (s : PS) (r : Bool), (∀ q ∈ qs, q.ok) → (lawParts zone width s r qs).1.1.length ≤ s.1.length + 401 * qs.length ∧ (lawParts zone width s r qs).1.2.length ≤ s.2.length + 400 * qs.length
  | [], s, r, _ => by simp [lawParts]
  | q :: qs, s, true, _ => by simp only [lawParts]; omega
  | q :: qs, s, false, h => by
    have h1 := lawParted_len (st := s) (width := width) (h q (.head _)) hz0 hz1 hw0
    have h2 := lawParts_len' hz0 hz1 hw0 qs (lawParted s q zone width).1 (lawParted s q zone width).2 fun q hq => h q (.tail _ hq)
    simp only [lawParts, List.length_cons]
    omega
theorem lawParts_len {S : PS} {QV : List Part} {zone width : Int} (h : ∀ q ∈ QV, q.ok) (hz0 : 2 ≤ zone) (hz1 : zone ≤ 9) (hw0 : 0 ≤ width) : (lawParts zone width S false QV).1.1.length ≤ S.1.length + 401 * QV.length ∧ (lawParts zone width S false QV).1.2.length ≤ S.2.length + 400 * QV.length := lawParts_len' hz0 hz1 hw0 QV S false h
theorem tl_get {h₀ h : Heap} {L ap : Addr} {ob : Obj} {c : C1} {x y : Addr × Obj} {P M Z : List (Addr × Obj)} (N : News h₀ L h (x :: y :: (P ++ (M ++ (c.rest L ++ Z))))) (hm : (ap, ob) ∈ c.tl) : h.get? ap = some ob :=
  (N (ap, ob) (.tail _ (.tail _ (List.mem_append_right _ (List.mem_append_right _ (List.mem_append_left _ (.tail _ (.tail _ (.tail _ hm))))))))).1
theorem item_tup0 {prog : Program} {w : World} {A : Around} {E : Value → Shared → Prop} {s : Shared} {value slice : PySem.Expr} {t : Addr} {v : Value} {r : List Value} {u : Tok} {Q : Value → Shared → Prop} (ht : IsTup s.heap t (List.toArray (v :: r))) (h : Q v s)
    (hs : subscripted slice false (.ref t) (.int 0 u) = operate [.ref t, .int 0 u] (getItem (.ref t) (.int 0 u))) : wpAny (model prog w) A (subscriptTail value slice (.ref t) (.int 0 u)) Q E s := by
  refine item_tupleT (j := 0) ht (by decide) (by decide) ?_ rfl h hs
  unfold seqIndex?
  simp
theorem mem4 {y x : Addr × Obj} {M R : List (Addr × Obj)} : y ∈ M ++ (x :: R) ↔ y ∈ x :: (M ++ R) := by
  simp only [List.mem_append, List.mem_cons]
  constructor
  · rintro (h | h | h) <;> simp [h]
  · rintro (h | h | h) <;> simp [h]
theorem parts_use {w : World} {A A₀ : Around} {base h₀ : Heap} {mean : ExcName → Option Value} {mg mb : Str → Option Value} {s : Shared} {L : Addr} {env : Env} {m : Str → Option Value} {E Q : Value → Shared → Prop} {c : C1} {R : List (Addr × Obj)} {PC : Addr} {PV : List Value} {kpc : Nat} {S : PS} {QV : List Part} {t tw tz : Tok} {its : Array Value} {k : Nat}
    (hh : A.handled = none) (hA : A.frames = some [env]) (hf : env.frame = some L) (hck : env.scope.kind = .function) (B : Below A₀ base [] h₀) (F : Fr h₀ L s.heap m) (KX : (hd01.heap_39 w.params).In h₀) (T : TopW' mean mg mb h₀)
    (N : News h₀ L s.heap ((PC, W.listOf PV.toArray kpc) :: (pgLed w c.p c.d c.o c.a1 c.a2 t S.2 its k ++ R))) (ok : c.Ok L) (hfar : ∀ y ∈ (PC, W.listOf PV.toArray kpc) :: R, @Ne Nat y.1 c.p ∧ @Ne Nat y.1 c.d ∧ @Ne Nat y.1 c.o) (hQ : PartsL c.tl PV QV) (hR : ∀ y ∈ c.tl, y ∈ R)
    (hS : StrsAre its.toList S.1) (hb1 : S.1.length ≤ 20000) (hb2 : S.2.length ≤ 20000) (hn : QV.length ≤ 20) (hdp : A.depth ≤ 830) (hun : A.units ≤ 9 * 830)
    (kQ : ∀ h' tk' t8 its8 k8, Fr h₀ L h' m → News h₀ L h' ((PC, W.listOf PV.toArray kpc) :: (pgLed w c.p c.d c.o c.a1 c.a2 t8 (writeParts S QV c.zone c.width).1.2 its8 k8 ++ R)) → StrsAre its8.toList (writeParts S QV c.zone c.width).1.1 → (writeParts S QV c.zone c.width).2 = false → Q .none { s with heap := h', toks := tk' })
    (kE : ∀ e h' tk' t8 its8 k8, Flight h₀ [env] (pgLed w c.p c.d c.o c.a1 c.a2 t8 (writeParts S QV c.zone c.width).1.2 its8 k8 ++ ((PC, W.listOf PV.toArray kpc) :: R)) e (Str.ofString "FC") .none h' → h'.Ns L m → StrsAre its8.toList (writeParts S QV c.zone c.width).1.1 → (writeParts S QV c.zone c.width).2 = true → E (.ref e) { s with heap := h', toks := tk' }) :
    wpAny (model PROG w) A (call (.ref 114) [.ref c.p, .ref PC, .int c.zone tz, .int c.width tw]) Q E s := by
  obtain ⟨o3, o4, o5, o6⟩ := ok.ord
  refine SpecP.useX (rest := (PC, W.listOf PV.toArray kpc) :: R) (write_parts_spec (rows := S.1) (row := S.2) (vs := PV) (qs := QV) (Nat.ne_of_gt o3) (Nat.ne_of_lt o4) (Nat.ne_of_lt (Nat.lt_trans o3 o4)) hS hb1 hb2 hn ok.hz0 ok.hz1 ok.hw0 ok.hw1) hh hA hf hck B F KX T (fun y hy => N y (mem4.mp hy)) (fun y hy y' hy' => ?_) (fun _ kk => ⟨⟨_, kk (PC, _) (.head _), rfl, _, rfl⟩, hQ.at fun y hy => kk y (.tail _ (hR y hy))⟩) hdp hun (fun v h' tk' led' F8 N8 hap8 o8 => ?_) (fun e c' h' tk' led' x8 n8 o8 => ?_)
  · have z := hfar y hy
    rcases List.mem_cons.mp hy' with rfl | hy'
    · exact z.1
    rcases List.mem_cons.mp hy' with rfl | hy'
    · exact z.2.1
    obtain rfl := List.mem_singleton.mp hy'
    exact z.2.2
  · obtain ⟨rfl, hfl, t8, k8, its8, rfl, S8⟩ := o8
    exact kQ h' tk' t8 its8 k8 F8 (fun y hy => N8 y (mem4.mpr hy)) S8 hfl
  · obtain ⟨rfl, hfl, t8, k8, its8, rfl, S8⟩ := o8
    exact kE e h' tk' t8 its8 k8 x8 n8 S8 hfl
theorem pg_far {L : Addr} {c : C1} {Z : List (Addr × Obj)} {PC : Addr} {oPC : Obj} {r2 : Str} {tq : Tok} {itq : Array Value} {kq kr : Nat} (ok : c.Ok L) (hPC : @Ne Nat PC c.p ∧ @Ne Nat PC c.d ∧ @Ne Nat PC c.o) (hZ : ∀ y ∈ Z, @Ne Nat y.1 c.p ∧ @Ne Nat y.1 c.d ∧ @Ne Nat y.1 c.o) :
    ∀ y ∈ (PC, oPC) :: (mnLed c.q c.r r2 tq itq kq kr ++ (c.rest L ++ Z)), @Ne Nat y.1 c.p ∧ @Ne Nat y.1 c.d ∧ @Ne Nat y.1 c.o := by
  obtain ⟨o3, o4, o5, o6⟩ := ok.ord
  intro y hy
  rcases List.mem_cons.mp hy with rfl | hy
  · exact hPC
  rcases List.mem_append.mp hy with hy | hy
  · rcases List.mem_cons.mp hy with rfl | hy
    · exact ⟨Nat.ne_of_gt (Nat.lt_trans o4 (Nat.lt_trans o5 o6)), Nat.ne_of_gt (Nat.lt_trans o3 (Nat.lt_trans o4 (Nat.lt_trans o5 o6))), Nat.ne_of_gt (Nat.lt_trans o5 o6)⟩
    obtain rfl := List.mem_singleton.mp hy
    exact ⟨Nat.ne_of_gt (Nat.lt_trans o4 o5), Nat.ne_of_gt (Nat.lt_trans o3 (Nat.lt_trans o4 o5)), Nat.ne_of_gt o5⟩
  rcases List.mem_append.mp hy with hy | hy
  · exact ok.hpg y hy
  · exact hZ y hy
theorem nameX_goes {M : Model} {A : Around} {E : Value → Shared → Prop} {s : Shared} {h₀ : Heap} {L a : Addr} {cn : Str} {cs : Scope} {ccd : Value} {cl : List (Str × Addr)} {m : Str → Option Value} {news : List (Addr × Obj)} {n : Str} {pos : Pos} {Q : Unit → Shared → Prop} (F : Fr h₀ L s.heap m) (N : News h₀ L s.heap news)
    (h : ∀ h' v, Fr h₀ L h' (fun x => if x = n then v else m x) → News h₀ L h' news → Q () { s with heap := h', toks := s.toks + 1 })
    (hk : cs.kind = .function) (hl : (envX cn cs L a ccd cl).kindOf n = some .local) :
    wpAny M A (do bindName (envX cn cs L a ccd cl) n .none; unbindBehindTheSuite (envX cn cs L a ccd cl) n pos) Q E s :=
  wpAny_nameGoes_keeps hl F.ns (by show (cs.kind == .class || (cs.kind == .module && L != mainGlobals)) = false; rw [hk]; rfl) fun h' v hn hs => h h' v (F.set hn hs) (N.set hs)
end Mine
namespace Mine
theorem lawPiece_len {S : PS} {QV : List Part} {zone width : Int} (h : ∀ q ∈ QV, q.ok) (hl : QV.length ≤ 14) (hz0 : 2 ≤ zone) (hz1 : zone ≤ 9) (hw0 : 0 ≤ width) : (lawPiece zone width S QV).1.1.length ≤ S.1.length + 6100 ∧ (lawPiece zone width S QV).1.2.length ≤ S.2.length + 6100 := by
  have hll := lawParts_len (S := S) h hz0 hz1 hw0
  unfold lawPiece
  dsimp only
  split
  · unfold endRow
    rw [List.length_append]
    refine ⟨?_, Nat.zero_le _⟩
    simp only [List.length_cons, List.length_nil]
    omega
  · omega
theorem ne_same {prog : Program} {w : World} {A : Around} {E : Value → Shared → Prop} {s : Shared} {x : Str} {t u : Tok} {Q : Value → Shared → Prop} (h : Q (.bool false) s) : wpAny (model prog w) A (compareOp .NotEq (.str x t) (.str x u)) Q E s :=
  PyProof.Rows.ne_str (by rw [show (x != x) = false by simp]; exact h)
theorem mem_end {y z : Addr × Obj} {P M R : List (Addr × Obj)} : y ∈ (P ++ (M ++ R)) ++ [z] ↔ y ∈ P ++ (M ++ (R ++ [z])) := by
  rw [List.append_assoc, List.append_assoc]
theorem ne_both {w : World} {p d o q r it : Addr} {a1 a2 t tq t' tq' : Tok} {row row' rw rw' : Str} {its itq its' itq' : Array Value} {k kq kr k' kq' kr' : Nat} {R : List (Addr × Obj)} (h : ∀ y ∈ pgLed w p d o a1 a2 t row its k ++ (mnLed q r rw tq itq kq kr ++ R), y.1 ≠ it) : ∀ y ∈ pgLed w p d o a1 a2 t' row' its' k' ++ (mnLed q r rw' tq' itq' kq' kr' ++ R), y.1 ≠ it := fun y hy => by
  have h1 := h _ (.head _)
  have h2 := h _ (.tail _ (.head _))
  have h3 := h _ (.tail _ (.tail _ (.head _)))
  have h4 := h _ (.tail _ (.tail _ (.tail _ (.head _))))
  have h5 := h _ (.tail _ (.tail _ (.tail _ (.tail _ (.head _)))))
  rcases List.mem_cons.mp hy with rfl | hy
  · exact h1
  rcases List.mem_cons.mp hy with rfl | hy
  · exact h2
  rcases List.mem_cons.mp hy with rfl | hy
  · exact h3
  rcases List.mem_cons.mp hy with rfl | hy
  · exact h4
  rcases List.mem_cons.mp hy with rfl | hy
  · exact h5
  exact h y (.tail _ (.tail _ (.tail _ (.tail _ (.tail _ hy)))))
theorem column_use {w : World} {A A₀ : Around} {base h₀ : Heap} {mean : ExcName → Option Value} {mg mb : Str → Option Value} {s : Shared} {L : Addr} {env : Env} {m : Str → Option Value} {E Q : Value → Shared → Prop} {c : C1} {R : List (Addr × Obj)} {PC : Addr} {oPC : Obj} {row : Str} {t : Tok} {its : Array Value} {k : Nat}
    (hh : A.handled = none) (hA : A.frames = some [env]) (hf : env.frame = some L) (hck : env.scope.kind = .function) (B : Below A₀ base [] h₀) (F : Fr h₀ L s.heap m) (KX : (hd01.heap_39 w.params).In h₀) (T : TopW' mean mg mb h₀)
    (N : News h₀ L s.heap ((PC, oPC) :: (pgLed w c.p c.d c.o c.a1 c.a2 t row its k ++ R))) (ok : c.Ok L) (hfar : ∀ y ∈ (PC, oPC) :: R, @Ne Nat y.1 c.p ∧ @Ne Nat y.1 c.d ∧ @Ne Nat y.1 c.o)
    (hb2 : row.length ≤ 40000) (hdp : A.depth ≤ 800) (hun : A.units ≤ 9 * 800)
    (kQ : ∀ h' tk' tv, Fr h₀ L h' m → News h₀ L h' ((PC, oPC) :: (pgLed w c.p c.d c.o c.a1 c.a2 t row its k ++ R)) → Q (.int ((row.length : Int) + 1) tv) { s with heap := h', toks := tk' }) :
    wpAny (model PROG w) A (call (.ref 121) [.ref c.p]) Q E s := by
  obtain ⟨o3, o4, o5, o6⟩ := ok.ord
  refine Spec.useX (rest := (PC, oPC) :: R) (column_of_spec (Nat.ne_of_gt o3) (Nat.ne_of_lt o4) (Nat.ne_of_lt (Nat.lt_trans o3 o4)) hb2) hh hA hf hck B F KX T (fun y hy => N y (mem4.mp hy)) (fun y hy y' hy' => ?_) hdp hun (fun v h' tk' led' F8 N8 hap8 o8 => ?_)
  · have z := hfar y hy
    rcases List.mem_cons.mp hy' with rfl | hy'
    · exact z.1
    rcases List.mem_cons.mp hy' with rfl | hy'
    · exact z.2.1
    obtain rfl := List.mem_singleton.mp hy'
    exact z.2.2
  · obtain ⟨rfl, tv, rfl⟩ := o8
    exact kQ h' tk' tv F8 (fun y hy => N8 y (mem4.mpr hy))
theorem rows_use {w : World} {A A₀ : Around} {base h₀ : Heap} {mean : ExcName → Option Value} {mg mb : Str → Option Value} {s : Shared} {L : Addr} {env : Env} {m : Str → Option Value} {E Q : Value → Shared → Prop} {c : C1} {R : List (Addr × Obj)} {S : PS} {t : Tok} {its : Array Value} {k : Nat}
    (hh : A.handled = none) (hA : A.frames = some [env]) (hf : env.frame = some L) (hck : env.scope.kind = .function) (B : Below A₀ base [] h₀) (F : Fr h₀ L s.heap m) (KX : (hd01.heap_39 w.params).In h₀) (T : TopW' mean mg mb h₀)
    (N : News h₀ L s.heap (pgLed w c.p c.d c.o c.a1 c.a2 t S.2 its k ++ R)) (ok : c.Ok L) (hfar : ∀ y ∈ R, @Ne Nat y.1 c.p ∧ @Ne Nat y.1 c.d ∧ @Ne Nat y.1 c.o)
    (hS : StrsAre its.toList S.1) (hb1 : S.1.length ≤ 40000) (hb2 : S.2.length ≤ 40000) (hdp : A.depth ≤ 800) (hun : A.units ≤ 9 * 800)
    (kQ : ∀ h' tk' r8 its8 k8, Fr h₀ L h' m → News h₀ L h' ((r8, W.listOf its8 k8) :: R) → (∀ y ∈ R, y.1 ≠ r8) → StrsAre its8.toList (allRows S) → Q (.ref r8) { s with heap := h', toks := tk' }) :
    wpAny (model PROG w) A (call (.ref 128) [.ref c.p]) Q E s := by
  obtain ⟨o3, o4, o5, o6⟩ := ok.ord
  refine Spec.useX (rest := R) (all_rows_of_spec (rows := S.1) (row := S.2) (Nat.ne_of_gt o3) (Nat.ne_of_lt o4) (Nat.ne_of_lt (Nat.lt_trans o3 o4)) hS hb1 hb2) hh hA hf hck B F KX T N (fun y hy y' hy' => ?_) hdp hun (fun v h' tk' led' F8 N8 hap8 o8 => ?_)
  · have z := hfar y hy
    rcases List.mem_cons.mp hy' with rfl | hy'
    · exact z.1
    rcases List.mem_cons.mp hy' with rfl | hy'
    · exact z.2.1
    obtain rfl := List.mem_singleton.mp hy'
    exact z.2.2
  · obtain ⟨r, its', k', rfl, rfl, S8⟩ := o8
    exact kQ h' tk' r its' k' F8 (fun y hy => N8 y (by
      rcases List.mem_cons.mp hy with rfl | hy
      · exact .head _
      · exact .tail _ (List.mem_append_right _ hy))) (fun y hy => hap8 y hy _ (.head _)) S8
theorem frames_low {cn : Str} {cs : Scope} {ccd : Value} {cl : List (Str × Addr)} {h₀ h : Heap} {L a : Addr} {m : Str → Option Value} (F : Fr h₀ L h m) : ∀ b o, h₀.get? b = some o → b ∉ ([envX cn cs L a ccd cl] : List Env).filterMap (·.frame) := fun b o hb hm => by
  obtain ⟨e, he, hf⟩ := List.mem_filterMap.mp hm
  obtain rfl := List.mem_singleton.mp he
  obtain rfl : L = b := Option.some.inj hf
  rw [Heap.get?_none_of_le F.above] at hb
  cases hb
theorem add_arr {prog : Program} {w : World} {A : Around} {E : Value → Shared → Prop} {s : Shared} {h₀ : Heap} {L a b : Addr} {m : Str → Option Value} {news : List (Addr × Obj)} {vs : Array Value} {ws : List Value} {Q : Value → Shared → Prop} (F : Fr h₀ L s.heap m) (N : News h₀ L s.heap news) (ha : s.heap.IsList a vs) (hb : s.heap.IsList b ws.toArray) (h1 : vs.toList.length + ws.length ≤ 30000)
    (h : ∀ D h', Fr h₀ L h' m → News h₀ L h' ((D, W.listOf (vs.toList ++ ws).toArray 0) :: news) → Q (.ref D) { s with heap := h' }) : wpAny (model prog w) A (binaryOp .Add (.ref a) (.ref b)) Q E s :=
  kmk_add_lit F N ha hb rfl (fun D h' F' N' _ => h D h' F' N') (by simp only [sizeLine_eq]; omega)
theorem rows_end {rows : List Str} {row : Str} {vs : Array Value} {ys : List Value} (h : StrsAre vs.toList rows) (hy : CarriedAll ys (List.map (fun a => PyData.str a) (List.filter (fun a => a != Str.ofString "") [row]))) : StrsAre (vs.toList ++ ys) (allRows (rows, row)) := by
  have hy' := CarriedAll.strsOf hy
  unfold allRows
  dsimp only
  by_cases hr : row = Str.ofString ""
  · rw [if_pos hr]
    rw [show List.filter (fun a => a != Str.ofString "") [row] = [] by rw [List.filter_cons_of_neg (by simp [hr])]; rfl] at hy'
    cases hy'
    rwa [List.append_nil]
  · rw [if_neg hr]
    rw [show List.filter (fun a => a != Str.ofString "") [row] = [row] by rw [List.filter_cons_of_pos (by simp [hr])]; rfl] at hy'
    exact StrsAre.append' h hy'
theorem ys_len {row : Str} {ys : List Value} (hy : CarriedAll ys (List.map (fun a => PyData.str a) (List.filter (fun a => a != Str.ofString "") [row]))) : ys.length ≤ 1 := by
  rw [hy.length_eq, List.length_map]
  exact List.length_filter_le _ _
end Mine
namespace Mine
local macro_rules | `(tactic| walk_at "And") => `(tactic| refine Stop.intro ?_)
local macro_rules | `(tactic| walk_at "Exists") => `(tactic| refine Stop.intro ?_)
local macro_rules | `(tactic| walk_at "exec Try") => `(tactic| refine Stop.intro ?_)
local macro_rules | `(tactic| walk_at "exec For Name Name cons nil") => `(tactic| refine Stop.intro ?_)
local macro_rules | `(tactic| walk_at "exec For Name Call cons nil") => `(tactic| refine Stop.intro ?_)
local macro_rules | `(tactic| walk_at "exec For") => `(tactic| refine Stop.intro ?_)
theorem law01 : PySem.Challenge.rw_pq0159_01.Holds := hd01 (by
  k_go0
  dsimp only
  rename Top _ _ _ _ _ _ => T
  rename (hd01.heap_39 _).In _ => KX
  rename Below _ _ _ _ => K0
  rename Fr _ _ _ _ => F0
  rename CellsAre _ _ _ => Y0
  obtain ⟨oc0, hcell0, hoc0⟩ := CellsAre.one Y0
  injection hcell0 with hc1 hc2
  injection hc1 with hc3 hc4
  subst hc4
  clear Y0 hc2 hc3
  refine stage12 F0 ?_ fun s2 hM2 => ?_
  · intro E
    (repeat' (first | (with_reducible ((show wpAny _ _ (exec _ _) _ _ _); (fail_if_success (refine hid_probe (by assumption) ?_)); refine hid_any (fun _ _ => ?_))) | (with_reducible (refine Hid.go (by assumption) _ _ ?_)) | ((with_reducible show wpAny _ _ (execs _ _) _ _ _); dsimp only) | (with_reducible ((show wpAny _ _ (eval (Expr.ListComp (Expr.Call (Expr.Name (Str.ofString "_law_part") _) _ _ _) _ _ _) _) _ _ _); refine Stop.intro ?_)) | (k_unfold; (try dsimp only)) | walk1 | (dsimp only; walk1)))
    try unfold Stop
    refine ⟨by first | rfl | trivial, ?_⟩
    (repeat' (first | (with_reducible ((show wpAny _ _ (exec _ _) _ _ _); (fail_if_success (refine hid_probe (by assumption) ?_)); refine hid_any (fun _ _ => ?_))) | (with_reducible (refine Hid.go (by assumption) _ _ ?_)) | ((with_reducible show wpAny _ _ (execs _ _) _ _ _); dsimp only) | (with_reducible ((show wpAny _ _ (eval (Expr.ListComp (Expr.Call (Expr.Name (Str.ofString "_law_part") _) _ _ _) _ _ _) _) _ _ _); refine Stop.intro ?_)) | (k_unfold; (try dsimp only)) | walk1 | (dsimp only; walk1)))
    all_goals (
      try unfold Stop
      refine ⟨by first | rfl | trivial, ?_⟩
      rename IntsAre _ (_ ++ _) => hI2
      rename Fr _ _ _ _ => F2
      rename News _ _ _ _ => N2
      obtain ⟨q1, q2, q3⟩ := some_ok hI2 (by omega)
      refine ⟨_, _, _, _, _, _, _, _, _, _, _, _, _, rfl, F2, news_37 N2, hoc0, ?_, hI2, q1, q2, q3, ?_, ?_, ?_, ?_⟩)
    all_goals (first | exact (b7 _).1 | exact (b7 _).2 | exact (b26 _).1 | exact (b26 _).2 | decide | ((repeat (rename @LT.lt Nat _ _ _ ∧ _ => hc9; obtain ⟨_, _⟩ := hc9)); assumption))
  obtain ⟨m0, h2, tk2, D, vs, ns, k2, width, zone, tw, tz, oc, vc, rfl, F2, N2, hoc, hD, hI, hn0, hl0, hl1, hw0, hw1, hz0, hz1⟩ := hM2
  clear F0 hoc0
  refine stage3 F2 ?_ fun s3 hM3 => ?_
  · intro E
    (repeat' (first | (with_reducible ((show wpAny _ _ (exec _ _) _ _ _); (fail_if_success (refine hid_probe (by assumption) ?_)); refine hid_any (fun _ _ => ?_))) | (with_reducible (refine Hid.go (by assumption) _ _ ?_)) | ((with_reducible show wpAny _ _ (execs _ _) _ _ _); dsimp only) | (with_reducible ((show wpAny _ _ (eval (Expr.ListComp (Expr.Call (Expr.Name (Str.ofString "_law_part") _) _ _ _) _ _ _) _) _ _ _); refine Stop.intro ?_)) | (k_unfold; (try dsimp only)) | walk1 | (dsimp only; walk1)))
    try unfold Stop
    refine ⟨by first | rfl | trivial, ?_⟩
    rename Fr _ _ _ _ => F9
    rename News _ _ _ _ => N9
    refine ⟨_, _, D, vs, ns, k2, width, zone, tw, tz, oc, vc, _, _, _, _, _, _, _, _, _, _, _, _, rfl, F9, reorder8 N9, hoc, ?_, hI, hn0, hl0, hl1, hw0, hw1, hz0, hz1⟩
    repeat (rename @LT.lt Nat _ _ _ ∧ _ => hc9; obtain ⟨_, _⟩ := hc9)
    exact ⟨by assumption, by assumption, by assumption, by assumption, by assumption, by assumption⟩
  clear F2 N2
  obtain ⟨h3, tk3, D, vs, ns, k2, width, zone, tw, tz, oc, vc, p, d, o, q, r, a1, a2, t, tq, ko, kq, kr, rfl, F3, N3, hoc, ord, hI, hn0, hl0, hl1, hw0, hw1, hz0, hz1⟩ := hM3
  refine stage4 F3 ?_ fun s4 hM4 => ?_
  · intro E
    (repeat' (first | (with_reducible ((show wpAny _ _ (exec _ _) _ _ _); (fail_if_success (refine hid_probe (by assumption) ?_)); refine hid_any (fun _ _ => ?_))) | (with_reducible (refine Hid.go (by assumption) _ _ ?_)) | ((with_reducible show wpAny _ _ (execs _ _) _ _ _); dsimp only) | (with_reducible ((show wpAny _ _ (eval (Expr.ListComp (Expr.Call (Expr.Name (Str.ofString "_law_part") _) _ _ _) _ _ _) _) _ _ _); refine Stop.intro ?_)) | (k_unfold; (try dsimp only)) | walk1 | (dsimp only; walk1)))
    try unfold Stop
    refine comp_eval rfl rfl K0 KX T (Nat.le_of_ble_eq_true rfl) (Nat.le_of_ble_eq_true rfl) rfl (by decide) (by decide) rfl (by decide) rfl rfl ?_
    (repeat' (first | (with_reducible ((show wpAny _ _ (exec _ _) _ _ _); (fail_if_success (refine hid_probe (by assumption) ?_)); refine hid_any (fun _ _ => ?_))) | (with_reducible (refine Hid.go (by assumption) _ _ ?_)) | ((with_reducible show wpAny _ _ (execs _ _) _ _ _); dsimp only) | (with_reducible ((show wpAny _ _ (eval (Expr.ListComp (Expr.Call (Expr.Name (Str.ofString "_law_part") _) _ _ _) _ _ _) _) _ _ _); refine Stop.intro ?_)) | (k_unfold; (try dsimp only)) | walk1 | (dsimp only; walk1)))
    try unfold Stop
    rename Fr _ _ _ _ => F9
    rename News _ _ _ _ => N9
    rename IntsAre _ (List.drop 1 ns) => hI9
    have hdl : (List.drop 1 ns).length ≤ 14 := by rw [List.length_drop]; omega
    refine ⟨_, _, _, _, _, rfl, F9, N9, fun h N => ⟨_, (N _ (.head _)).1, rfl, _, rfl⟩, hI9, fun n hn => hn0 n (List.mem_of_mem_drop hn), by rw [hI9.length]; omega, fun PL h' tk accs qs tl k F8 N8 hap8 hnd8 htl8 hnw8 hp8 hlen8 => ?_⟩
    (repeat' (first | (with_reducible ((show wpAny _ _ (exec _ _) _ _ _); (fail_if_success (refine hid_probe (by assumption) ?_)); refine hid_any (fun _ _ => ?_))) | (with_reducible (refine Hid.go (by assumption) _ _ ?_)) | ((with_reducible show wpAny _ _ (execs _ _) _ _ _); dsimp only) | (with_reducible ((show wpAny _ _ (eval (Expr.ListComp (Expr.Call (Expr.Name (Str.ofString "_law_part") _) _ _ _) _ _ _) _) _ _ _); refine Stop.intro ?_)) | (k_unfold; (try dsimp only)) | walk1 | (dsimp only; walk1)))
    refine store_cell F8 N8 (List.mem_cons_of_mem _ (List.mem_append_right _ (.tail _ (.head _)))) hoc rfl rfl rfl fun h9 oc9 F10 N10 Nc10 hoc9 => ?_
    (repeat' (first | (with_reducible ((show wpAny _ _ (exec _ _) _ _ _); (fail_if_success (refine hid_probe (by assumption) ?_)); refine hid_any (fun _ _ => ?_))) | (with_reducible (refine Hid.go (by assumption) _ _ ?_)) | ((with_reducible show wpAny _ _ (execs _ _) _ _ _); dsimp only) | (with_reducible ((show wpAny _ _ (eval (Expr.ListComp (Expr.Call (Expr.Name (Str.ofString "_law_part") _) _ _ _) _ _ _) _) _ _ _); refine Stop.intro ?_)) | (k_unfold; (try dsimp only)) | walk1 | (dsimp only; walk1)))
    try unfold Stop
    exact ⟨by first | rfl | trivial, M4_pack F10 N10 Nc10 hoc9 ord hap8 hnw8 hp8 (by rw [hlen8, hI9.length]; omega) hw0 hw1 hz0 hz1⟩
  clear F3 N3
  obtain ⟨h4, tk4, width, zone, tw, tz, oc, PL, pvs, qs, tl, kp, p, d, o, q, r, a1, a2, t, tq, ko, kq, kr, m1, rfl, F4, N4, hoc, ord, hpg, hmn, hp, hlen, hw0, hw1, hz0, hz1⟩ := hM4
  have hpl : pvs.length = qs.length := hp.length
  simp only [pgLed, mnLed, List.cons_append, List.nil_append] at N4
  refine stage5 F4 ?_ fun s5 hM5 => ?_
  · intro E
    (repeat' (first | (with_reducible ((show wpAny _ _ (exec _ _) _ _ _); (fail_if_success (refine hid_probe (by assumption) ?_)); refine hid_any (fun _ _ => ?_))) | (with_reducible (refine Hid.go (by assumption) _ _ ?_)) | ((with_reducible show wpAny _ _ (execs _ _) _ _ _); dsimp only) | (with_reducible (k_here; (with_reducible show wpAny _ _ (call (Value.builtin "len") [Value.ref _]) _ _ _); k_dflt (refine' len_own (News.isList (by k_asm) (by k_mem)) (by assumption) (by omega) ?_; k_whole))) | (k_unfold; (try dsimp only)) | walk1 | (dsimp only; walk1)))
    try unfold Stop
    rename Fr _ _ _ _ => F9
    rename News _ _ _ _ => N9
    rename IntsAre _ (List.map _ (rangeKs _ _)) => hI9
    refine ⟨by first | rfl | trivial, M5_pack F9 N9 hoc ord hpg hmn ?_ hp hlen (cuts_ok hI9 (by omega)) hw0 hw1 hz0 hz1⟩
    rename _ ∧ _ ∧ _ ∧ _ ∧ _ ∧ _ ∧ _ ∧ LCg.Off1 _ _ => ho
    obtain ⟨_, _, z1, z2, z3, z4, z5, _⟩ := ho
    exact ⟨z1, z2, z3, z4, z5⟩
  clear F4 N4
  obtain ⟨h5, tk5, c, rfl, ok, F5, t, tq, its, itq, k, kq, kr, N5, hS, hS'⟩ := hM5
  (repeat' (first | (with_reducible ((show wpAny _ _ (exec _ _) _ _ _); (fail_if_success (refine hid_probe (by assumption) ?_)); refine hid_any (fun _ _ => ?_))) | (with_reducible (refine Hid.go (by assumption) _ _ ?_)) | ((with_reducible show wpAny _ _ (execs _ _) _ _ _); dsimp only) | (with_reducible ((show wpAny _ _ (pyIter (Value.ref _)) _ _ _); refine Stop.intro ?_)) | (with_reducible ((show wpAny _ _ (noteFrame (Value.ref _) _) _ _ _); refine Stop.intro ?_)) | (with_reducible ((show wpAny _ _ (_ >>= _) _ _ _); refine Stop.intro ?_)) | (with_reducible ((show wpAny _ _ (getAttr (Value.ref _) (Str.ofString "code") _) _ _ _); refine Stop.intro ?_)) | (with_reducible ((show wpAny _ _ (subscriptTail _ _ _ _) _ _ _); refine Stop.intro ?_)) | (with_reducible ((show wpAny _ _ (compareOp CmpOp.Eq (Value.ref _) (Value.ref _)) _ _ _); refine Stop.intro ?_)) | (with_reducible ((show wpAny _ _ (compareOp CmpOp.NotEq (Value.ref _) (Value.ref _)) _ _ _); refine Stop.intro ?_)) | (with_reducible ((show wpAny _ _ (call (Value.builtin "len") [Value.ref _]) _ _ _); refine Stop.intro ?_)) | (with_reducible ((show wpAny _ _ (eval (PySem.Expr.ListComp _ _ _ _) _) _ _ _); refine Stop.intro ?_)) | (k_unfold; (try dsimp only)) | walk1 | (dsimp only; walk1)))
  try unfold Stop
  refine wpAny_For ?_
  (repeat' (first | (with_reducible ((show wpAny _ _ (exec _ _) _ _ _); (fail_if_success (refine hid_probe (by assumption) ?_)); refine hid_any (fun _ _ => ?_))) | (with_reducible (refine Hid.go (by assumption) _ _ ?_)) | ((with_reducible show wpAny _ _ (execs _ _) _ _ _); dsimp only) | (with_reducible ((show wpAny _ _ (pyIter (Value.ref _)) _ _ _); refine Stop.intro ?_)) | (with_reducible ((show wpAny _ _ (noteFrame (Value.ref _) _) _ _ _); refine Stop.intro ?_)) | (with_reducible ((show wpAny _ _ (_ >>= _) _ _ _); refine Stop.intro ?_)) | (with_reducible ((show wpAny _ _ (getAttr (Value.ref _) (Str.ofString "code") _) _ _ _); refine Stop.intro ?_)) | (with_reducible ((show wpAny _ _ (subscriptTail _ _ _ _) _ _ _); refine Stop.intro ?_)) | (with_reducible ((show wpAny _ _ (compareOp CmpOp.Eq (Value.ref _) (Value.ref _)) _ _ _); refine Stop.intro ?_)) | (with_reducible ((show wpAny _ _ (compareOp CmpOp.NotEq (Value.ref _) (Value.ref _)) _ _ _); refine Stop.intro ?_)) | (with_reducible ((show wpAny _ _ (call (Value.builtin "len") [Value.ref _]) _ _ _); refine Stop.intro ?_)) | (with_reducible ((show wpAny _ _ (eval (PySem.Expr.ListComp _ _ _ _) _) _ _ _); refine Stop.intro ?_)) | (k_unfold; (try dsimp only)) | walk1 | (dsimp only; walk1)))
  try unfold Stop
  rename IsRange _ _ _ _ _ _ _ _ => hr
  rename Fr _ _ _ _ => F6
  rename News _ _ _ _ => N6
  refine loop_range (h₀ := _) (n := 3) (P6 _ _ c) rfl (slots_of (c := c) F6 (fun _ _ _ _ _ _ _ => rfl)) N6 hr (by decide) ⟨PS0, t, tq, its, itq, k, kq, kr, _, _, _, _, _, _, rfl, rfl, hS, hS', by decide, by decide⟩ ?_ ?_
  · intro it oi i u m' news' h tk hi hne hp6 F' N'
    obtain ⟨S, t, tq, its, itq, k, kq, kr, vt, vp, vr, va, vh, vf, rfl, rfl, hS, hS', hb1, hb2⟩ := hp6
    clear F6 N6 hr
    try clear F5 N5
    have hcv := ok.hcv
    have hcl := ok.hcl
    have hoc := ok.hoc
    have hlen := ok.hlen
    have hpl : c.pvs.length = c.qs.length := ok.hp.length
    refine wpAny_assign_Name (storeX_L F' N' (fun h1 F1 N1 => ?_) rfl rfl)
    clear F' N'
    refine turn1 (c := c) (Z := [(it, oi)]) (S := S) F1 ?_ (fun s7 hT1 => ?_)
    · intro E
      unfold C1.rest at N1
      simp only [pgLed, mnLed, List.cons_append, List.nil_append, List.append_assoc] at N1
      unfold C1.slots C1.vars at F1
      (repeat' (first | (with_reducible ((show wpAny _ _ (exec _ _) _ _ _); (fail_if_success (refine hid_probe (by assumption) ?_)); refine hid_any (fun _ _ => ?_))) | (with_reducible (refine Hid.go (by assumption) _ _ ?_)) | ((with_reducible show wpAny _ _ (execs _ _) _ _ _); dsimp only) | (with_reducible ((show wpAny _ _ (pyIter (Value.ref _)) _ _ _); refine Stop.intro ?_)) | (with_reducible ((show wpAny _ _ (noteFrame (Value.ref _) _) _ _ _); refine Stop.intro ?_)) | (with_reducible ((show wpAny _ _ (_ >>= _) _ _ _); refine Stop.intro ?_)) | (with_reducible ((show wpAny _ _ (getAttr (Value.ref _) (Str.ofString "code") _) _ _ _); refine Stop.intro ?_)) | (with_reducible ((show wpAny _ _ (subscriptTail _ _ _ _) _ _ _); refine Stop.intro ?_)) | (with_reducible ((show wpAny _ _ (compareOp CmpOp.Eq (Value.ref _) (Value.ref _)) _ _ _); refine Stop.intro ?_)) | (with_reducible ((show wpAny _ _ (compareOp CmpOp.NotEq (Value.ref _) (Value.ref _)) _ _ _); refine Stop.intro ?_)) | (with_reducible ((show wpAny _ _ (call (Value.builtin "len") [Value.ref _]) _ _ _); refine Stop.intro ?_)) | (with_reducible ((show wpAny _ _ (eval (PySem.Expr.ListComp _ _ _ _) _) _ _ _); refine Stop.intro ?_)) | (k_unfold; (try dsimp only)) | walk1 | (dsimp only; walk1)))
      try unfold Stop
      refine item_any (lo := 0) (hi := 20) (News.isList (by k_asm) (by k_mem)) hcv (by omega) (by omega) (by omega) (fun n9 t9 b91 b92 => ?_) (by with_unfolding_all rfl)
      (repeat' (first | (with_reducible ((show wpAny _ _ (exec _ _) _ _ _); (fail_if_success (refine hid_probe (by assumption) ?_)); refine hid_any (fun _ _ => ?_))) | (with_reducible (refine Hid.go (by assumption) _ _ ?_)) | ((with_reducible show wpAny _ _ (execs _ _) _ _ _); dsimp only) | (with_reducible ((show wpAny _ _ (pyIter (Value.ref _)) _ _ _); refine Stop.intro ?_)) | (with_reducible ((show wpAny _ _ (noteFrame (Value.ref _) _) _ _ _); refine Stop.intro ?_)) | (with_reducible ((show wpAny _ _ (_ >>= _) _ _ _); refine Stop.intro ?_)) | (with_reducible ((show wpAny _ _ (getAttr (Value.ref _) (Str.ofString "code") _) _ _ _); refine Stop.intro ?_)) | (with_reducible ((show wpAny _ _ (subscriptTail _ _ _ _) _ _ _); refine Stop.intro ?_)) | (with_reducible ((show wpAny _ _ (compareOp CmpOp.Eq (Value.ref _) (Value.ref _)) _ _ _); refine Stop.intro ?_)) | (with_reducible ((show wpAny _ _ (compareOp CmpOp.NotEq (Value.ref _) (Value.ref _)) _ _ _); refine Stop.intro ?_)) | (with_reducible ((show wpAny _ _ (call (Value.builtin "len") [Value.ref _]) _ _ _); refine Stop.intro ?_)) | (with_reducible ((show wpAny _ _ (eval (PySem.Expr.ListComp _ _ _ _) _) _ _ _); refine Stop.intro ?_)) | (k_unfold; (try dsimp only)) | walk1 | (dsimp only; walk1)))
      try unfold Stop
      refine item_any (lo := 0) (hi := 20) (News.isList (by k_asm) (by k_mem)) hcv (by omega) (by omega) (by omega) (fun n8 t8 b81 b82 => ?_) (by with_unfolding_all rfl)
      (repeat' (first | (with_reducible ((show wpAny _ _ (exec _ _) _ _ _); (fail_if_success (refine hid_probe (by assumption) ?_)); refine hid_any (fun _ _ => ?_))) | (with_reducible (refine Hid.go (by assumption) _ _ ?_)) | ((with_reducible show wpAny _ _ (execs _ _) _ _ _); dsimp only) | (with_reducible ((show wpAny _ _ (pyIter (Value.ref _)) _ _ _); refine Stop.intro ?_)) | (with_reducible ((show wpAny _ _ (noteFrame (Value.ref _) _) _ _ _); refine Stop.intro ?_)) | (with_reducible ((show wpAny _ _ (_ >>= _) _ _ _); refine Stop.intro ?_)) | (with_reducible ((show wpAny _ _ (getAttr (Value.ref _) (Str.ofString "code") _) _ _ _); refine Stop.intro ?_)) | (with_reducible ((show wpAny _ _ (subscriptTail _ _ _ _) _ _ _); refine Stop.intro ?_)) | (with_reducible ((show wpAny _ _ (compareOp CmpOp.Eq (Value.ref _) (Value.ref _)) _ _ _); refine Stop.intro ?_)) | (with_reducible ((show wpAny _ _ (compareOp CmpOp.NotEq (Value.ref _) (Value.ref _)) _ _ _); refine Stop.intro ?_)) | (with_reducible ((show wpAny _ _ (call (Value.builtin "len") [Value.ref _]) _ _ _); refine Stop.intro ?_)) | (with_reducible ((show wpAny _ _ (eval (PySem.Expr.ListComp _ _ _ _) _) _ _ _); refine Stop.intro ?_)) | (k_unfold; (try dsimp only)) | walk1 | (dsimp only; walk1)))
      try unfold Stop
      refine slice_own (by k_asm) (by k_asm) (News.isList (by k_asm) (by k_mem)) hpl (by omega) (by omega) (by omega) (fun D9 h9 F9 N9 l9 => ?_) (by with_unfolding_all rfl) (by kmk_pure)
      k_lt l9
      (repeat' (first | (with_reducible ((show wpAny _ _ (exec _ _) _ _ _); (fail_if_success (refine hid_probe (by assumption) ?_)); refine hid_any (fun _ _ => ?_))) | (with_reducible (refine Hid.go (by assumption) _ _ ?_)) | ((with_reducible show wpAny _ _ (execs _ _) _ _ _); dsimp only) | (with_reducible ((show wpAny _ _ (pyIter (Value.ref _)) _ _ _); refine Stop.intro ?_)) | (with_reducible ((show wpAny _ _ (noteFrame (Value.ref _) _) _ _ _); refine Stop.intro ?_)) | (with_reducible ((show wpAny _ _ (_ >>= _) _ _ _); refine Stop.intro ?_)) | (with_reducible ((show wpAny _ _ (getAttr (Value.ref _) (Str.ofString "code") _) _ _ _); refine Stop.intro ?_)) | (with_reducible ((show wpAny _ _ (subscriptTail _ _ _ _) _ _ _); refine Stop.intro ?_)) | (with_reducible ((show wpAny _ _ (compareOp CmpOp.Eq (Value.ref _) (Value.ref _)) _ _ _); refine Stop.intro ?_)) | (with_reducible ((show wpAny _ _ (compareOp CmpOp.NotEq (Value.ref _) (Value.ref _)) _ _ _); refine Stop.intro ?_)) | (with_reducible ((show wpAny _ _ (call (Value.builtin "len") [Value.ref _]) _ _ _); refine Stop.intro ?_)) | (with_reducible ((show wpAny _ _ (eval (PySem.Expr.ListComp _ _ _ _) _) _ _ _); refine Stop.intro ?_)) | (k_unfold; (try dsimp only)) | walk1 | (dsimp only; walk1)))
      try unfold Stop
      rename Fr _ _ _ _ => F9
      rename News _ _ _ _ => N9
      rename @LT.lt Nat _ c.p _ ∧ @LT.lt Nat _ c.d _ ∧ _ => ho
      exact ⟨by first | rfl | trivial, T1_pack F9 (fun y h1 h2 h3 h4 h5 h6 => by simp only [if_neg h1, if_neg h2, if_neg h3, if_neg h4, if_neg h5, if_neg h6]; rfl) rfl rfl N9 ho ok hS hS'⟩
    clear F1 N1
    obtain ⟨PC, PV, QV, kpc, hPC, hQ, hQl, ⟨h2, tk2, tr, t, tq, its, itq, k, kq, kr, vt, va, vh, vf, rfl, F2, N2, hS, hS'⟩⟩ := hT1
    refine turn2 (c := c) (Z := [(it, oi)]) (PC := PC) (PV := PV) (kpc := kpc) (S := S) (QV := QV) F2 ?_ (fun s8 hT2 => ?_)
    · intro E
      have N3 := N2
      unfold C1.rest at N3
      simp only [pgLed, mnLed, List.cons_append, List.nil_append, List.append_assoc] at N3
      have F3 := F2
      unfold C1.slots C1.vars at F3
      clear N2 F2
      (repeat' (first | (with_reducible ((show wpAny _ _ (exec _ _) _ _ _); (fail_if_success (refine hid_probe (by assumption) ?_)); refine hid_any (fun _ _ => ?_))) | (with_reducible (refine Hid.go (by assumption) _ _ ?_)) | ((with_reducible show wpAny _ _ (execs _ _) _ _ _); dsimp only) | (with_reducible ((show wpAny _ _ (pyIter (Value.ref _)) _ _ _); refine Stop.intro ?_)) | (with_reducible ((show wpAny _ _ (noteFrame (Value.ref _) _) _ _ _); refine Stop.intro ?_)) | (with_reducible ((show wpAny _ _ (_ >>= _) _ _ _); refine Stop.intro ?_)) | (with_reducible ((show wpAny _ _ (getAttr (Value.ref _) (Str.ofString "code") _) _ _ _); refine Stop.intro ?_)) | (with_reducible ((show wpAny _ _ (subscriptTail _ _ _ _) _ _ _); refine Stop.intro ?_)) | (with_reducible ((show wpAny _ _ (compareOp CmpOp.Eq (Value.ref _) (Value.ref _)) _ _ _); refine Stop.intro ?_)) | (with_reducible ((show wpAny _ _ (compareOp CmpOp.NotEq (Value.ref _) (Value.ref _)) _ _ _); refine Stop.intro ?_)) | (with_reducible ((show wpAny _ _ (call (Value.builtin "len") [Value.ref _]) _ _ _); refine Stop.intro ?_)) | (with_reducible ((show wpAny _ _ (eval (PySem.Expr.ListComp _ _ _ _) _) _ _ _); refine Stop.intro ?_)) | (k_unfold; (try dsimp only)) | walk1 | (dsimp only; walk1)))
      try unfold Stop
      refine wpAny_For ?_
      (repeat' (first | (with_reducible ((show wpAny _ _ (exec _ _) _ _ _); (fail_if_success (refine hid_probe (by assumption) ?_)); refine hid_any (fun _ _ => ?_))) | (with_reducible (refine Hid.go (by assumption) _ _ ?_)) | ((with_reducible show wpAny _ _ (execs _ _) _ _ _); dsimp only) | (with_reducible ((show wpAny _ _ (pyIter (Value.ref _)) _ _ _); refine Stop.intro ?_)) | (with_reducible ((show wpAny _ _ (noteFrame (Value.ref _) _) _ _ _); refine Stop.intro ?_)) | (with_reducible ((show wpAny _ _ (_ >>= _) _ _ _); refine Stop.intro ?_)) | (with_reducible ((show wpAny _ _ (getAttr (Value.ref _) (Str.ofString "code") _) _ _ _); refine Stop.intro ?_)) | (with_reducible ((show wpAny _ _ (subscriptTail _ _ _ _) _ _ _); refine Stop.intro ?_)) | (with_reducible ((show wpAny _ _ (compareOp CmpOp.Eq (Value.ref _) (Value.ref _)) _ _ _); refine Stop.intro ?_)) | (with_reducible ((show wpAny _ _ (compareOp CmpOp.NotEq (Value.ref _) (Value.ref _)) _ _ _); refine Stop.intro ?_)) | (with_reducible ((show wpAny _ _ (call (Value.builtin "len") [Value.ref _]) _ _ _); refine Stop.intro ?_)) | (with_reducible ((show wpAny _ _ (eval (PySem.Expr.ListComp _ _ _ _) _) _ _ _); refine Stop.intro ?_)) | (k_unfold; (try dsimp only)) | walk1 | (dsimp only; walk1)))
      try unfold Stop
      rename News _ _ _ _ => N9
      refine loop_list (h₀ := _) (vs := PV) (P2 _ _ c [(it, oi)] PC PV kpc S QV) rfl (slots_of (c := c) F3 (fun y h1 h2 h3 h4 h5 h6 => by simp only [if_neg h1, if_neg h2, if_neg h3, if_neg h4, if_neg h5, if_neg h6]; rfl)) N9 ⟨S, false, QV, tr, t, tq, its, itq, k, kq, kr, _, _, _, _, hQ, rfl, by omega, by omega, rfl, rfl, hS, hS'⟩ (fun rest m' news' h hp F N => ?_) ?_ ?_
      · obtain ⟨st, rf, qs', tr, t, tq, its, itq, k, kq, kr, vt, va, vh, vf, _, _, _, _, _, rfl, _, _⟩ := hp
        exact ⟨_, (N _ (.head _)).1, rfl, _, rfl⟩
      · intro it2 oi2 v rest m' news' h tk hne2 hp F' N'
        obtain ⟨st, rf, qs', tr, t, tq, its, itq, k, kq, kr, vt, va, vh, vf, hps, hrun, hq1, hq2, rfl, rfl, hS, hS'⟩ := hp
        try clear F3
        try clear N9
        try clear N3
        cases hps with
        | @cons ap ob q _ qs'' hmem hPA hqk hps' =>
        rw [List.length_cons] at hq1 hq2
        refine wpAny_assign_Name (storeX_L F' N' (fun h1 F1 N1 => ?_) rfl rfl)
        clear F' N'
        cases rf with
        | true =>
          unfold C1.slots C1.vars at F1
          unfold code at F1
          rw [if_pos rfl] at F1
          (repeat' (first | (with_reducible ((show wpAny _ _ (exec _ _) _ _ _); (fail_if_success (refine hid_probe (by assumption) ?_)); refine hid_any (fun _ _ => ?_))) | (with_reducible (refine Hid.go (by assumption) _ _ ?_)) | ((with_reducible show wpAny _ _ (execs _ _) _ _ _); dsimp only) | (with_reducible ((show wpAny _ _ (pyIter (Value.ref _)) _ _ _); refine Stop.intro ?_)) | (with_reducible ((show wpAny _ _ (noteFrame (Value.ref _) _) _ _ _); refine Stop.intro ?_)) | (with_reducible ((show wpAny _ _ (_ >>= _) _ _ _); refine Stop.intro ?_)) | (with_reducible ((show wpAny _ _ (getAttr (Value.ref _) (Str.ofString "code") _) _ _ _); refine Stop.intro ?_)) | (with_reducible ((show wpAny _ _ (subscriptTail _ _ _ _) _ _ _); refine Stop.intro ?_)) | (with_reducible ((show wpAny _ _ (compareOp CmpOp.Eq (Value.ref _) (Value.ref _)) _ _ _); refine Stop.intro ?_)) | (with_reducible ((show wpAny _ _ (compareOp CmpOp.NotEq (Value.ref _) (Value.ref _)) _ _ _); refine Stop.intro ?_)) | (with_reducible ((show wpAny _ _ (call (Value.builtin "len") [Value.ref _]) _ _ _); refine Stop.intro ?_)) | (with_reducible ((show wpAny _ _ (eval (PySem.Expr.ListComp _ _ _ _) _) _ _ _); refine Stop.intro ?_)) | (k_unfold; (try dsimp only)) | walk1 | (dsimp only; walk1)))
          try unfold Stop
          dsimp only
          exact ⟨_, _, _, _, rfl, slots_of (c := c) F1 (fun y h1 h2 h3 h4 h5 h6 => by simp only [if_neg h1, if_neg h2, if_neg h3, if_neg h4, if_neg h5, if_neg h6]; rfl), N1, ⟨st, true, qs'', tr, t, tq, its, itq, k, kq, kr, _, _, _, _, hps', by rw [hrun, lawParts_true, lawParts_true], by omega, by omega, rfl, rfl, hS, hS'⟩, hne2⟩
        | false =>
          unfold C1.slots C1.vars at F1
          unfold code at F1
          rw [if_neg (by decide)] at F1
          have n1 := hne _ (List.mem_append_right _ (List.mem_append_left _ (.head _)))
          have n2 := hne _ (List.mem_append_right _ (List.mem_append_left _ (.tail _ (.head _))))
          have n3 := hne2 _ (.tail _ (List.mem_append_right _ (List.mem_append_left _ (.head _))))
          have n4 := hne2 _ (.tail _ (List.mem_append_right _ (List.mem_append_left _ (.tail _ (.head _)))))
          have hpl9 := lawParted_len (st := st) (width := c.width) hqk ok.hz0 ok.hz1 ok.hw0
          (repeat' (first | (with_reducible ((show wpAny _ _ (exec _ _) _ _ _); (fail_if_success (refine hid_probe (by assumption) ?_)); refine hid_any (fun _ _ => ?_))) | (with_reducible (refine Hid.go (by assumption) _ _ ?_)) | ((with_reducible show wpAny _ _ (execs _ _) _ _ _); dsimp only) | (with_reducible ((show wpAny _ _ (pyIter (Value.ref _)) _ _ _); refine Stop.intro ?_)) | (with_reducible ((show wpAny _ _ (noteFrame (Value.ref _) _) _ _ _); refine Stop.intro ?_)) | (with_reducible ((show wpAny _ _ (_ >>= _) _ _ _); refine Stop.intro ?_)) | (with_reducible ((show wpAny _ _ (getAttr (Value.ref _) (Str.ofString "code") _) _ _ _); refine Stop.intro ?_)) | (with_reducible ((show wpAny _ _ (subscriptTail _ _ _ _) _ _ _); refine Stop.intro ?_)) | (with_reducible ((show wpAny _ _ (compareOp CmpOp.Eq (Value.ref _) (Value.ref _)) _ _ _); refine Stop.intro ?_)) | (with_reducible ((show wpAny _ _ (compareOp CmpOp.NotEq (Value.ref _) (Value.ref _)) _ _ _); refine Stop.intro ?_)) | (with_reducible ((show wpAny _ _ (call (Value.builtin "len") [Value.ref _]) _ _ _); refine Stop.intro ?_)) | (with_reducible ((show wpAny _ _ (eval (PySem.Expr.ListComp _ _ _ _) _) _ _ _); refine Stop.intro ?_)) | (k_unfold; (try dsimp only)) | walk1 | (dsimp only; walk1)))
          try unfold Stop
          refine ⟨KX.keeps F1.keep, ?_⟩
          refine parted_use (c := c) (Z := [(it, oi)]) (Y := [(it2, oi2)]) (st := st) (q := q) rfl rfl rfl rfl K0 F1 KX T N1 ok hPC.2 (List.forall_mem_cons.mpr ⟨⟨n1.symm, n2.symm⟩, List.forall_mem_cons.mpr ⟨⟨n3.symm, n4.symm⟩, fun _ hy => nomatch hy⟩⟩) hmem hPA hqk hS' (by omega) (by omega) (Nat.le_of_ble_eq_true rfl) (Nat.le_of_ble_eq_true rfl) (fun h' tk' tv t8 its8 kq8 kr8 F8 N8 S8 => ?_)
          clear F1 N1
          (repeat' (first | (with_reducible ((show wpAny _ _ (exec _ _) _ _ _); (fail_if_success (refine hid_probe (by assumption) ?_)); refine hid_any (fun _ _ => ?_))) | (with_reducible (refine Hid.go (by assumption) _ _ ?_)) | ((with_reducible show wpAny _ _ (execs _ _) _ _ _); dsimp only) | (with_reducible ((show wpAny _ _ (pyIter (Value.ref _)) _ _ _); refine Stop.intro ?_)) | (with_reducible ((show wpAny _ _ (noteFrame (Value.ref _) _) _ _ _); refine Stop.intro ?_)) | (with_reducible ((show wpAny _ _ (_ >>= _) _ _ _); refine Stop.intro ?_)) | (with_reducible ((show wpAny _ _ (getAttr (Value.ref _) (Str.ofString "code") _) _ _ _); refine Stop.intro ?_)) | (with_reducible ((show wpAny _ _ (subscriptTail _ _ _ _) _ _ _); refine Stop.intro ?_)) | (with_reducible ((show wpAny _ _ (compareOp CmpOp.Eq (Value.ref _) (Value.ref _)) _ _ _); refine Stop.intro ?_)) | (with_reducible ((show wpAny _ _ (compareOp CmpOp.NotEq (Value.ref _) (Value.ref _)) _ _ _); refine Stop.intro ?_)) | (with_reducible ((show wpAny _ _ (call (Value.builtin "len") [Value.ref _]) _ _ _); refine Stop.intro ?_)) | (with_reducible ((show wpAny _ _ (eval (PySem.Expr.ListComp _ _ _ _) _) _ _ _); refine Stop.intro ?_)) | (k_unfold; (try dsimp only)) | walk1 | (dsimp only; walk1)))
          try unfold Stop
          rename Fr _ _ _ _ => F9
          rename News _ _ _ _ => N9
          dsimp only
          exact ⟨_, _, _, _, rfl, slots_of (c := c) F9 (fun y h1 h2 h3 h4 h5 h6 => by simp only [if_neg h1, if_neg h2, if_neg h3, if_neg h4, if_neg h5, if_neg h6]; rfl), N9, ⟨(lawParted st q c.zone c.width).1, (lawParted st q c.zone c.width).2, qs'', tv, t, t8, its, its8, k, kq8, kr8, _, _, _, _, hps', by rw [hrun]; rfl, by omega, by omega, rfl, rfl, hS, S8⟩, ne_mn hne2⟩
      · intro m' news' h tk hp F' N'
        obtain ⟨st, rf, qs', tr, t, tq, its, itq, k, kq, kr, vt, va, vh, vf, hps, hrun, hq1, hq2, rfl, rfl, hS, hS'⟩ := hp
        cases hps
        have hl : lawParts c.zone c.width S false QV = (st, rf) := hrun
        dsimp only
        refine Hid.go (by assumption) _ _ ?_
        rw [hl]
        exact ⟨rfl, h, tk, tr, t, tq, its, itq, k, kq, kr, vt, va, vh, vf, rfl, F', N', hS, hS'⟩
    obtain ⟨h3, tk3, tr, t, tq, its, itq, k, kq, kr, vt, va, vh, vf, rfl, F3, N3, hS, hS'⟩ := hT2
    refine turn3 (c := c) (Z := [(it, oi)]) (PC := PC) (PV := PV) (kpc := kpc) (S := S) (QV := QV) F3 ?_ (fun s9 hT3 => ?_)
    · intro E
      have hPVl : PV.length = QV.length := hQ.length
      cases hrf : (lawParts c.zone c.width S false QV).2 with
      | true =>
        have hlp : lawPiece c.zone c.width S QV = ((lawParts c.zone c.width S false QV).1, true) := by unfold lawPiece; rw [hrf]; rfl
        rw [hlp]
        rw [hrf] at F3
        have F4 := F3
        unfold C1.slots C1.vars code at F4
        rw [if_pos rfl] at F4
        (repeat' (first | (with_reducible ((show wpAny _ _ (exec _ _) _ _ _); (fail_if_success (refine hid_probe (by assumption) ?_)); refine hid_any (fun _ _ => ?_))) | (with_reducible (refine Hid.go (by assumption) _ _ ?_)) | ((with_reducible show wpAny _ _ (execs _ _) _ _ _); dsimp only) | (with_reducible ((show wpAny _ _ (pyIter (Value.ref _)) _ _ _); refine Stop.intro ?_)) | (with_reducible ((show wpAny _ _ (noteFrame (Value.ref _) _) _ _ _); refine Stop.intro ?_)) | (with_reducible ((show wpAny _ _ (_ >>= _) _ _ _); refine Stop.intro ?_)) | (with_reducible ((show wpAny _ _ (getAttr (Value.ref _) (Str.ofString "code") _) _ _ _); refine Stop.intro ?_)) | (with_reducible ((show wpAny _ _ (subscriptTail _ _ _ _) _ _ _); refine Stop.intro ?_)) | (with_reducible ((show wpAny _ _ (compareOp CmpOp.Eq (Value.ref _) (Value.ref _)) _ _ _); refine Stop.intro ?_)) | (with_reducible ((show wpAny _ _ (compareOp CmpOp.NotEq (Value.ref _) (Value.ref _)) _ _ _); refine Stop.intro ?_)) | (with_reducible ((show wpAny _ _ (call (Value.builtin "len") [Value.ref _]) _ _ _); refine Stop.intro ?_)) | (with_reducible ((show wpAny _ _ (eval (PySem.Expr.ListComp _ _ _ _) _) _ _ _); refine Stop.intro ?_)) | (k_unfold; (try dsimp only)) | walk1 | (dsimp only; walk1)))
        try unfold Stop
        exact ⟨by first | rfl | trivial, h3, _, tr, t, tq, its, itq, k, kq, kr, vt, va, vh, vf, rfl, F3, N3, hS, hS'⟩
      | false =>
        rw [hrf] at F3
        have F4 := F3
        unfold C1.slots C1.vars code at F4
        rw [if_neg (by decide)] at F4
        have n1 := hne _ (List.mem_append_right _ (List.mem_append_left _ (.head _)))
        have n2 := hne _ (List.mem_append_right _ (List.mem_append_left _ (.tail _ (.head _))))
        have hll := lawParts_len (S := S) (QV := QV) hQ.oks ok.hz0 ok.hz1 ok.hw0 (width := c.width)
        by_cases hPV : PV = []
        · subst hPV
          cases hQ
          have hlp : lawPiece c.zone c.width S [] = (endRow (lawParts c.zone c.width S false []).1, false) := rfl
          rw [hlp]
          (repeat' (first | (with_reducible ((show wpAny _ _ (exec _ _) _ _ _); (fail_if_success (refine hid_probe (by assumption) ?_)); refine hid_any (fun _ _ => ?_))) | (with_reducible (refine Hid.go (by assumption) _ _ ?_)) | ((with_reducible show wpAny _ _ (execs _ _) _ _ _); dsimp only) | (with_reducible ((show wpAny _ _ (pyIter (Value.ref _)) _ _ _); refine Stop.intro ?_)) | (with_reducible ((show wpAny _ _ (noteFrame (Value.ref _) _) _ _ _); refine Stop.intro ?_)) | (with_reducible ((show wpAny _ _ (_ >>= _) _ _ _); refine Stop.intro ?_)) | (with_reducible ((show wpAny _ _ (getAttr (Value.ref _) (Str.ofString "code") _) _ _ _); refine Stop.intro ?_)) | (with_reducible ((show wpAny _ _ (subscriptTail _ _ _ _) _ _ _); refine Stop.intro ?_)) | (with_reducible ((show wpAny _ _ (compareOp CmpOp.Eq (Value.ref _) (Value.ref _)) _ _ _); refine Stop.intro ?_)) | (with_reducible ((show wpAny _ _ (compareOp CmpOp.NotEq (Value.ref _) (Value.ref _)) _ _ _); refine Stop.intro ?_)) | (with_reducible ((show wpAny _ _ (call (Value.builtin "len") [Value.ref _]) _ _ _); refine Stop.intro ?_)) | (with_reducible ((show wpAny _ _ (eval (PySem.Expr.ListComp _ _ _ _) _) _ _ _); refine Stop.intro ?_)) | (k_unfold; (try dsimp only)) | walk1 | (dsimp only; walk1)))
          · try unfold Stop
            rename News _ _ _ _ => N9
            refine eq_nil ⟨_, (N9 _ (.tail _ (.head _))).1, rfl, _, rfl⟩ ⟨_, (N9 _ (.head _)).1, rfl, _, rfl⟩ rfl rfl (Nat.le_of_ble_eq_true rfl) ?_
            (repeat' (first | (with_reducible ((show wpAny _ _ (exec _ _) _ _ _); (fail_if_success (refine hid_probe (by assumption) ?_)); refine hid_any (fun _ _ => ?_))) | (with_reducible (refine Hid.go (by assumption) _ _ ?_)) | ((with_reducible show wpAny _ _ (execs _ _) _ _ _); dsimp only) | (with_reducible ((show wpAny _ _ (pyIter (Value.ref _)) _ _ _); refine Stop.intro ?_)) | (with_reducible ((show wpAny _ _ (noteFrame (Value.ref _) _) _ _ _); refine Stop.intro ?_)) | (with_reducible ((show wpAny _ _ (_ >>= _) _ _ _); refine Stop.intro ?_)) | (with_reducible ((show wpAny _ _ (getAttr (Value.ref _) (Str.ofString "code") _) _ _ _); refine Stop.intro ?_)) | (with_reducible ((show wpAny _ _ (subscriptTail _ _ _ _) _ _ _); refine Stop.intro ?_)) | (with_reducible ((show wpAny _ _ (compareOp CmpOp.Eq (Value.ref _) (Value.ref _)) _ _ _); refine Stop.intro ?_)) | (with_reducible ((show wpAny _ _ (compareOp CmpOp.NotEq (Value.ref _) (Value.ref _)) _ _ _); refine Stop.intro ?_)) | (with_reducible ((show wpAny _ _ (call (Value.builtin "len") [Value.ref _]) _ _ _); refine Stop.intro ?_)) | (with_reducible ((show wpAny _ _ (eval (PySem.Expr.ListComp _ _ _ _) _) _ _ _); refine Stop.intro ?_)) | (k_unfold; (try dsimp only)) | walk1 | (dsimp only; walk1)))
            try unfold Stop
            rename News _ _ _ _ => N10
            rename Fr _ _ _ _ => F10
            refine ⟨KX.keeps F10.keep, ?_⟩
            have N11 : News _ _ _ _ := fun y hy => N10 y (.tail _ hy)
            refine new_row_use (c := c) (Z := [(it, oi)]) (rows := (lawParts c.zone c.width S false []).1.1) rfl rfl rfl rfl K0 F10 KX T N11 ok hPC.2 (List.forall_mem_cons.mpr ⟨⟨n1.symm, n2.symm⟩, fun _ hy => nomatch hy⟩) hS' (by omega) (Nat.le_of_ble_eq_true rfl) (Nat.le_of_ble_eq_true rfl) (fun h' tk' t8 its8 kq8 kr8 F8 N8 S8 => ?_)
            clear F10 N10 N11
            (repeat' (first | (with_reducible ((show wpAny _ _ (exec _ _) _ _ _); (fail_if_success (refine hid_probe (by assumption) ?_)); refine hid_any (fun _ _ => ?_))) | (with_reducible (refine Hid.go (by assumption) _ _ ?_)) | ((with_reducible show wpAny _ _ (execs _ _) _ _ _); dsimp only) | (with_reducible ((show wpAny _ _ (pyIter (Value.ref _)) _ _ _); refine Stop.intro ?_)) | (with_reducible ((show wpAny _ _ (noteFrame (Value.ref _) _) _ _ _); refine Stop.intro ?_)) | (with_reducible ((show wpAny _ _ (_ >>= _) _ _ _); refine Stop.intro ?_)) | (with_reducible ((show wpAny _ _ (getAttr (Value.ref _) (Str.ofString "code") _) _ _ _); refine Stop.intro ?_)) | (with_reducible ((show wpAny _ _ (subscriptTail _ _ _ _) _ _ _); refine Stop.intro ?_)) | (with_reducible ((show wpAny _ _ (compareOp CmpOp.Eq (Value.ref _) (Value.ref _)) _ _ _); refine Stop.intro ?_)) | (with_reducible ((show wpAny _ _ (compareOp CmpOp.NotEq (Value.ref _) (Value.ref _)) _ _ _); refine Stop.intro ?_)) | (with_reducible ((show wpAny _ _ (call (Value.builtin "len") [Value.ref _]) _ _ _); refine Stop.intro ?_)) | (with_reducible ((show wpAny _ _ (eval (PySem.Expr.ListComp _ _ _ _) _) _ _ _); refine Stop.intro ?_)) | (k_unfold; (try dsimp only)) | walk1 | (dsimp only; walk1)))
            try unfold Stop
            exact ⟨by first | rfl | trivial, h', _, tr, t, t8, its, its8, k, kq8, kr8, vt, va, vh, vf, rfl, F8, N8, hS, S8⟩
        · obtain ⟨ap, ob, qL, hmL, hPA, hlast, hlt⟩ := hQ.last true hPV
          (repeat' (first | (with_reducible ((show wpAny _ _ (exec _ _) _ _ _); (fail_if_success (refine hid_probe (by assumption) ?_)); refine hid_any (fun _ _ => ?_))) | (with_reducible (refine Hid.go (by assumption) _ _ ?_)) | ((with_reducible show wpAny _ _ (execs _ _) _ _ _); dsimp only) | (with_reducible ((show wpAny _ _ (pyIter (Value.ref _)) _ _ _); refine Stop.intro ?_)) | (with_reducible ((show wpAny _ _ (noteFrame (Value.ref _) _) _ _ _); refine Stop.intro ?_)) | (with_reducible ((show wpAny _ _ (_ >>= _) _ _ _); refine Stop.intro ?_)) | (with_reducible ((show wpAny _ _ (getAttr (Value.ref _) (Str.ofString "code") _) _ _ _); refine Stop.intro ?_)) | (with_reducible ((show wpAny _ _ (subscriptTail _ _ _ _) _ _ _); refine Stop.intro ?_)) | (with_reducible ((show wpAny _ _ (compareOp CmpOp.Eq (Value.ref _) (Value.ref _)) _ _ _); refine Stop.intro ?_)) | (with_reducible ((show wpAny _ _ (compareOp CmpOp.NotEq (Value.ref _) (Value.ref _)) _ _ _); refine Stop.intro ?_)) | (with_reducible ((show wpAny _ _ (call (Value.builtin "len") [Value.ref _]) _ _ _); refine Stop.intro ?_)) | (with_reducible ((show wpAny _ _ (eval (PySem.Expr.ListComp _ _ _ _) _) _ _ _); refine Stop.intro ?_)) | (k_unfold; (try dsimp only)) | walk1 | (dsimp only; walk1)))
          try unfold Stop
          rename News _ _ _ _ => N9
          refine eq_len ⟨_, (N9 _ (.tail _ (.head _))).1, rfl, _, rfl⟩ ⟨_, (N9 _ (.head _)).1, rfl, _, rfl⟩ (by simpa using hPV) (Nat.le_of_ble_eq_true rfl) ?_
          (repeat' (first | (with_reducible ((show wpAny _ _ (exec _ _) _ _ _); (fail_if_success (refine hid_probe (by assumption) ?_)); refine hid_any (fun _ _ => ?_))) | (with_reducible (refine Hid.go (by assumption) _ _ ?_)) | ((with_reducible show wpAny _ _ (execs _ _) _ _ _); dsimp only) | (with_reducible ((show wpAny _ _ (pyIter (Value.ref _)) _ _ _); refine Stop.intro ?_)) | (with_reducible ((show wpAny _ _ (noteFrame (Value.ref _) _) _ _ _); refine Stop.intro ?_)) | (with_reducible ((show wpAny _ _ (_ >>= _) _ _ _); refine Stop.intro ?_)) | (with_reducible ((show wpAny _ _ (getAttr (Value.ref _) (Str.ofString "code") _) _ _ _); refine Stop.intro ?_)) | (with_reducible ((show wpAny _ _ (subscriptTail _ _ _ _) _ _ _); refine Stop.intro ?_)) | (with_reducible ((show wpAny _ _ (compareOp CmpOp.Eq (Value.ref _) (Value.ref _)) _ _ _); refine Stop.intro ?_)) | (with_reducible ((show wpAny _ _ (compareOp CmpOp.NotEq (Value.ref _) (Value.ref _)) _ _ _); refine Stop.intro ?_)) | (with_reducible ((show wpAny _ _ (call (Value.builtin "len") [Value.ref _]) _ _ _); refine Stop.intro ?_)) | (with_reducible ((show wpAny _ _ (eval (PySem.Expr.ListComp _ _ _ _) _) _ _ _); refine Stop.intro ?_)) | (k_unfold; (try dsimp only)) | walk1 | (dsimp only; walk1)))
          try unfold Stop
          have hPV0 : 0 < PV.length := List.length_pos_iff.mpr hPV
          refine len_own (News.isList (by k_asm) (by k_mem)) hPVl (by omega) ?_
          (repeat' (first | (with_reducible ((show wpAny _ _ (exec _ _) _ _ _); (fail_if_success (refine hid_probe (by assumption) ?_)); refine hid_any (fun _ _ => ?_))) | (with_reducible (refine Hid.go (by assumption) _ _ ?_)) | ((with_reducible show wpAny _ _ (execs _ _) _ _ _); dsimp only) | (with_reducible ((show wpAny _ _ (pyIter (Value.ref _)) _ _ _); refine Stop.intro ?_)) | (with_reducible ((show wpAny _ _ (noteFrame (Value.ref _) _) _ _ _); refine Stop.intro ?_)) | (with_reducible ((show wpAny _ _ (_ >>= _) _ _ _); refine Stop.intro ?_)) | (with_reducible ((show wpAny _ _ (getAttr (Value.ref _) (Str.ofString "code") _) _ _ _); refine Stop.intro ?_)) | (with_reducible ((show wpAny _ _ (subscriptTail _ _ _ _) _ _ _); refine Stop.intro ?_)) | (with_reducible ((show wpAny _ _ (compareOp CmpOp.Eq (Value.ref _) (Value.ref _)) _ _ _); refine Stop.intro ?_)) | (with_reducible ((show wpAny _ _ (compareOp CmpOp.NotEq (Value.ref _) (Value.ref _)) _ _ _); refine Stop.intro ?_)) | (with_reducible ((show wpAny _ _ (call (Value.builtin "len") [Value.ref _]) _ _ _); refine Stop.intro ?_)) | (with_reducible ((show wpAny _ _ (eval (PySem.Expr.ListComp _ _ _ _) _) _ _ _); refine Stop.intro ?_)) | (k_unfold; (try dsimp only)) | walk1 | (dsimp only; walk1)))
          try unfold Stop
          refine item_at (vs := PV) ⟨_, (N9 _ (.tail _ (.head _))).1, rfl, _, rfl⟩ (by omega) (by omega) (by rw [show ((QV.length : Int) - 1).toNat = PV.length - 1 by omega]; exact hlast) ?_ (by with_unfolding_all rfl)
          (repeat' (first | (with_reducible ((show wpAny _ _ (exec _ _) _ _ _); (fail_if_success (refine hid_probe (by assumption) ?_)); refine hid_any (fun _ _ => ?_))) | (with_reducible (refine Hid.go (by assumption) _ _ ?_)) | ((with_reducible show wpAny _ _ (execs _ _) _ _ _); dsimp only) | (with_reducible ((show wpAny _ _ (pyIter (Value.ref _)) _ _ _); refine Stop.intro ?_)) | (with_reducible ((show wpAny _ _ (noteFrame (Value.ref _) _) _ _ _); refine Stop.intro ?_)) | (with_reducible ((show wpAny _ _ (_ >>= _) _ _ _); refine Stop.intro ?_)) | (with_reducible ((show wpAny _ _ (getAttr (Value.ref _) (Str.ofString "code") _) _ _ _); refine Stop.intro ?_)) | (with_reducible ((show wpAny _ _ (subscriptTail _ _ _ _) _ _ _); refine Stop.intro ?_)) | (with_reducible ((show wpAny _ _ (compareOp CmpOp.Eq (Value.ref _) (Value.ref _)) _ _ _); refine Stop.intro ?_)) | (with_reducible ((show wpAny _ _ (compareOp CmpOp.NotEq (Value.ref _) (Value.ref _)) _ _ _); refine Stop.intro ?_)) | (with_reducible ((show wpAny _ _ (call (Value.builtin "len") [Value.ref _]) _ _ _); refine Stop.intro ?_)) | (with_reducible ((show wpAny _ _ (eval (PySem.Expr.ListComp _ _ _ _) _) _ _ _); refine Stop.intro ?_)) | (k_unfold; (try dsimp only)) | walk1 | (dsimp only; walk1)))
          try unfold Stop
          have hget := tl_get N9 hmL
          obtain ⟨kd, t1, rr, htup, hkd⟩ := (hPA _ hget).first
          refine item_tup0 htup ?_ (by with_unfolding_all rfl)
          (repeat' (first | (with_reducible ((show wpAny _ _ (exec _ _) _ _ _); (fail_if_success (refine hid_probe (by assumption) ?_)); refine hid_any (fun _ _ => ?_))) | (with_reducible (refine Hid.go (by assumption) _ _ ?_)) | ((with_reducible show wpAny _ _ (execs _ _) _ _ _); dsimp only) | (with_reducible ((show wpAny _ _ (pyIter (Value.ref _)) _ _ _); refine Stop.intro ?_)) | (with_reducible ((show wpAny _ _ (noteFrame (Value.ref _) _) _ _ _); refine Stop.intro ?_)) | (with_reducible ((show wpAny _ _ (_ >>= _) _ _ _); refine Stop.intro ?_)) | (with_reducible ((show wpAny _ _ (getAttr (Value.ref _) (Str.ofString "code") _) _ _ _); refine Stop.intro ?_)) | (with_reducible ((show wpAny _ _ (subscriptTail _ _ _ _) _ _ _); refine Stop.intro ?_)) | (with_reducible ((show wpAny _ _ (compareOp CmpOp.Eq (Value.ref _) (Value.ref _)) _ _ _); refine Stop.intro ?_)) | (with_reducible ((show wpAny _ _ (compareOp CmpOp.NotEq (Value.ref _) (Value.ref _)) _ _ _); refine Stop.intro ?_)) | (with_reducible ((show wpAny _ _ (call (Value.builtin "len") [Value.ref _]) _ _ _); refine Stop.intro ?_)) | (with_reducible ((show wpAny _ _ (eval (PySem.Expr.ListComp _ _ _ _) _) _ _ _); refine Stop.intro ?_)) | (k_unfold; (try dsimp only)) | walk1 | (dsimp only; walk1)))
          · rename (kd == Str.ofString "text") = true => hk9
            have hlp : lawPiece c.zone c.width S QV = (endRow (lawParts c.zone c.width S false QV).1, false) := by
              unfold lawPiece; rw [hrf, if_pos ⟨rfl, by rw [hlt, ← hkd]; exact hk9⟩]
            try unfold Stop
            rename News _ _ _ _ => N10
            rename Fr _ _ _ _ => F10
            refine ⟨KX.keeps F10.keep, ?_⟩
            have N11 : News _ _ _ _ := fun y hy => N10 y (.tail _ hy)
            refine new_row_use (c := c) (Z := [(it, oi)]) (rows := (lawParts c.zone c.width S false QV).1.1) rfl rfl rfl rfl K0 F10 KX T N11 ok hPC.2 (List.forall_mem_cons.mpr ⟨⟨n1.symm, n2.symm⟩, fun _ hy => nomatch hy⟩) hS' (by omega) (Nat.le_of_ble_eq_true rfl) (Nat.le_of_ble_eq_true rfl) (fun h' tk' t8 its8 kq8 kr8 F8 N8 S8 => ?_)
            clear F10 N10 N11
            (repeat' (first | (with_reducible ((show wpAny _ _ (exec _ _) _ _ _); (fail_if_success (refine hid_probe (by assumption) ?_)); refine hid_any (fun _ _ => ?_))) | (with_reducible (refine Hid.go (by assumption) _ _ ?_)) | ((with_reducible show wpAny _ _ (execs _ _) _ _ _); dsimp only) | (with_reducible ((show wpAny _ _ (pyIter (Value.ref _)) _ _ _); refine Stop.intro ?_)) | (with_reducible ((show wpAny _ _ (noteFrame (Value.ref _) _) _ _ _); refine Stop.intro ?_)) | (with_reducible ((show wpAny _ _ (_ >>= _) _ _ _); refine Stop.intro ?_)) | (with_reducible ((show wpAny _ _ (getAttr (Value.ref _) (Str.ofString "code") _) _ _ _); refine Stop.intro ?_)) | (with_reducible ((show wpAny _ _ (subscriptTail _ _ _ _) _ _ _); refine Stop.intro ?_)) | (with_reducible ((show wpAny _ _ (compareOp CmpOp.Eq (Value.ref _) (Value.ref _)) _ _ _); refine Stop.intro ?_)) | (with_reducible ((show wpAny _ _ (compareOp CmpOp.NotEq (Value.ref _) (Value.ref _)) _ _ _); refine Stop.intro ?_)) | (with_reducible ((show wpAny _ _ (call (Value.builtin "len") [Value.ref _]) _ _ _); refine Stop.intro ?_)) | (with_reducible ((show wpAny _ _ (eval (PySem.Expr.ListComp _ _ _ _) _) _ _ _); refine Stop.intro ?_)) | (k_unfold; (try dsimp only)) | walk1 | (dsimp only; walk1)))
            try unfold Stop
            rw [hlp]
            exact ⟨by first | rfl | trivial, h', _, tr, t, t8, its, its8, k, kq8, kr8, vt, va, vh, vf, rfl, F8, N8, hS, S8⟩
          · rename (kd == Str.ofString "text") = false => hk9
            have hlp : lawPiece c.zone c.width S QV = ((lawParts c.zone c.width S false QV).1, false) := by
              unfold lawPiece; rw [hrf, if_neg (fun z => by rw [hlt, ← hkd, hk9] at z; cases z.2)]
            rw [hlp]
            try unfold Stop
            rename News _ _ _ _ => N10
            rename Fr _ _ _ _ => F10
            exact ⟨by first | rfl | trivial, _, _, tr, t, tq, its, itq, k, kq, kr, vt, va, vh, vf, rfl, F10, fun y hy => N10 y (.tail _ hy), hS, hS'⟩
    clear F3 N3
    obtain ⟨h4, tk4, tr, t, tq, its, itq, k, kq, kr, vt, va, vh, vf, rfl, F4, N4, hS, hS'⟩ := hT3
    refine turn4 (c := c) (Z := [(it, oi)]) (PC := PC) (PV := PV) (kpc := kpc) (S := S) (QV := QV) F4 ?_ (fun s10 hT4 => ?_)
    · intro E
      have F5 := F4
      unfold C1.slots C1.vars at F5
      clear F4
      (repeat' (first | (with_reducible ((show wpAny _ _ (exec _ _) _ _ _); (fail_if_success (refine hid_probe (by assumption) ?_)); refine hid_any (fun _ _ => ?_))) | (with_reducible (refine Hid.go (by assumption) _ _ ?_)) | ((with_reducible show wpAny _ _ (execs _ _) _ _ _); dsimp only) | (with_reducible ((show wpAny _ _ (pyIter (Value.ref _)) _ _ _); refine Stop.intro ?_)) | (with_reducible ((show wpAny _ _ (noteFrame (Value.ref _) _) _ _ _); refine Stop.intro ?_)) | (with_reducible ((show wpAny _ _ (_ >>= _) _ _ _); refine Stop.intro ?_)) | (with_reducible ((show wpAny _ _ (getAttr (Value.ref _) (Str.ofString "code") _) _ _ _); refine Stop.intro ?_)) | (with_reducible ((show wpAny _ _ (subscriptTail _ _ _ _) _ _ _); refine Stop.intro ?_)) | (with_reducible ((show wpAny _ _ (compareOp CmpOp.Eq (Value.ref _) (Value.ref _)) _ _ _); refine Stop.intro ?_)) | (with_reducible ((show wpAny _ _ (compareOp CmpOp.NotEq (Value.ref _) (Value.ref _)) _ _ _); refine Stop.intro ?_)) | (with_reducible ((show wpAny _ _ (call (Value.builtin "len") [Value.ref _]) _ _ _); refine Stop.intro ?_)) | (with_reducible ((show wpAny _ _ (eval (PySem.Expr.ListComp _ _ _ _) _) _ _ _); refine Stop.intro ?_)) | (k_unfold; (try dsimp only)) | walk1 | (dsimp only; walk1)))
      try unfold Stop
      rename Fr _ _ _ _ => F9
      rename News _ _ _ _ => N9
      exact ⟨by first | rfl | trivial, _, _, tr, _, t, tq, its, itq, k, kq, kr, vt, va, vf, rfl, slots_of (c := c) F9 (fun y h1 h2 h3 h4 h5 h6 => by simp only [if_neg h1, if_neg h2, if_neg h3, if_neg h4, if_neg h5, if_neg h6]; rfl), N9, hS, hS'⟩
    clear F4 N4
    obtain ⟨h5', tk5', tr, th, t, tq, its, itq, k, kq, kr, vt, va, vf, rfl, F5, N5, hS, hS'⟩ := hT4
    refine turn5 (c := c) (Z := [(it, oi)]) (PC := PC) (PV := PV) (kpc := kpc) (S := S) (QV := QV) F5 ?_ (fun s11 hT5 => ?_)
    · intro E
      have F6 := F5
      unfold C1.slots C1.vars at F6
      (repeat' (first | (with_reducible ((show wpAny _ _ (exec _ _) _ _ _); (fail_if_success (refine hid_probe (by assumption) ?_)); refine hid_any (fun _ _ => ?_))) | (with_reducible (refine Hid.go (by assumption) _ _ ?_)) | ((with_reducible show wpAny _ _ (execs _ _) _ _ _); dsimp only) | (with_reducible ((show wpAny _ _ (pyIter (Value.ref _)) _ _ _); refine Stop.intro ?_)) | (with_reducible ((show wpAny _ _ (noteFrame (Value.ref _) _) _ _ _); refine Stop.intro ?_)) | (with_reducible ((show wpAny _ _ (_ >>= _) _ _ _); refine Stop.intro ?_)) | (with_reducible ((show wpAny _ _ (getAttr (Value.ref _) (Str.ofString "code") _) _ _ _); refine Stop.intro ?_)) | (with_reducible ((show wpAny _ _ (subscriptTail _ _ _ _) _ _ _); refine Stop.intro ?_)) | (with_reducible ((show wpAny _ _ (compareOp CmpOp.Eq (Value.ref _) (Value.ref _)) _ _ _); refine Stop.intro ?_)) | (with_reducible ((show wpAny _ _ (compareOp CmpOp.NotEq (Value.ref _) (Value.ref _)) _ _ _); refine Stop.intro ?_)) | (with_reducible ((show wpAny _ _ (call (Value.builtin "len") [Value.ref _]) _ _ _); refine Stop.intro ?_)) | (with_reducible ((show wpAny _ _ (eval (PySem.Expr.ListComp _ _ _ _) _) _ _ _); refine Stop.intro ?_)) | (k_unfold; (try dsimp only)) | walk1 | (dsimp only; walk1)))
      try unfold Stop
      refine wpAny_Try_except ?_
      (repeat' (first | (with_reducible ((show wpAny _ _ (exec _ _) _ _ _); (fail_if_success (refine hid_probe (by assumption) ?_)); refine hid_any (fun _ _ => ?_))) | (with_reducible (refine Hid.go (by assumption) _ _ ?_)) | ((with_reducible show wpAny _ _ (execs _ _) _ _ _); dsimp only) | (with_reducible ((show wpAny _ _ (pyIter (Value.ref _)) _ _ _); refine Stop.intro ?_)) | (with_reducible ((show wpAny _ _ (noteFrame (Value.ref _) _) _ _ _); refine Stop.intro ?_)) | (with_reducible ((show wpAny _ _ (_ >>= _) _ _ _); refine Stop.intro ?_)) | (with_reducible ((show wpAny _ _ (getAttr (Value.ref _) (Str.ofString "code") _) _ _ _); refine Stop.intro ?_)) | (with_reducible ((show wpAny _ _ (subscriptTail _ _ _ _) _ _ _); refine Stop.intro ?_)) | (with_reducible ((show wpAny _ _ (compareOp CmpOp.Eq (Value.ref _) (Value.ref _)) _ _ _); refine Stop.intro ?_)) | (with_reducible ((show wpAny _ _ (compareOp CmpOp.NotEq (Value.ref _) (Value.ref _)) _ _ _); refine Stop.intro ?_)) | (with_reducible ((show wpAny _ _ (call (Value.builtin "len") [Value.ref _]) _ _ _); refine Stop.intro ?_)) | (with_reducible ((show wpAny _ _ (eval (PySem.Expr.ListComp _ _ _ _) _) _ _ _); refine Stop.intro ?_)) | (k_unfold; (try dsimp only)) | walk1 | (dsimp only; walk1)))
      try unfold Stop
      rename Fr _ _ _ _ => F9
      rename News _ _ _ _ => N9
      have n5 := hne _ (List.mem_append_left _ (.head _))
      have n6 := hne _ (List.mem_append_left _ (.tail _ (.head _)))
      have n7 := hne _ (List.mem_append_left _ (.tail _ (.tail _ (.head _))))
      refine ⟨KX.keeps F9.keep, ?_⟩
      refine parts_use (c := c) (S := S) (QV := QV) (PV := PV) rfl rfl rfl rfl K0 F9 KX T N9 ok (pg_far ok hPC.1 (List.forall_mem_cons.mpr ⟨⟨n5.symm, n6.symm, n7.symm⟩, fun _ hy => nomatch hy⟩)) hQ (fun y hy => List.mem_append_right _ (List.mem_append_left _ (.tail _ (.tail _ (.tail _ hy))))) hS (by omega) (by omega) (by omega) (Nat.le_of_ble_eq_true rfl) (Nat.le_of_ble_eq_true rfl) (fun h' tk' t8 its8 k8 F8 N8 S8 hfl => ?_) (fun e h' tk' t8 its8 k8 x8 n8 S8 hfl => ?_)
      · have hpe := piece_eq c.zone c.width S QV
        rw [hpe] at N8 S8 hfl
        have hc : code (lawPiece c.zone c.width S QV).2 = Str.ofString "" := by rw [hfl]; rfl
        (repeat' (first | (with_reducible ((show wpAny _ _ (exec _ _) _ _ _); (fail_if_success (refine hid_probe (by assumption) ?_)); refine hid_any (fun _ _ => ?_))) | (with_reducible (refine Hid.go (by assumption) _ _ ?_)) | ((with_reducible show wpAny _ _ (execs _ _) _ _ _); dsimp only) | (with_reducible ((show wpAny _ _ (pyIter (Value.ref _)) _ _ _); refine Stop.intro ?_)) | (with_reducible ((show wpAny _ _ (noteFrame (Value.ref _) _) _ _ _); refine Stop.intro ?_)) | (with_reducible ((show wpAny _ _ (_ >>= _) _ _ _); refine Stop.intro ?_)) | (with_reducible ((show wpAny _ _ (getAttr (Value.ref _) (Str.ofString "code") _) _ _ _); refine Stop.intro ?_)) | (with_reducible ((show wpAny _ _ (subscriptTail _ _ _ _) _ _ _); refine Stop.intro ?_)) | (with_reducible ((show wpAny _ _ (compareOp CmpOp.Eq (Value.ref _) (Value.ref _)) _ _ _); refine Stop.intro ?_)) | (with_reducible ((show wpAny _ _ (compareOp CmpOp.NotEq (Value.ref _) (Value.ref _)) _ _ _); refine Stop.intro ?_)) | (with_reducible ((show wpAny _ _ (call (Value.builtin "len") [Value.ref _]) _ _ _); refine Stop.intro ?_)) | (with_reducible ((show wpAny _ _ (eval (PySem.Expr.ListComp _ _ _ _) _) _ _ _); refine Stop.intro ?_)) | (k_unfold; (try dsimp only)) | walk1 | (dsimp only; walk1)))
        try unfold Stop
        refine ⟨by first | rfl | trivial, h', _, tr, th, t8, tq, its8, itq, k8, kq, kr, vt, va, vf, rfl, ?_, N8, S8, hS'⟩
        rw [show some (Value.str (code (lawPiece c.zone c.width S QV).2) th) = some (Value.str (Str.ofString "") th) from by rw [hc]]
        exact F8
      · have hpe := piece_eq c.zone c.width S QV
        rw [hpe] at x8 S8 hfl
        (repeat' (first | (with_reducible ((show wpAny _ _ (exec _ _) _ _ _); (fail_if_success (refine hid_probe (by assumption) ?_)); refine hid_any (fun _ _ => ?_))) | (with_reducible (refine Hid.go (by assumption) _ _ ?_)) | ((with_reducible show wpAny _ _ (execs _ _) _ _ _); dsimp only) | (with_reducible ((show wpAny _ _ (pyIter (Value.ref _)) _ _ _); refine Stop.intro ?_)) | (with_reducible ((show wpAny _ _ (noteFrame (Value.ref _) _) _ _ _); refine Stop.intro ?_)) | (with_reducible ((show wpAny _ _ (_ >>= _) _ _ _); refine Stop.intro ?_)) | (with_reducible ((show wpAny _ _ (getAttr (Value.ref _) (Str.ofString "code") _) _ _ _); refine Stop.intro ?_)) | (with_reducible ((show wpAny _ _ (subscriptTail _ _ _ _) _ _ _); refine Stop.intro ?_)) | (with_reducible ((show wpAny _ _ (compareOp CmpOp.Eq (Value.ref _) (Value.ref _)) _ _ _); refine Stop.intro ?_)) | (with_reducible ((show wpAny _ _ (compareOp CmpOp.NotEq (Value.ref _) (Value.ref _)) _ _ _); refine Stop.intro ?_)) | (with_reducible ((show wpAny _ _ (call (Value.builtin "len") [Value.ref _]) _ _ _); refine Stop.intro ?_)) | (with_reducible ((show wpAny _ _ (eval (PySem.Expr.ListComp _ _ _ _) _) _ _ _); refine Stop.intro ?_)) | (k_unfold; (try dsimp only)) | walk1 | (dsimp only; walk1)))
        try unfold Stop
        refine catchX rfl x8 n8 KX T (frames_low F9) F9.above (fun h₅ h'' tk9 E' x5 F5' k5 => ?_) rfl rfl rfl
        obtain ⟨y1, y2, y3, y4, dx, vs', od, tt, y5, y6, y7, y8⟩ := x5.frames
        have N5' : News _ _ h'' _ := fun q hq => ⟨k5 _ _ ((y8 _ (.head _)).2.2 q hq) (y2 q hq).1, (y8 _ (.head _)).2.2 q hq, (y2 q hq).2⟩
        have he' := k5 _ _ ((y8 _ (.head _)).2.1).symm y5
        have hd' := k5 _ _ ((y8 _ (.head _)).1).symm y6
        (repeat' (first | (with_reducible ((show wpAny _ _ (exec _ _) _ _ _); (fail_if_success (refine hid_probe (by assumption) ?_)); refine hid_any (fun _ _ => ?_))) | (with_reducible (refine Hid.go (by assumption) _ _ ?_)) | ((with_reducible show wpAny _ _ (execs _ _) _ _ _); dsimp only) | (with_reducible ((show wpAny _ _ (pyIter (Value.ref _)) _ _ _); refine Stop.intro ?_)) | (with_reducible ((show wpAny _ _ (noteFrame (Value.ref _) _) _ _ _); refine Stop.intro ?_)) | (with_reducible ((show wpAny _ _ (_ >>= _) _ _ _); refine Stop.intro ?_)) | (with_reducible ((show wpAny _ _ (getAttr (Value.ref _) (Str.ofString "code") _) _ _ _); refine Stop.intro ?_)) | (with_reducible ((show wpAny _ _ (subscriptTail _ _ _ _) _ _ _); refine Stop.intro ?_)) | (with_reducible ((show wpAny _ _ (compareOp CmpOp.Eq (Value.ref _) (Value.ref _)) _ _ _); refine Stop.intro ?_)) | (with_reducible ((show wpAny _ _ (compareOp CmpOp.NotEq (Value.ref _) (Value.ref _)) _ _ _); refine Stop.intro ?_)) | (with_reducible ((show wpAny _ _ (call (Value.builtin "len") [Value.ref _]) _ _ _); refine Stop.intro ?_)) | (with_reducible ((show wpAny _ _ (eval (PySem.Expr.ListComp _ _ _ _) _) _ _ _); refine Stop.intro ?_)) | (k_unfold; (try dsimp only)) | walk1 | (dsimp only; walk1)))
        try unfold Stop
        obtain ⟨nm, qx, bs, dd, k0, k1, k2, k3, k6, mN, hC, hNs, z1, z2, z3, z4, z5, z6⟩ := excClass (KX.keeps F5'.keep)
        obtain ⟨mA, hA1, hA2⟩ := y7 h'' hd'
        refine load_exc (bmB := []) F.attrBase_Exception hC hNs z4 z5 z1 (by rw [typeLookup_type, builtinLookup_eq_fast]; kernel_rfl) he' hA1 hA2 rfl ?_
        try dsimp only
        clear y1 y2 y3 y5 y6 y7 y8 he' hd' hC hNs hA1 hA2
        (repeat' (first | (with_reducible ((show wpAny _ _ (exec _ _) _ _ _); (fail_if_success (refine hid_probe (by assumption) ?_)); refine hid_any (fun _ _ => ?_))) | (with_reducible (refine Hid.go (by assumption) _ _ ?_)) | ((with_reducible show wpAny _ _ (execs _ _) _ _ _); dsimp only) | (with_reducible ((show wpAny _ _ (pyIter (Value.ref _)) _ _ _); refine Stop.intro ?_)) | (with_reducible ((show wpAny _ _ (noteFrame (Value.ref _) _) _ _ _); refine Stop.intro ?_)) | (with_reducible ((show wpAny _ _ (_ >>= _) _ _ _); refine Stop.intro ?_)) | (with_reducible ((show wpAny _ _ (getAttr (Value.ref _) (Str.ofString "code") _) _ _ _); refine Stop.intro ?_)) | (with_reducible ((show wpAny _ _ (subscriptTail _ _ _ _) _ _ _); refine Stop.intro ?_)) | (with_reducible ((show wpAny _ _ (compareOp CmpOp.Eq (Value.ref _) (Value.ref _)) _ _ _); refine Stop.intro ?_)) | (with_reducible ((show wpAny _ _ (compareOp CmpOp.NotEq (Value.ref _) (Value.ref _)) _ _ _); refine Stop.intro ?_)) | (with_reducible ((show wpAny _ _ (call (Value.builtin "len") [Value.ref _]) _ _ _); refine Stop.intro ?_)) | (with_reducible ((show wpAny _ _ (eval (PySem.Expr.ListComp _ _ _ _) _) _ _ _); refine Stop.intro ?_)) | (k_unfold; (try dsimp only)) | walk1 | (dsimp only; walk1)))
        try unfold Stop
        rename Fr _ _ _ _ => F10
        rename News _ _ _ _ => N10
        refine nameX_goes F10 N10 (fun h6 v6 F11 N11 => ?_) rfl rfl
        dsimp only
        have hc : code (lawPiece c.zone c.width S QV).2 = Str.ofString "FC" := by rw [hfl]; rfl
        have F12 := slots_of (c := c) F11 (fun y h1 h2 h3 h4 h5 h6 => by simp only [if_neg h1, if_neg h2, if_neg h3, if_neg h4, if_neg h5, if_neg h6]; rfl)
        (repeat' (first | (with_reducible ((show wpAny _ _ (exec _ _) _ _ _); (fail_if_success (refine hid_probe (by assumption) ?_)); refine hid_any (fun _ _ => ?_))) | (with_reducible (refine Hid.go (by assumption) _ _ ?_)) | ((with_reducible show wpAny _ _ (execs _ _) _ _ _); dsimp only) | (with_reducible ((show wpAny _ _ (pyIter (Value.ref _)) _ _ _); refine Stop.intro ?_)) | (with_reducible ((show wpAny _ _ (noteFrame (Value.ref _) _) _ _ _); refine Stop.intro ?_)) | (with_reducible ((show wpAny _ _ (_ >>= _) _ _ _); refine Stop.intro ?_)) | (with_reducible ((show wpAny _ _ (getAttr (Value.ref _) (Str.ofString "code") _) _ _ _); refine Stop.intro ?_)) | (with_reducible ((show wpAny _ _ (subscriptTail _ _ _ _) _ _ _); refine Stop.intro ?_)) | (with_reducible ((show wpAny _ _ (compareOp CmpOp.Eq (Value.ref _) (Value.ref _)) _ _ _); refine Stop.intro ?_)) | (with_reducible ((show wpAny _ _ (compareOp CmpOp.NotEq (Value.ref _) (Value.ref _)) _ _ _); refine Stop.intro ?_)) | (with_reducible ((show wpAny _ _ (call (Value.builtin "len") [Value.ref _]) _ _ _); refine Stop.intro ?_)) | (with_reducible ((show wpAny _ _ (eval (PySem.Expr.ListComp _ _ _ _) _) _ _ _); refine Stop.intro ?_)) | (k_unfold; (try dsimp only)) | walk1 | (dsimp only; walk1)))
        try unfold Stop
        refine ⟨by first | rfl | trivial, h6, _, tr, tt, t8, tq, its8, itq, k8, kq, kr, vt, va, v6, rfl, ?_, fun y hy => N11 y (mem4.mpr hy), S8, hS'⟩
        rw [show some (Value.str (code (lawPiece c.zone c.width S QV).2) tt) = some (Value.str (Str.ofString "FC") tt) from by rw [hc]]
        exact F12
    clear F5 N5
    obtain ⟨h6, tk6, tr, th, t, tq, its, itq, k, kq, kr, vt, va, vf, rfl, F6, N6, hS, hS'⟩ := hT5
    have hll := lawPiece_len (S := S) (QV := QV) hQ.oks hQl ok.hz0 ok.hz1 ok.hw0 (width := c.width)
    refine turn5 (c := c) (Z := [(it, oi)]) (PC := PC) (PV := PV) (kpc := kpc) (S := S) (QV := QV) F6 ?_ (fun s12 hT6 => ?_)
    · intro E
      generalize lawPiece c.zone c.width S QV = LP9 at F6 N6 hS hS' hll ⊢
      obtain ⟨⟨rows9, row9⟩, rf9⟩ := LP9
      dsimp only at F6 N6 hS hS' hll
      have n5 := hne _ (List.mem_append_left _ (.head _))
      have n6 := hne _ (List.mem_append_left _ (.tail _ (.head _)))
      have n7 := hne _ (List.mem_append_left _ (.tail _ (.tail _ (.head _))))
      unfold C1.rest at N6
      simp only [pgLed, mnLed, List.cons_append, List.nil_append, List.append_assoc] at N6
      unfold C1.slots C1.vars at F6
      (repeat' (first | (with_reducible ((show wpAny _ _ (exec _ _) _ _ _); (fail_if_success (refine hid_probe (by assumption) ?_)); refine hid_any (fun _ _ => ?_))) | (with_reducible (refine Hid.go (by assumption) _ _ ?_)) | ((with_reducible show wpAny _ _ (execs _ _) _ _ _); dsimp only) | (with_reducible ((show wpAny _ _ (pyIter (Value.ref _)) _ _ _); refine Stop.intro ?_)) | (with_reducible ((show wpAny _ _ (noteFrame (Value.ref _) _) _ _ _); refine Stop.intro ?_)) | (with_reducible ((show wpAny _ _ (_ >>= _) _ _ _); refine Stop.intro ?_)) | (with_reducible ((show wpAny _ _ (getAttr (Value.ref _) (Str.ofString "code") _) _ _ _); refine Stop.intro ?_)) | (with_reducible ((show wpAny _ _ (subscriptTail _ _ _ _) _ _ _); refine Stop.intro ?_)) | (with_reducible ((show wpAny _ _ (compareOp CmpOp.Eq (Value.ref _) (Value.ref _)) _ _ _); refine Stop.intro ?_)) | (with_reducible ((show wpAny _ _ (compareOp CmpOp.NotEq (Value.ref _) (Value.ref _)) _ _ _); refine Stop.intro ?_)) | (with_reducible ((show wpAny _ _ (call (Value.builtin "len") [Value.ref _]) _ _ _); refine Stop.intro ?_)) | (with_reducible ((show wpAny _ _ (eval (PySem.Expr.ListComp _ _ _ _) _) _ _ _); refine Stop.intro ?_)) | (k_unfold; (try dsimp only)) | walk1 | (dsimp only; walk1)))
      · rename (_ != _) = true => hbad
        simp at hbad
      try unfold Stop
      rename Fr _ _ _ _ => F8
      rename News _ _ _ _ => N8
      refine item_at (vs := [.ref c.r, .str _ _]) ⟨_, (N8 _ (.tail _ (.tail _ (.tail _ (.tail _ (.head _)))))).1, rfl, _, rfl⟩ (by decide) (by decide) rfl ?_ (by with_unfolding_all rfl)
      (repeat' (first | (with_reducible ((show wpAny _ _ (exec _ _) _ _ _); (fail_if_success (refine hid_probe (by assumption) ?_)); refine hid_any (fun _ _ => ?_))) | (with_reducible (refine Hid.go (by assumption) _ _ ?_)) | ((with_reducible show wpAny _ _ (execs _ _) _ _ _); dsimp only) | (with_reducible ((show wpAny _ _ (pyIter (Value.ref _)) _ _ _); refine Stop.intro ?_)) | (with_reducible ((show wpAny _ _ (noteFrame (Value.ref _) _) _ _ _); refine Stop.intro ?_)) | (with_reducible ((show wpAny _ _ (_ >>= _) _ _ _); refine Stop.intro ?_)) | (with_reducible ((show wpAny _ _ (getAttr (Value.ref _) (Str.ofString "code") _) _ _ _); refine Stop.intro ?_)) | (with_reducible ((show wpAny _ _ (subscriptTail _ _ _ _) _ _ _); refine Stop.intro ?_)) | (with_reducible ((show wpAny _ _ (compareOp CmpOp.Eq (Value.ref _) (Value.ref _)) _ _ _); refine Stop.intro ?_)) | (with_reducible ((show wpAny _ _ (compareOp CmpOp.NotEq (Value.ref _) (Value.ref _)) _ _ _); refine Stop.intro ?_)) | (with_reducible ((show wpAny _ _ (call (Value.builtin "len") [Value.ref _]) _ _ _); refine Stop.intro ?_)) | (with_reducible ((show wpAny _ _ (eval (PySem.Expr.ListComp _ _ _ _) _) _ _ _); refine Stop.intro ?_)) | (k_unfold; (try dsimp only)) | walk1 | (dsimp only; walk1)))
      try unfold Stop
      rename Fr _ _ _ _ => F8
      rename News _ _ _ _ => N8
      refine ne_strs ⟨_, (N8 _ (.tail _ (.tail _ (.tail _ (.head _))))).1, rfl, _, rfl⟩ hS ⟨_, (N8 _ (.tail _ (.tail _ (.tail _ (.tail _ (.tail _ (.head _))))))).1, rfl, _, rfl⟩ hS' (Nat.le_of_ble_eq_true rfl) ?_
      (repeat' (first | (with_reducible ((show wpAny _ _ (exec _ _) _ _ _); (fail_if_success (refine hid_probe (by assumption) ?_)); refine hid_any (fun _ _ => ?_))) | (with_reducible (refine Hid.go (by assumption) _ _ ?_)) | ((with_reducible show wpAny _ _ (execs _ _) _ _ _); dsimp only) | (with_reducible ((show wpAny _ _ (pyIter (Value.ref _)) _ _ _); refine Stop.intro ?_)) | (with_reducible ((show wpAny _ _ (noteFrame (Value.ref _) _) _ _ _); refine Stop.intro ?_)) | (with_reducible ((show wpAny _ _ (_ >>= _) _ _ _); refine Stop.intro ?_)) | (with_reducible ((show wpAny _ _ (getAttr (Value.ref _) (Str.ofString "code") _) _ _ _); refine Stop.intro ?_)) | (with_reducible ((show wpAny _ _ (subscriptTail _ _ _ _) _ _ _); refine Stop.intro ?_)) | (with_reducible ((show wpAny _ _ (compareOp CmpOp.Eq (Value.ref _) (Value.ref _)) _ _ _); refine Stop.intro ?_)) | (with_reducible ((show wpAny _ _ (compareOp CmpOp.NotEq (Value.ref _) (Value.ref _)) _ _ _); refine Stop.intro ?_)) | (with_reducible ((show wpAny _ _ (call (Value.builtin "len") [Value.ref _]) _ _ _); refine Stop.intro ?_)) | (with_reducible ((show wpAny _ _ (eval (PySem.Expr.ListComp _ _ _ _) _) _ _ _); refine Stop.intro ?_)) | (k_unfold; (try dsimp only)) | walk1 | (dsimp only; walk1)))
      try unfold Stop
      rename Fr _ _ _ _ => F8
      rename News _ _ _ _ => N8
      refine item_at (vs := [.ref c.r, .str _ _]) ⟨_, (N8 _ (.tail _ (.tail _ (.tail _ (.tail _ (.head _)))))).1, rfl, _, rfl⟩ (by decide) (by decide) rfl ?_ (by with_unfolding_all rfl)
      refine ne_same ?_
      (repeat' (first | (with_reducible ((show wpAny _ _ (exec _ _) _ _ _); (fail_if_success (refine hid_probe (by assumption) ?_)); refine hid_any (fun _ _ => ?_))) | (with_reducible (refine Hid.go (by assumption) _ _ ?_)) | ((with_reducible show wpAny _ _ (execs _ _) _ _ _); dsimp only) | (with_reducible ((show wpAny _ _ (pyIter (Value.ref _)) _ _ _); refine Stop.intro ?_)) | (with_reducible ((show wpAny _ _ (noteFrame (Value.ref _) _) _ _ _); refine Stop.intro ?_)) | (with_reducible ((show wpAny _ _ (_ >>= _) _ _ _); refine Stop.intro ?_)) | (with_reducible ((show wpAny _ _ (getAttr (Value.ref _) (Str.ofString "code") _) _ _ _); refine Stop.intro ?_)) | (with_reducible ((show wpAny _ _ (subscriptTail _ _ _ _) _ _ _); refine Stop.intro ?_)) | (with_reducible ((show wpAny _ _ (compareOp CmpOp.Eq (Value.ref _) (Value.ref _)) _ _ _); refine Stop.intro ?_)) | (with_reducible ((show wpAny _ _ (compareOp CmpOp.NotEq (Value.ref _) (Value.ref _)) _ _ _); refine Stop.intro ?_)) | (with_reducible ((show wpAny _ _ (call (Value.builtin "len") [Value.ref _]) _ _ _); refine Stop.intro ?_)) | (with_reducible ((show wpAny _ _ (eval (PySem.Expr.ListComp _ _ _ _) _) _ _ _); refine Stop.intro ?_)) | (k_unfold; (try dsimp only)) | walk1 | (dsimp only; walk1)))
      try unfold Stop
      rename Fr _ _ _ _ => F8
      rename News _ _ _ _ => N8
      refine ⟨KX.keeps F8.keep, ?_⟩
      refine column_use (c := c) rfl rfl rfl rfl K0 F8 KX T N8 ok (pg_far ok hPC.1 (List.forall_mem_cons.mpr ⟨⟨n5.symm, n6.symm, n7.symm⟩, fun _ hy => nomatch hy⟩)) (by omega) (Nat.le_of_ble_eq_true rfl) (Nat.le_of_ble_eq_true rfl) (fun h' tk' tv F9 N9 => ?_)
      clear F8 N8
      (repeat' (first | (with_reducible ((show wpAny _ _ (exec _ _) _ _ _); (fail_if_success (refine hid_probe (by assumption) ?_)); refine hid_any (fun _ _ => ?_))) | (with_reducible (refine Hid.go (by assumption) _ _ ?_)) | ((with_reducible show wpAny _ _ (execs _ _) _ _ _); dsimp only) | (with_reducible ((show wpAny _ _ (pyIter (Value.ref _)) _ _ _); refine Stop.intro ?_)) | (with_reducible ((show wpAny _ _ (noteFrame (Value.ref _) _) _ _ _); refine Stop.intro ?_)) | (with_reducible ((show wpAny _ _ (_ >>= _) _ _ _); refine Stop.intro ?_)) | (with_reducible ((show wpAny _ _ (getAttr (Value.ref _) (Str.ofString "code") _) _ _ _); refine Stop.intro ?_)) | (with_reducible ((show wpAny _ _ (subscriptTail _ _ _ _) _ _ _); refine Stop.intro ?_)) | (with_reducible ((show wpAny _ _ (compareOp CmpOp.Eq (Value.ref _) (Value.ref _)) _ _ _); refine Stop.intro ?_)) | (with_reducible ((show wpAny _ _ (compareOp CmpOp.NotEq (Value.ref _) (Value.ref _)) _ _ _); refine Stop.intro ?_)) | (with_reducible ((show wpAny _ _ (call (Value.builtin "len") [Value.ref _]) _ _ _); refine Stop.intro ?_)) | (with_reducible ((show wpAny _ _ (eval (PySem.Expr.ListComp _ _ _ _) _) _ _ _); refine Stop.intro ?_)) | (k_unfold; (try dsimp only)) | walk1 | (dsimp only; walk1)))
      try unfold Stop
      rename Fr _ _ _ _ => F8
      rename News _ _ _ _ => N8
      refine item_at (vs := [.ref c.r, .str _ _]) ⟨_, (N8 _ (.tail _ (.tail _ (.tail _ (.tail _ (.head _)))))).1, rfl, _, rfl⟩ (by decide) (by decide) rfl ?_ (by with_unfolding_all rfl)
      (repeat' (first | (with_reducible ((show wpAny _ _ (exec _ _) _ _ _); (fail_if_success (refine hid_probe (by assumption) ?_)); refine hid_any (fun _ _ => ?_))) | (with_reducible (refine Hid.go (by assumption) _ _ ?_)) | ((with_reducible show wpAny _ _ (execs _ _) _ _ _); dsimp only) | (with_reducible ((show wpAny _ _ (pyIter (Value.ref _)) _ _ _); refine Stop.intro ?_)) | (with_reducible ((show wpAny _ _ (noteFrame (Value.ref _) _) _ _ _); refine Stop.intro ?_)) | (with_reducible ((show wpAny _ _ (_ >>= _) _ _ _); refine Stop.intro ?_)) | (with_reducible ((show wpAny _ _ (getAttr (Value.ref _) (Str.ofString "code") _) _ _ _); refine Stop.intro ?_)) | (with_reducible ((show wpAny _ _ (subscriptTail _ _ _ _) _ _ _); refine Stop.intro ?_)) | (with_reducible ((show wpAny _ _ (compareOp CmpOp.Eq (Value.ref _) (Value.ref _)) _ _ _); refine Stop.intro ?_)) | (with_reducible ((show wpAny _ _ (compareOp CmpOp.NotEq (Value.ref _) (Value.ref _)) _ _ _); refine Stop.intro ?_)) | (with_reducible ((show wpAny _ _ (call (Value.builtin "len") [Value.ref _]) _ _ _); refine Stop.intro ?_)) | (with_reducible ((show wpAny _ _ (eval (PySem.Expr.ListComp _ _ _ _) _) _ _ _); refine Stop.intro ?_)) | (k_unfold; (try dsimp only)) | walk1 | (dsimp only; walk1)))
      · exfalso
        omega
      try unfold Stop
      rename Fr _ _ _ _ => F8
      rename News _ _ _ _ => N8
      exact ⟨by first | rfl | trivial, _, _, tr, th, t, tq, its, itq, k, kq, kr, vt, va, vf, rfl, F8, N8, hS, hS'⟩
    clear F6 N6
    obtain ⟨h7, tk7, tr, th, t, tq, its, itq, k, kq, kr, vt, va, vf, rfl, F7, N7, hS, hS'⟩ := hT6
    (repeat' (first | (with_reducible ((show wpAny _ _ (exec _ _) _ _ _); (fail_if_success (refine hid_probe (by assumption) ?_)); refine hid_any (fun _ _ => ?_))) | (with_reducible (refine Hid.go (by assumption) _ _ ?_)) | ((with_reducible show wpAny _ _ (execs _ _) _ _ _); dsimp only) | (with_reducible ((show wpAny _ _ (pyIter (Value.ref _)) _ _ _); refine Stop.intro ?_)) | (with_reducible ((show wpAny _ _ (noteFrame (Value.ref _) _) _ _ _); refine Stop.intro ?_)) | (with_reducible ((show wpAny _ _ (_ >>= _) _ _ _); refine Stop.intro ?_)) | (with_reducible ((show wpAny _ _ (getAttr (Value.ref _) (Str.ofString "code") _) _ _ _); refine Stop.intro ?_)) | (with_reducible ((show wpAny _ _ (subscriptTail _ _ _ _) _ _ _); refine Stop.intro ?_)) | (with_reducible ((show wpAny _ _ (compareOp CmpOp.Eq (Value.ref _) (Value.ref _)) _ _ _); refine Stop.intro ?_)) | (with_reducible ((show wpAny _ _ (compareOp CmpOp.NotEq (Value.ref _) (Value.ref _)) _ _ _); refine Stop.intro ?_)) | (with_reducible ((show wpAny _ _ (call (Value.builtin "len") [Value.ref _]) _ _ _); refine Stop.intro ?_)) | (with_reducible ((show wpAny _ _ (eval (PySem.Expr.ListComp _ _ _ _) _) _ _ _); refine Stop.intro ?_)) | (k_unfold; (try dsimp only)) | walk1 | (dsimp only; walk1)))
    try unfold Stop
    dsimp only
    refine ⟨_, _, _, _, rfl, F7, fun y hy => N7 y (.tail _ (mem_end.mp hy)), ⟨(lawPiece c.zone c.width S QV).1, t, tq, its, itq, k, kq, kr, _, _, _, _, _, _, rfl, rfl, hS, hS', by omega, by omega⟩, ne_both hne⟩
  · intro m' news' h tk hp6 F' N'
    obtain ⟨S, t, tq, its, itq, k, kq, kr, vt, vp, vr, va, vh, vf, rfl, rfl, hS, hS', hb1, hb2⟩ := hp6
    clear F6 N6 hr
    try clear F5 N5
    obtain ⟨rows9, row9⟩ := S
    dsimp only at hS hS' hb1 hb2 F' N'
    have hl9 := hS'.len_eq
    unfold C1.slots C1.vars at F'
    dsimp only
    refine Hid.go (by assumption) _ _ ?_
    (repeat' (first | (with_reducible ((show wpAny _ _ (pyIter (Value.ref _)) _ _ _); refine Stop.intro ?_)) | (with_reducible ((show wpAny _ _ (noteFrame (Value.ref _) _) _ _ _); refine Stop.intro ?_)) | (with_reducible ((show wpAny _ _ (_ >>= _) _ _ _); refine Stop.intro ?_)) | (with_reducible ((show wpAny _ _ (getAttr (Value.ref _) (Str.ofString "code") _) _ _ _); refine Stop.intro ?_)) | (with_reducible ((show wpAny _ _ (subscriptTail _ _ _ _) _ _ _); refine Stop.intro ?_)) | (with_reducible ((show wpAny _ _ (compareOp CmpOp.Eq (Value.ref _) (Value.ref _)) _ _ _); refine Stop.intro ?_)) | (with_reducible ((show wpAny _ _ (compareOp CmpOp.NotEq (Value.ref _) (Value.ref _)) _ _ _); refine Stop.intro ?_)) | (with_reducible ((show wpAny _ _ (call (Value.builtin "len") [Value.ref _]) _ _ _); refine Stop.intro ?_)) | (with_reducible ((show wpAny _ _ (eval (PySem.Expr.ListComp _ _ _ _) _) _ _ _); refine Stop.intro ?_)) | (k_unfold; (try dsimp only)) | walk1 | (dsimp only; walk1)))
    try unfold Stop
    refine ⟨KX.keeps F'.keep, ?_⟩
    refine rows_use (c := c) (S := (rows9, row9)) rfl rfl rfl rfl K0 F' KX T N' ok (fun y hy => pg_far ok (PC := c.CU) (oPC := c.oc) (Z := []) (ok.hpg _ (.head _)) (fun _ hy => nomatch hy) y (.tail _ (by rw [List.append_nil]; exact hy))) hS (by dsimp only; omega) (by dsimp only; omega) (Nat.le_of_ble_eq_true rfl) (Nat.le_of_ble_eq_true rfl) (fun h' tk' r8 its8 k8 F8 N8 hap8 S8 => ?_)
    clear F' N'
    have q1 := hap8 _ (.head _)
    have q2 := hap8 _ (.tail _ (.head _))
    unfold C1.rest at N8
    simp only [mnLed, List.cons_append, List.nil_append] at N8
    (repeat' (first | (with_reducible ((show wpAny _ _ (pyIter (Value.ref _)) _ _ _); refine Stop.intro ?_)) | (with_reducible ((show wpAny _ _ (noteFrame (Value.ref _) _) _ _ _); refine Stop.intro ?_)) | (with_reducible ((show wpAny _ _ (_ >>= _) _ _ _); refine Stop.intro ?_)) | (with_reducible ((show wpAny _ _ (getAttr (Value.ref _) (Str.ofString "code") _) _ _ _); refine Stop.intro ?_)) | (with_reducible ((show wpAny _ _ (subscriptTail _ _ _ _) _ _ _); refine Stop.intro ?_)) | (with_reducible ((show wpAny _ _ (compareOp CmpOp.Eq (Value.ref _) (Value.ref _)) _ _ _); refine Stop.intro ?_)) | (with_reducible ((show wpAny _ _ (compareOp CmpOp.NotEq (Value.ref _) (Value.ref _)) _ _ _); refine Stop.intro ?_)) | (with_reducible ((show wpAny _ _ (call (Value.builtin "len") [Value.ref _]) _ _ _); refine Stop.intro ?_)) | (with_reducible ((show wpAny _ _ (eval (PySem.Expr.ListComp _ _ _ _) _) _ _ _); refine Stop.intro ?_)) | (k_unfold; (try dsimp only)) | walk1 | (dsimp only; walk1)))
    try unfold Stop
    rename Fr _ _ _ _ => F9
    rename News _ _ _ _ => N9
    refine item_at (vs := [.ref c.r, .str _ _]) ⟨_, (N9 _ (.tail _ (.head _))).1, rfl, _, rfl⟩ (by decide) (by decide) rfl ?_ (by with_unfolding_all rfl)
    (repeat' (first | (with_reducible ((show wpAny _ _ (pyIter (Value.ref _)) _ _ _); refine Stop.intro ?_)) | (with_reducible ((show wpAny _ _ (noteFrame (Value.ref _) _) _ _ _); refine Stop.intro ?_)) | (with_reducible ((show wpAny _ _ (_ >>= _) _ _ _); refine Stop.intro ?_)) | (with_reducible ((show wpAny _ _ (getAttr (Value.ref _) (Str.ofString "code") _) _ _ _); refine Stop.intro ?_)) | (with_reducible ((show wpAny _ _ (subscriptTail _ _ _ _) _ _ _); refine Stop.intro ?_)) | (with_reducible ((show wpAny _ _ (compareOp CmpOp.Eq (Value.ref _) (Value.ref _)) _ _ _); refine Stop.intro ?_)) | (with_reducible ((show wpAny _ _ (compareOp CmpOp.NotEq (Value.ref _) (Value.ref _)) _ _ _); refine Stop.intro ?_)) | (with_reducible ((show wpAny _ _ (call (Value.builtin "len") [Value.ref _]) _ _ _); refine Stop.intro ?_)) | (with_reducible ((show wpAny _ _ (eval (PySem.Expr.ListComp _ _ _ _) _) _ _ _); refine Stop.intro ?_)) | (k_unfold; (try dsimp only)) | walk1 | (dsimp only; walk1)))
    try unfold Stop
    refine ListComp_rowsP (by decide) (by decide) (by with_unfolding_all rfl) (by decide) (by with_unfolding_all rfl) ?_ (by intro _; with_unfolding_all rfl)
    (repeat' (first | (with_reducible ((show wpAny _ _ (pyIter (Value.ref _)) _ _ _); refine Stop.intro ?_)) | (with_reducible ((show wpAny _ _ (noteFrame (Value.ref _) _) _ _ _); refine Stop.intro ?_)) | (with_reducible ((show wpAny _ _ (_ >>= _) _ _ _); refine Stop.intro ?_)) | (with_reducible ((show wpAny _ _ (getAttr (Value.ref _) (Str.ofString "code") _) _ _ _); refine Stop.intro ?_)) | (with_reducible ((show wpAny _ _ (subscriptTail _ _ _ _) _ _ _); refine Stop.intro ?_)) | (with_reducible ((show wpAny _ _ (compareOp CmpOp.Eq (Value.ref _) (Value.ref _)) _ _ _); refine Stop.intro ?_)) | (with_reducible ((show wpAny _ _ (compareOp CmpOp.NotEq (Value.ref _) (Value.ref _)) _ _ _); refine Stop.intro ?_)) | (with_reducible ((show wpAny _ _ (call (Value.builtin "len") [Value.ref _]) _ _ _); refine Stop.intro ?_)) | (with_reducible ((show wpAny _ _ (eval (PySem.Expr.ListComp _ _ _ _) _) _ _ _); refine Stop.intro ?_)) | (k_unfold; (try dsimp only)) | walk1 | (dsimp only; walk1)))
    try unfold Stop
    rename Fr _ _ _ _ => F9
    rename News _ _ _ _ => N9
    refine item_at (vs := [.ref c.r, .str _ _]) ⟨_, (N9 _ (.tail _ (.head _))).1, rfl, _, rfl⟩ (by decide) (by decide) rfl ?_ (by with_unfolding_all rfl)
    (repeat' (first | (with_reducible ((show wpAny _ _ (pyIter (Value.ref _)) _ _ _); refine Stop.intro ?_)) | (with_reducible ((show wpAny _ _ (noteFrame (Value.ref _) _) _ _ _); refine Stop.intro ?_)) | (with_reducible ((show wpAny _ _ (_ >>= _) _ _ _); refine Stop.intro ?_)) | (with_reducible ((show wpAny _ _ (getAttr (Value.ref _) (Str.ofString "code") _) _ _ _); refine Stop.intro ?_)) | (with_reducible ((show wpAny _ _ (subscriptTail _ _ _ _) _ _ _); refine Stop.intro ?_)) | (with_reducible ((show wpAny _ _ (compareOp CmpOp.Eq (Value.ref _) (Value.ref _)) _ _ _); refine Stop.intro ?_)) | (with_reducible ((show wpAny _ _ (compareOp CmpOp.NotEq (Value.ref _) (Value.ref _)) _ _ _); refine Stop.intro ?_)) | (with_reducible ((show wpAny _ _ (call (Value.builtin "len") [Value.ref _]) _ _ _); refine Stop.intro ?_)) | (with_reducible ((show wpAny _ _ (eval (PySem.Expr.ListComp _ _ _ _) _) _ _ _); refine Stop.intro ?_)) | (k_unfold; (try dsimp only)) | walk1 | (dsimp only; walk1)))
    try unfold Stop
    rename Fr _ _ _ _ => F9
    rename News _ _ _ _ => N9
    have hr9 : StrsAre [Value.str row9 tq] [row9] := .cons _ _ .nil
    refine srcC_listD (K := .str) (vs := [.str row9 tq]) (as := [row9]) (pz := fun a => a != Str.ofString "") (d := fun a => .str a) rfl ⟨_, (N9 _ (.head _)).1, rfl, _, rfl⟩ hr9.areOf F9 N9 ?g1 ?g2 ?g3 (by rw [sizeLine_eq]; exact Nat.le_of_ble_eq_true rfl)
    case g1 =>
      intro C a v s₂ m₂ E' hk hns hm htk
      clear F9 N9 hr9
      obtain ⟨_, e'⟩ := ItemKind.str_is hk
      subst e'
      try refine wpAny_leafK ?_
      (repeat' (first | (with_reducible ((show wpAny _ _ (pyIter (Value.ref _)) _ _ _); refine Stop.intro ?_)) | (with_reducible ((show wpAny _ _ (noteFrame (Value.ref _) _) _ _ _); refine Stop.intro ?_)) | (with_reducible ((show wpAny _ _ (_ >>= _) _ _ _); refine Stop.intro ?_)) | (with_reducible ((show wpAny _ _ (getAttr (Value.ref _) (Str.ofString "code") _) _ _ _); refine Stop.intro ?_)) | (with_reducible ((show wpAny _ _ (subscriptTail _ _ _ _) _ _ _); refine Stop.intro ?_)) | (with_reducible ((show wpAny _ _ (compareOp CmpOp.Eq (Value.ref _) (Value.ref _)) _ _ _); refine Stop.intro ?_)) | (with_reducible ((show wpAny _ _ (compareOp CmpOp.NotEq (Value.ref _) (Value.ref _)) _ _ _); refine Stop.intro ?_)) | (with_reducible ((show wpAny _ _ (call (Value.builtin "len") [Value.ref _]) _ _ _); refine Stop.intro ?_)) | (with_reducible ((show wpAny _ _ (eval (PySem.Expr.ListComp _ _ _ _) _) _ _ _); refine Stop.intro ?_)) | (k_unfold; (try dsimp only)) | walk1 | (dsimp only; walk1)))
    case g2 =>
      intro C a v s₂ m₂ E' hk hp hns hm htk
      clear F9 N9 hr9
      obtain ⟨_, e'⟩ := ItemKind.str_is hk
      subst e'
      try refine wpAny_leafK ?_
      (repeat' (first | (with_reducible ((show wpAny _ _ (pyIter (Value.ref _)) _ _ _); refine Stop.intro ?_)) | (with_reducible ((show wpAny _ _ (noteFrame (Value.ref _) _) _ _ _); refine Stop.intro ?_)) | (with_reducible ((show wpAny _ _ (_ >>= _) _ _ _); refine Stop.intro ?_)) | (with_reducible ((show wpAny _ _ (getAttr (Value.ref _) (Str.ofString "code") _) _ _ _); refine Stop.intro ?_)) | (with_reducible ((show wpAny _ _ (subscriptTail _ _ _ _) _ _ _); refine Stop.intro ?_)) | (with_reducible ((show wpAny _ _ (compareOp CmpOp.Eq (Value.ref _) (Value.ref _)) _ _ _); refine Stop.intro ?_)) | (with_reducible ((show wpAny _ _ (compareOp CmpOp.NotEq (Value.ref _) (Value.ref _)) _ _ _); refine Stop.intro ?_)) | (with_reducible ((show wpAny _ _ (call (Value.builtin "len") [Value.ref _]) _ _ _); refine Stop.intro ?_)) | (with_reducible ((show wpAny _ _ (eval (PySem.Expr.ListComp _ _ _ _) _) _ _ _); refine Stop.intro ?_)) | (k_unfold; (try dsimp only)) | walk1 | (dsimp only; walk1)))
    intro D ys h'' tk'' F10 N10 hD0 hDl hDp hca
    clear F9 N9 hr9
    refine add_arr F10 N10 ⟨_, (N10 _ (.tail _ (.tail _ (.tail _ (.head _))))).1, rfl, _, rfl⟩ hDl (by have := ys_len hca; omega) (fun D2 h3 F11 N11 => ?_)
    have hR := rows_end hS' hca
    refine eq_strs (us := (itq.toList ++ ys).toArray) ⟨_, (N11 _ (.tail _ (.tail _ (.head _)))).1, rfl, _, rfl⟩ S8 ⟨_, (N11 _ (.head _)).1, rfl, _, rfl⟩ hR (Nat.le_of_ble_eq_true rfl) ?_
    clear F10 N10
    k_steps)
end Mine

theorem PySem.Challenge.cw_pq0159_01_holds : PySem.Challenge.rw_pq0159_01.Holds := by
  exact Mine.law01

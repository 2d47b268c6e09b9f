import PyProof.Rows.All
import Wide.All
import OpenK.AllK
import Wide.FinOn
import PySem.Challenge.RW_xw0205_01
open PySem PySem.W PyProof.Rows
set_option Elab.async false
namespace Mine
def view : Program := { PySem.Challenge.pw_xw0205_01 with main := { PySem.Challenge.pw_xw0205_01.main with body := [35].filterMap fun i => PySem.Challenge.pw_xw0205_01.main.body[i]? } }
def looseN : List Str := [Str.ofString "_wall", Str.ofString "SPACES", Str.ofString "CHAR_RANGES", Str.ofString "START_RANGES", Str.ofString "MORE_RANGES", Str.ofString "FIRST_BEYOND", Str.ofString "is_in_ranges", Str.ofString "is_space", Str.ofString "is_char", Str.ofString "is_small_letter", Str.ofString "is_name_start", Str.ofString "is_name_char", Str.ofString "MarkupError", Str.ofString "SyntaxFault", Str.ofString "check_chars", Str.ofString "read_comment", Str.ofString "read_instruction", Str.ofString "read_cdata", Str.ofString "Cursor", Str.ofString "_law_pool", Str.ofString "_law_take", Str.ofString "_law_one", Str.ofString "_law_heard", Str.ofString "_law_comment", Str.ofString "_law_instruction", Str.ofString "_law_part", Str.ofString "_law_told_right", Str.ofString "_law_pieces", Str.ofString "_law_right", Str.ofString "_law_wrong_right"]
/-- the head from the boot's end on -/
theorem left_boot {p q : Program} {loose : List Str} {Xt : Shared → Bool} {α : Type} {Yf : Shared → α} {Ya : World → α} {N : Nat} {g0 : Bool} (e : opening p = plainProg p.main.scope.names) (hN : Nat.ble 600 N = true) (f : ∀ s, fenceModules? p s = some s)
    (h : ∀ (w : World) (os : OsState), (topFrom treeTable p w N ⟨boot_heap w.params, Array.mk [], boot_drawn, boot_toks, os⟩).map (fun s => (openSeen q loose (importedModules p.main.body) Xt g0 s, Yf s)) = some (openGood q loose, Ya w)) : LeftO p q loose Xt Yf Ya N g0 := fun w => by
  obtain ⟨⟨hh, gs, d, k, os⟩, a, b⟩ := Option.map_eq_some_iff.mp (boot_open e hN f w)
  obtain ⟨rfl, rfl, rfl, rfl⟩ : hh = boot_heap w.params ∧ gs = Array.mk [] ∧ d = boot_drawn ∧ k = boot_toks := by simpa using b
  unfold openEnds
  rw [a]
  exact h w os
local macro_rules | `(tactic| o_head $H) => do
  let hw := Lean.mkIdent `hw
  let hc := Lean.mkIdent `hc
  `(tactic| (refine holds_open (q := view) (loose := looseN) (Xt := fun s => xlAt view [] s && recOk (RowW.records (OpenRow.toRowW PySem.Challenge.rw_xw0205_01.row)) s) (XP := XL view []) (Yf := Hook.obs $H) (Ya := Hook.val $H) (YP := Hook.says $H) (N := 4176) ?hl (Hook.of $H) (Hook.keeps $H) (fun s e => xl_of s (Bool.and_eq_true_iff.mp e).1) XL.keeps (by rfl) (by rfl) (by rfl) (fun s e => recFacts_of (Bool.and_eq_true_iff.mp e).2) (by rfl) (by first | assumption | decide +kernel) (by decide +kernel) ⟨rfl, rfl, rfl, rfl, rfl, by decide +kernel⟩ ?$hw ?$hc; (case hl => (refine left_boot ?ho ?hn ?hf ?hh; (case ho => kernel_rfl); (case hn => rfl); (case hf => exact fun _ => rfl); (case hh => (intro w os; unfold topFrom; rewrite [Fast.te14082659384304107361, Fast.te14364793385576792824, Fast.te4187177175401517315]; kernel_rfl))))))
set_option maxRecDepth 100000 in
set_option maxHeartbeats 0 in
open_top hd for PySem.Challenge.rw_xw0205_01
local macro_rules | `(tactic| walk_at $s:str) => `(tactic| k_extra $s)
local macro_rules | `(tactic| ktr_room) => `(tactic| ((try simp only [depth_mark, depth_under_make, depth_under_kw, depth_in1, depth_deeper, depth_caller]); (try dsimp only [ktrTop]); first | decide | omega | (simp only [recursionLimit]; omega)))
local macro_rules | `(tactic| ktr_units) => `(tactic| ((try simp only [units_in1, units_deeper, Around.mark_units, units_caller]); (try dsimp only [ktrTop]); first | decide | omega | (simp only [cLine]; omega)))
local macro_rules | `(tactic| k_room) => `(tactic| ktr_room)
local macro_rules | `(tactic| k_all) => `(tactic| assumption)
local macro_rules | `(tactic| k_ne) => `(tactic| assumption)
set_option maxRecDepth 100000
section
open PySem.Calls
/-- the rest of the walk, under two short names -/
theorem wp_pack {α : Type} {M : Model} {A : Around} {t : Sem α} {Q : α → Shared → Prop} {E : Value → Shared → Prop} {s : Shared}
    (h : ∀ Q1 E1, (∀ v s', Q v s' → Q1 v s') → (∀ e s', E e s' → E1 e s') → wpAny M A t Q1 E1 s) : wpAny M A t Q E s := h Q E (fun _ _ x => x) fun _ _ x => x
end
section
open PySem.Calls
theorem dict_mapFields (o : Obj) (f) : (o.mapFields f).dict = o.dict := by
  obtain ⟨c, d, dt, sl⟩ := o; cases dt <;> rfl

/-- an exception under way (e, of the class C, its dict D): its first entry T bears the mark fl -/
def Traced (base : Heap) (e C D : Addr) (fl : Value) (h : Heap) : Prop :=
  ∃ oe vs T oT ts, h.get? e = some oe ∧ oe.cls = .ref C ∧ oe.dict = some D ∧ oe.data = .fields vs ∧ vs[1]? = some (.ref T) ∧ base.get? T = none ∧ T ≠ e ∧ h.get? T = some oT ∧ oT.data = .fields ts ∧ ts[3]? = some fl
def InAir (base : Heap) (l : List Env) (e C D : Addr) (fl : Value) (h : Heap) : Prop :=
  base.StaysIn h ∧ base.get? e = none ∧ h.FunFrames base l ∧ Traced base e C D fl h

section
variable {M : Model} {A : Around} {E : Value → Shared → Prop} {s : Shared} {base : Heap} {env : Env} {outer : List Env} {L e C D : Addr} {Q : Unit → Shared → Prop}

theorem not_rec {h : Heap} {T : Addr} {oT : Obj} {ts : Array Value} (hT : h.get? T = some oT) (hd : oT.data = .fields ts) : ∀ b o, h.get? b = some o → (∀ vs, o.data ≠ .fields vs) → b ≠ T := by
  intro b o hb hn q
  rw [q, hT] at hb
  cases hb
  exact hn ts hd

theorem air_entry {oe : Obj} {vs : Array Value} {head : Value} {hadNext : Bool} (hfr : A.frames = some (env :: outer)) (hl : s.heap.FunFrames base (env :: outer)) (hf : env.frame = some L)
    (he : s.heap.get? e = some oe) (hkb : base.StaysIn s.heap) (hen : base.get? e = none) (hc : oe.cls = .ref C) (hD : oe.dict = some D) (hd : oe.data = .fields vs) (hsz : 1 < vs.size)
    (h : ∀ h', InAir base (env :: outer) e C D (rawInt L) h' → s.heap.UpToSlots h' → Q () { s with heap := h' }) :
    wpAny M A (do let a ← frameOf env; let pl ← entryPlaceOf L hadNext; let b ← EntryCells.newEntry head a .none (rawInt L) .none pl; setField (.ref e) 1 b) Q E s := by
  have hene : e ∉ (env :: outer).filterMap (·.frame) := fun hm => by
    obtain ⟨_, o, ho, hnf⟩ := hl.mem hm
    rw [he] at ho
    cases ho
    exact hnf vs hd
  refine wpAny_bind (wpAny_frameOf_fun hfr hl hf fun h₁ hs₁ => ?_)
  refine wpAny_bind (wpAny_entryPlaceOf fun pl hpl => ?_)
  unfold EntryCells.newEntry newFields
  refine wpAny_bind (wpAny_newObj_type ?_ (hpl.sizeOk5 _ _ _ _ _))
  generalize hot : (({ cls := .type "traceback", dict := none, data := .fields ([head, .ref L, .none, rawInt L, .none] ++ (if pl.isEmpty then List.replicate 6 Value.none else pl)).toArray } : Obj)) = ot
  have hotd : ot.data = .fields ([head, .ref L, .none, rawInt L, .none] ++ (if pl.isEmpty then List.replicate 6 Value.none else pl)).toArray := by rw [← hot]
  have he₁ : h₁.get? e = some oe := (hs₁.2.1 e hene).trans he
  have kb₁ : base.StaysIn h₁ := fun b o hbo => (hs₁.2.1 b fun hm => by rw [(hl.mem hm).1] at hbo; cases hbo).trans (hkb b o hbo)
  have he₂ := Heap.get?_push_of_some (h := h₁) ot he₁
  refine wpAny_setField he₂ hd hsz (h _ ?_ ?_)
  all_goals
    have hTe : h₁.objs.size ≠ e := Nat.ne_of_gt (Heap.lt_size he₁)
    have hd₃ := Obj.data_mapFields hd (·.setIfInBounds 1 (Value.ref h₁.objs.size))
    have he₃ := Heap.get?_update_self (Obj.mapFields (·.setIfInBounds 1 (Value.ref h₁.objs.size))) he₂ (Obj.isFreed_of_fields hd₃)
    have hT₃ := (Heap.get?_update_other (h₁.push ot) (Obj.mapFields (·.setIfInBounds 1 (Value.ref h₁.objs.size))) (Ne.symm hTe)).trans (Heap.get?_push_size h₁ (Obj.isFreed_of_fields hotd))
    have keep : ∀ b o, b ≠ e → h₁.get? b = some o → ((h₁.push ot).update e (Obj.mapFields (·.setIfInBounds 1 (Value.ref h₁.objs.size)))).get? b = some o := fun b o hbe hb => by
      rw [Heap.get?_update_other _ _ (Ne.symm hbe)]
      exact Heap.get?_push_of_some _ hb
  · refine ⟨fun b o hbo => keep b o (fun q => by rw [q, hen] at hbo; cases hbo) (kb₁ b o hbo), hen, hl.of_keeps fun b o hb hnf => ?_, ?_⟩
    · obtain ⟨sl, hs⟩ := hs₁.2.2 b o hb
      exact ⟨_, keep b _ (not_rec he hd b o hb hnf) hs, rfl⟩
    · exact ⟨_, _, h₁.objs.size, _, _, he₃, (Obj.cls_mapFields _ _).trans hc, (dict_mapFields _ _).trans hD, hd₃, by simp [hsz], kb₁.fresh, hTe, hT₃, hotd, by simp⟩
  · intro b o hb hnf
    obtain ⟨sl, hs⟩ := hs₁.2.2 b o hb
    exact ⟨sl, keep b _ (not_rec he hd b o hb hnf) hs⟩

theorem air_note_first {oe : Obj} {vs : Array Value} (hfr : A.frames = some (env :: outer)) (hl : s.heap.FunFrames base (env :: outer)) (hf : env.frame = some L)
    (he : s.heap.get? e = some oe) (hkb : base.StaysIn s.heap) (hen : base.get? e = none) (hc : oe.cls = .ref C) (hD : oe.dict = some D) (hd : oe.data = .fields vs) (h1 : vs[1]? = some .none)
    (h : ∀ h', InAir base (env :: outer) e C D (rawInt L) h' → s.heap.UpToSlots h' → Q () { s with heap := h' }) : wpAny M A (noteFrame (.ref e) env) Q E s := by
  unfold noteFrame
  simp only [hf]
  refine wpAny_bind (wpAny_field he hd h1 ?_)
  rw [if_neg (by decide)]
  exact air_entry hfr hl hf he hkb hen hc hD hd (Array.getElem?_eq_some_iff.mp h1).1 h

theorem air_note_next (hfr : A.frames = some (env :: outer)) (hf : env.frame = some L) (hx : InAir base (env :: outer) e C D .none s.heap)
    (h : ∀ h', InAir base (env :: outer) e C D (rawInt L) h' → s.heap.UpToSlots h' → Q () { s with heap := h' }) : wpAny M A (noteFrame (.ref e) env) Q E s := by
  obtain ⟨hkb, hen, hl, oe, vs, T, oT, ts, he, hc, hD, hd, h1, hnT, hTe, hT, hdT, h3⟩ := hx
  unfold noteFrame
  simp only [hf]
  refine wpAny_bind (wpAny_field he hd h1 ?_)
  rw [if_pos (show (Value.ref T != Value.none) = true from by simp)]
  refine wpAny_bind (wpAny_field hT hdT h3 ?_)
  rw [if_neg (show ¬ ((Value.none == rawInt L) = true) from by simp [rawInt])]
  refine wpAny_bind (wpAny_setField hT hdT (Array.getElem?_eq_some_iff.mp h3).1 ?_)
  have other : ∀ b, b ≠ T → (s.heap.update T (Obj.mapFields (·.setIfInBounds 3 Value.none))).get? b = s.heap.get? b := fun b hb => Heap.get?_update_other _ _ (Ne.symm hb)
  have nr := not_rec hT hdT
  refine air_entry hfr (hl.of_keeps fun b o hb hnf => ⟨o, (other b (nr b o hb hnf)).trans hb, rfl⟩) hf ((other e (Ne.symm hTe)).trans he)
    (fun b o hbo => (other b fun q => by rw [q, hnT] at hbo; cases hbo).trans (hkb b o hbo)) hen hc hD hd (Array.getElem?_eq_some_iff.mp h1).1
    fun h' x1 x2 => h h' x1 fun b o hb hnf => x2 b o ((other b (nr b o hb hnf)).trans hb) hnf

theorem air_flight {l : List Env} {fl : Value} (hx : InAir base l e C D fl s.heap)
    (h : ∀ h', InAir base l e C D .none h' → s.heap.UpToSlots h' → Q () { s with heap := h' }) : wpAny M A (setFlight (.ref e) none) Q E s := by
  obtain ⟨hkb, hen, hl, oe, vs, T, oT, ts, he, hc, hD, hd, h1, hnT, hTe, hT, hdT, h3⟩ := hx
  have hsz3 : 3 < ts.size := (Array.getElem?_eq_some_iff.mp h3).1
  have other : ∀ b, b ≠ T → (s.heap.update T (Obj.mapFields (·.setIfInBounds 3 ((none : Option Addr).elim Value.none fun f => rawInt f)))).get? b = s.heap.get? b :=
    fun b hb => Heap.get?_update_other _ _ (Ne.symm hb)
  have nr := not_rec hT hdT
  unfold setFlight
  refine wpAny_bind (wpAny_field he hd h1 ?_)
  rw [if_pos (show (Value.ref T != Value.none) = true from by simp)]
  refine wpAny_setField hT hdT hsz3 (h _ ⟨fun b o hbo => (other b fun q => by rw [q, hnT] at hbo; cases hbo).trans (hkb b o hbo), hen,
    hl.of_keeps fun b o hb hnf => ⟨o, (other b (nr b o hb hnf)).trans hb, rfl⟩, ?_⟩ fun b o hb hnf => ⟨o.slots, (other b (nr b o hb hnf)).trans hb⟩)
  exact ⟨oe, vs, T, _, _, (other e (Ne.symm hTe)).trans he, hc, hD, hd, h1, hnT, hTe, Heap.get?_update_self _ hT (Obj.isFreed_of_fields (Obj.data_mapFields hdT _)), Obj.data_mapFields hdT _, by simp [hsz3]⟩

theorem air_out {l : List Env} {fl : Value} {h : Heap} (hx : InAir base (env :: l) e C D fl h) : InAir base l e C D fl h := ⟨hx.1, hx.2.1, hx.2.2.1.2.2, hx.2.2.2⟩

theorem air_leave_first {oe : Obj} {vs : Array Value} (hfr : A.frames = some (env :: outer)) (hl : s.heap.FunFrames base (env :: outer)) (hf : env.frame = some L)
    (he : s.heap.get? e = some oe) (hkb : base.StaysIn s.heap) (hen : base.get? e = none) (hc : oe.cls = .ref C) (hD : oe.dict = some D) (hd : oe.data = .fields vs) (h1 : vs[1]? = some .none)
    (h : ∀ h', InAir base outer e C D .none h' → s.heap.UpToSlots h' → Q () { s with heap := h' }) : wpAny M A (leaving env (.ref e)) Q E s := by
  unfold leaving
  exact wpAny_bind (air_note_first hfr hl hf he hkb hen hc hD hd h1 fun h₁ x₁ u₁ => air_flight x₁ fun h₂ x₂ u₂ => h h₂ (air_out x₂) (u₁.trans u₂))
theorem air_leave (hfr : A.frames = some (env :: outer)) (hf : env.frame = some L) (hx : InAir base (env :: outer) e C D .none s.heap)
    (h : ∀ h', InAir base outer e C D .none h' → s.heap.UpToSlots h' → Q () { s with heap := h' }) : wpAny M A (leaving env (.ref e)) Q E s := by
  unfold leaving
  exact wpAny_bind (air_note_next hfr hf hx fun h₁ x₁ u₁ => air_flight x₁ fun h₂ x₂ u₂ => h h₂ (air_out x₂) (u₁.trans u₂))
end
end
section
open PySem.Calls Builtin
section
variable {prog : Program} {w : World} {M : Model} {A : Around} {E : Value → Shared → Prop} {R : Result → Shared → Prop} {h : Heap} {g : Array GenState} {d : Drawn} {t : Nat} {os : OsState}
variable {nm q : Str} {C N : Addr} {bs bm : List Value} {hdct : Bool} {sn : List Str} {sub : List Value} {ab : Bool} {col : Option Bool} {dd : Option Addr} {k0 k1 k2 k3 k5 : Option Value} {rest : List Value}
theorem newx_check {Q : Unit → Shared → Prop} (hC : h.get? C = some (excClassObj nm q C N bs bm hdct sn sub ab col dd k0 k1 k2 k3 k5 "Exception.__new__")) (hb : (Value.ref C :: bm).contains (.type "Exception") = true)
    (hq : Q () ⟨h, g, d, t, os⟩) : wpAny M A (checkBuiltinCall "Exception.__new__" ⟨.ref C :: rest, []⟩) Q E ⟨h, g, d, t, os⟩ := by
  have Fn := PySem.F.excBase_Exception
  have hstar := Fn.noStar
  simp only [checkBuiltinCall, Fn.newKind, Fn.newSplit, Fn.newRow]
  repeat (first | refine wpAny_loadPart_at hC ?_ | (refine wpAny_isSubtype_exc hC ?_; rw [hb]) | refine wpAny_staticBase_exc hC ?_ | refine wpAny_madeBy_exc hC ?_ | simp only [bne_self_eq_false, Bool.false_eq_true, if_false] | wp_step)
  exact hq
theorem newx_run (hC : h.get? C = some (excClassObj nm q C N bs bm hdct sn sub ab col dd k0 k1 k2 k3 k5 "Exception.__new__")) (hb : (Value.ref C :: bm).contains (.type "Exception") = true)
    (hA : (Value.ref C :: bm).contains (.type "AttributeError") = false) (hN : (Value.ref C :: bm).contains (.type "NameError") = false) (hrest : rest.length ≤ sizeLine)
    (hq : R (.ok (.ret (.ref (h.objs.size + 1)))) ⟨(h.push { cls := .type "tuple", data := .seq rest.toArray }).push { cls := .ref C, data := .fields #[.ref h.objs.size, .none, .none, .none, .bool false, .none] }, g, d, t, os⟩) :
    codeAny (model prog w) A (.builtin "Exception.__new__" ⟨.ref C :: rest, []⟩) R ⟨h, g, d, t, os⟩ := by
  have Fn := PySem.F.excBase_Exception
  have hends := Fn.ends
  refine codeAny_builtinAt Fn.entry ?_
  unfold Builtin.«BaseException.__new__»
  refine PySem.wpAt_bind ?_
  show PySem.wpAt _ _ _ (stack >>= _) _ _ _
  refine PySem.wpAt_bind (PySem.wpAt_stack fun p below => PySem.wpAt_of_wpAny ?_)
  wp_walk
  refine PySem.wpAt_of_wpAny ?_
  rw [Fn.owner]
  repeat (first | with_reducible refine wpAny_madeHere_exc Fn.canon hC ?_ | with_reducible refine wpAny_loadPart_at hC ?_ | (with_reducible refine wpAny_isSubtype_exc hC ?_; first | rw [hb] | rw [hA] | rw [hN]) | wp_step)
  show R _ _
  rw [Heap.size_push]
  exact hq
theorem newx_core {K : Frag} {f : Addr} (X : K.In h) (hC : h.get? C = some (excClassObj nm q C N bs bm hdct sn sub ab col dd k0 k1 k2 k3 k5 "Exception.__new__")) (hb : (Value.ref C :: bm).contains (.type "Exception") = true)
    (hA : (Value.ref C :: bm).contains (.type "AttributeError") = false) (hN : (Value.ref C :: bm).contains (.type "NameError") = false) (hrest : rest.length ≤ sizeLine)
    (hi : findIn K (.ref C) "__init__" = some (some (.ref f))) (hf : typeIn K (.ref f) = some (.type "function")) (hm : mroIn K C (.ref C) = some true)
    (hq : codeAny (model prog w) (A.under (.builtin "type.__call__" ⟨.ref C :: rest, []⟩)) (.call (.ref f) ⟨.ref (h.objs.size + 1) :: rest, []⟩) (InitBack (h.objs.size + 1) R)
      ⟨(h.push { cls := .type "tuple", data := .seq rest.toArray }).push { cls := .ref C, data := .fields #[.ref h.objs.size, .none, .none, .none, .bool false, .none] }, g, d, t, os⟩) :
    codeAny (model prog w) A (.call (.ref C) ⟨rest, []⟩) R ⟨h, g, d, t, os⟩ := by
  have Fn := PySem.F.excBase_Exception
  have f1 := tc_lookup
  have f2 := tc_bind (.ref C)
  have hT : (⟨h, g, d, t, os⟩ : Shared).TypeIs (.ref C) "type" := ⟨_, hC, rfl⟩
  refine codeAny_of_tree ?_
  show wpAny _ _ (callAny (.ref C) _) _ _ _
  repeat (any_goals (first | assumption | with_reducible refine wpAny_loadPart_at hC ?_ | wp_step))
  refine ⟨rfl, ?_⟩
  refine codeAny_call_builtin_at (Code.quiet_builtin _ (by decide +kernel)) entry_typeCall (wpAny_check_type_call_sub hC ?_)
  repeat (first | with_reducible refine wpAny_loadPart_at hC ?_ | with_reducible refine wpAny_madeBy_exc hC ?_ | wp_step)
  refine codeAny_call_builtin_code (Code.quiet_builtin _ Fn.quiet) ?_
  show wpAny _ _ (checkBuiltinCall "Exception.__new__" ⟨.ref C :: rest, []⟩) _ _ _
  refine newx_check hC hb ?_
  show codeAny _ _ (.builtin "Exception.__new__" ⟨.ref C :: rest, []⟩) _ _
  refine newx_run hC hb hA hN hrest ?_
  show wpAny _ _ _ _ _ _
  have k : ∀ b o, h.get? b = some o → ((h.push { cls := .type "tuple", data := .seq rest.toArray }).push { cls := .ref C, data := .fields #[.ref h.objs.size, .none, .none, .none, .bool false, .none] }).get? b = some o := fun b o e => Heap.get?_push_of_some _ (Heap.get?_push_of_some _ e)
  have hC₁ := k _ _ hC
  have hget : ((h.push { cls := .type "tuple", data := .seq rest.toArray }).push
      { cls := .ref C, data := .fields #[.ref h.objs.size, .none, .none, .none, .bool false, .none] }).get? (h.objs.size + 1) = some
      { cls := .ref C, data := .fields #[.ref h.objs.size, .none, .none, .none, .bool false, .none] } := by heap_get
  have hcC : (Value.ref C :: bm).contains (.ref C) = true := by simp
  have i1 : Looks (model prog w) _ (typeLookup (.ref C) "__init__") (some (.ref f)) := (looks_findIn (M := model prog w) X hi).keeps k
  have b1 := (bind_fn (M := model prog w) X (.ref (h.objs.size + 1)) hf).keeps k
  have t1 : Looks (model prog w) ((h.push { cls := .type "tuple", data := .seq rest.toArray }).push { cls := .ref C, data := .fields #[.ref h.objs.size, .none, .none, .none, .bool false, .none] }) (typeOf (.ref (h.objs.size + 1))) (.ref C) := (Looks.ld hget).andThen .now
  have s1 := (looks_mroIn (M := model prog w) X hm).keeps k
  unfold isInstance callSpecial? specialOf
  repeat (first | simp only [hcC, Bool.not_true, Bool.false_eq_true, if_false] | with_reducible refine wpAny_call ?_ | lk)
  refine codeAny_mono hq fun r s' z => ?_
  rcases r with e | (v | _ | _ | _) <;> first | exact z | exact z.elim | skip
  obtain ⟨rfl, z⟩ := z
  exact wpAny_pure (wpAny_pure z)
end
end
section
open PySem.Calls Builtin Builtin.ObjectAttr
/-- the exception's own object: its arguments' tuple t, its dict D -/
abbrev excO (t : Addr) (D : Option Addr) : Obj := ⟨.ref 122, D, .fields #[.ref t, .none, .none, .none, .bool false, .none], #[]⟩
abbrev tupO (vs : Array Value) : Obj := { cls := .type "tuple", data := .seq vs }
section
variable {prog : Program} {w : World} {A : Around} {K : Frag} {x : Addr} {s : Shared} {h₀ : Heap} {L : Addr} {m : Str → Option Value} {news : List (Addr × Obj)} {name : Str} {v : Value} {tk : Tok} {R : Result → Shared → Prop}
/-- what is asked of the class 122 -/
structure ExcOk (K : Frag) : Prop where
  cls : ∃ cd, clsIn K 122 = some cd ∧ cd.hasDict = true ∧ ∀ self, refuseLoop self "__setattr__" cd.mro = pure ()
  obj : mroIn K 122 (.type "object") = some true
  set : findIn K (.ref 122) "__setattr__" = some (some (.builtin "object.__setattr__"))
theorem sid_dict {E : Value → Shared → Prop} {Q : Fin → Shared → Prop} {h : Heap} {g : Array GenState} {dr : Drawn} {t : Nat} {os : OsState} {d : Addr} {es es' : List DictEntry} {n n' : Nat} (D : h.get? d = some (dictOf es n)) (hl : (getL name es).isSome = true)
    (e : (putL name (PyData.keyHash w.params name) (.str name t) v es, putN name es n) = (es', n')) (hz : es'.length ≤ 1000)
    (hq : Q (.done (.ret .none)) ⟨h.update d (Obj.putName name (PyData.keyHash w.params name) (.str name t) v), g, dr, t + 1, os⟩) : wpAny (model prog w) A (storeInDict d (.str name tk) name v) Q E ⟨h, g, dr, t, os⟩ := by
  obtain ⟨e1, e2⟩ := Prod.mk.inj e
  have D' : (h.update d (Obj.putName name (PyData.keyHash w.params name) (.str name t) v)).get? d = some (dictOf es' n') := by
    rw [Heap.get?_update_self _ D (by rw [putName_dict]; rfl), putName_dict, e1, e2]
  unfold storeInDict newKeyGuard
  refine wpAny_bind (wpAny_pure (wpAny_bind ?_))
  unfold nsSet
  refine wpAny_bind (wpAny_bind (wpAny_askSetting (wpAny_pure (wpAny_bind (wpAny_mkText (wpAny_bind (wpAny_loadPart D ?_)))))))
  dsimp only
  have c : (!es.toArray.any (·.key.isStr name) && es.toArray.any (·.refKey)) = false := by
    rw [← Array.any_toList, ← Array.any_toList]
    unfold getL at hl
    split at hl
    · rename_i en he
      rw [List.any_eq_true.mpr ⟨en, List.mem_of_find?_eq_some he, List.find?_some he⟩]; rfl
    · split at hl
      · cases hl
      · rename_i z; rw [Bool.not_eq_true] at z; rw [z, Bool.and_false]
  rw [aRefKeyMayBeTheName_at, c]
  refine wpAny_updatePart D ?_
  refine wpAny_bind (wpAny_lookBehind D' (pastItsLine_dict (by rw [List.size_toArray, sizeLine_eq]; omega)) ?_)
  exact wpAny_pure hq
theorem osax_open {ox : Obj} {od : Option Obj} (X : K.In s.heap) (O : ExcOk K) (I : InstAt s.heap x ox 122 od) (ht : takerIn K 122 name = some none)
    (h : ∀ b, wpAny (model prog w) A.in1 (storeInOwnDict (.ref x) (.ref 122) (.str name tk) name v b)
      (fun fin s' => match fin with | .done f => R (.ok f) s' | .again c' => c'.quiet = true ∧ codeAny (model prog w) A c' R s') (fun e s' => R (.error e) s') s) :
    codeAny (model prog w) A (.call (.builtin "object.__setattr__") ⟨[.ref x, .str name tk, v], []⟩) R s := by
  have SF := PySem.F.store_object
  obtain ⟨cd, hc, _, hr⟩ := O.cls
  have sub : Looks (model prog w) s.heap (isInstance (.ref x) (.type "object")) true := I.type.andThen (looks_mroIn X O.obj)
  refine codeAny_call_builtin SF.slot.plain SF.entry (@check_slot (model prog w) _ _ s "object.__setattr__" "object" "__setattr__" (.ref x) [.str name tk, v] [] _ SF.kind SF.split sub (SF.args (.ref x) (.str name tk) v) ?_)
  obtain ⟨attr, ha, hr'⟩ := Option.bind_eq_some_iff.mp ht
  have hm : Looks (model prog w) s.heap (mroOf (.ref 122)) cd.mro := (looks_clsIn X hc).andThen .now
  have L3 : Looks (model prog w) s.heap (storeTaker? attr) none := by
    cases attr with
    | none => exact .now
    | some a =>
      obtain ⟨b, hb, e⟩ := Option.map_eq_some_iff.mp hr'
      refine (looks_takesIn X hb).andThen ?_
      cases b
      · exact .now
      · cases e
  rw [osa_eq, refuse_eq]
  refine wpAny_bind (wpAny_bind (I.type.here (wpAny_bind (hm.here ?_))))
  rw [hr]
  refine wpAny_pure (wpAny_bind (I.type.here (wpAny_bind ((looks_findIn X ha).here (wpAny_bind (L3.here ?_))))))
  exact h _
theorem excset_first {E : Value → Shared → Prop} {Q : Unit → Shared → Prop} {e t : Addr} (F : Fr h₀ L s.heap m) (X₀ : K.In h₀) (O : ExcOk K) (N : News h₀ L s.heap ((e, excO t none) :: news)) (hne : ∀ p ∈ news, p.1 ≠ e) (ht : takerIn K 122 name = some none)
    (h : ∀ D h' tk tk', Fr h₀ L h' m → News h₀ L h' ((e, excO t (some D)) :: (D, dictOf [⟨PyData.keyHash w.params name, .str name tk, v⟩] 1) :: news) → (∀ p ∈ news, p.1 ≠ D) → D ≠ e → Q () { s with heap := h', toks := tk' }) :
    wpAny (model prog w) A (setAttr (.ref e) name v) Q E s := by
  have X := X₀.keeps F.keep
  have he := (N (e, excO t none) (.head _)).1
  have I : InstAt s.heap e (excO t none) 122 none := ⟨he, rfl, rfl, True.intro⟩
  obtain ⟨hh, g, d, tt, os⟩ := s
  dsimp only at he F N X I h
  refine set_plain X I O.set (osax_open (s := ⟨hh, g, d, tt + 1, os⟩) X O I ht fun b => ?_)
  obtain ⟨cd, hc, hd, hr⟩ := O.cls
  refine wpAny_bind (wpAny_pure (wpAny_bind (wpAny_bind (wpAny_loadPart he (wpAny_bind ((looks_clsIn X hc).here ?_))))))
  rw [hd]
  have hes : e ≠ hh.objs.size := Nat.ne_of_lt (Heap.lt_size he)
  have F1 := F.push emptyDict
  have N1 := N.push F emptyDict
  have he1 : (hh.push emptyDict).get? e = some (excO t none) := Heap.get?_push_of_some _ he
  have U := news_upd (d := e) (o := excO t none) (o' := excO t (some hh.objs.size)) (pre := [(hh.objs.size, emptyDict)]) (post := news) (f := fun o => { o with dict := some hh.objs.size }) F1 N1 (fun p hp => by
    rw [List.mem_singleton.mp hp]; exact Ne.symm hes) hne rfl rfl
  have D1 := (U.2 (hh.objs.size, emptyDict) (.head _)).1
  have fin : ∀ (f : Obj → Obj), f emptyDict = dictOf [⟨PyData.keyHash w.params name, .str name (tt + 1), v⟩] 1 → ∀ tk', Q () ⟨((hh.push emptyDict).update e fun o => { o with dict := some hh.objs.size }).update hh.objs.size f, g, d, tk', os⟩ := fun f ef tk' => by
    have V := news_upd (d := hh.objs.size) (o := emptyDict) (pre := []) (post := (e, excO t (some hh.objs.size)) :: news) (f := f) U.1 U.2 (fun p hp => nomatch hp) (fun p hp => by
      rcases List.mem_cons.mp hp with rfl | hp
      · exact hes
      · exact Nat.ne_of_lt (Heap.lt_size (N p (.tail _ hp)).1)) ef rfl
    refine h hh.objs.size _ (tt + 1) tk' V.1 (fun p hp => V.2 p ?_) (fun p hp => Nat.ne_of_lt (Heap.lt_size (N p (.tail _ hp)).1)) (Ne.symm hes)
    rcases List.mem_cons.mp hp with rfl | hp
    · exact .tail _ (.head _)
    · rcases List.mem_cons.mp hp with rfl | hp
      · exact .head _
      · exact .tail _ (.tail _ hp)
  show wpAny _ _ (do let d ← alloc emptyDict; update e (fun o => { o with dict := some d }); dictMade (.ref 122) e d) _ _ _
  refine wpAny_bind (wpAny_alloc' (wpAny_bind (wpAny_update' he1 (wpAny_pure ?_))))
  show wpAny _ _ (storeInDict hh.objs.size (.str name tt) name v) _ _ _
  have D2 : ((hh.push emptyDict).update e fun o => { o with dict := some hh.objs.size }).get? hh.objs.size = some (dictOf [] 0) := D1
  exact sid_dict D2 rfl rfl (Nat.le_of_ble_eq_true rfl) (fin _ (by rw [show emptyDict = dictOf [] 0 from rfl, putName_dict]; rfl) _)
theorem excset_next {E : Value → Shared → Prop} {Q : Unit → Shared → Prop} {e t D : Addr} {es : List DictEntry} {es' : Tok → List DictEntry} {n n' : Nat} (F : Fr h₀ L s.heap m) (X₀ : K.In h₀) (O : ExcOk K) (N : News h₀ L s.heap ((e, excO t (some D)) :: (D, dictOf es n) :: news)) (hne : ∀ p ∈ news, p.1 ≠ D) (hed : D ≠ e) (ht : takerIn K 122 name = some none)
    (hl : (getL name es).isSome = true) (hp : ∀ tk, (putL name (PyData.keyHash w.params name) (.str name tk) v es, putN name es n) = (es' tk, n')) (hz : ∀ tk, (es' tk).length ≤ 1000)
    (h : ∀ h' tk tk', Fr h₀ L h' m → News h₀ L h' ((e, excO t (some D)) :: (D, dictOf (es' tk) n') :: news) → Q () { s with heap := h', toks := tk' }) :
    wpAny (model prog w) A (setAttr (.ref e) name v) Q E s := by
  have X := X₀.keeps F.keep
  have he := (N (e, excO t (some D)) (.head _)).1
  have hD := (N (D, dictOf es n) (.tail _ (.head _))).1
  have I : InstAt s.heap e (excO t (some D)) 122 (some (dictOf es n)) := ⟨he, rfl, rfl, hD⟩
  obtain ⟨hh, g, d, tt, os⟩ := s
  dsimp only at he hD F N X I h
  refine set_plain X I O.set (osax_open (s := ⟨hh, g, d, tt + 1, os⟩) X O I ht fun b => ?_)
  obtain ⟨cd, hc, hd, hr⟩ := O.cls
  refine wpAny_bind (wpAny_pure (wpAny_bind (wpAny_bind (wpAny_loadPart he (wpAny_bind ((looks_clsIn X hc).here ?_))))))
  rw [hd]
  refine wpAny_pure (a := some D) ?_
  show wpAny _ _ (storeInDict D (.str name tt) name v) _ _ _
  refine sid_dict hD hl (hp _) (hz _) ?_
  obtain ⟨e1, e2⟩ := Prod.mk.inj (hp (tt + 1))
  have V := news_upd (d := D) (o := dictOf es n) (o' := dictOf (es' (tt + 1)) n') (pre := [(e, excO t (some D))]) (post := news) (f := Obj.putName name (PyData.keyHash w.params name) (.str name (tt + 1)) v) F N (fun p hp => by
    rw [List.mem_singleton.mp hp]; exact Ne.symm hed) hne (by rw [putName_dict, e1, e2]) rfl
  exact h _ (tt + 1) _ V.1 V.2
end
end
section
open PySem.Calls Builtin Builtin.ObjectAttr
section
variable {prog : Program} {w : World} {A : Around} {K : Frag} {s : Shared} {name : Str} {v : Value} {Q : Value → Shared → Prop} {E : Value → Shared → Prop}
theorem ga_kind : builtinKind "BaseException.__getattribute__" = some .slot := by decide +kernel
theorem ga_split : splitId "BaseException.__getattribute__" = some ("BaseException", "__getattribute__") := by decide +kernel
theorem excget {e D : Addr} {od : Obj} {vs : Array Value} {sl : Array (Option Value)} {expr : Bool} (X : K.In s.heap) (he : s.heap.get? e = some (Obj.mk (.ref 122) (some D) (.fields vs) sl)) (hD : s.heap.get? D = some od)
    (hga : findIn K (.ref 122) "__getattribute__" = some (some (.builtin "BaseException.__getattribute__"))) (hgh : findIn K (.ref 122) "__getattr__" = some none) (hb : mroIn K 122 (.type "BaseException") = some true)
    (hf : findObj K 122 (some od) name = some (.value v)) (hh : handedIn v = true)
    (hret : ∀ tk : Nat, Q v { s with toks := tk }) : wpAny (model prog w) A (getAttr (.ref e) name expr) Q E s := by
  have I : InstAt s.heap e (Obj.mk (.ref 122) (some D) (.fields vs) sl) 122 (some od) := ⟨he, rfl, rfl, hD⟩
  obtain ⟨hh', g, d, tt, os⟩ := s
  dsimp only at X he hD I hret
  have L0 := I.type (M := model prog w)
  have L1 := looks_findIn (M := model prog w) X hga
  have L2 := looks_findIn (M := model prog w) X hgh
  have L3 := looks_find (M := model prog w) X I hf
  have L4 : Looks (model prog w) hh' (isInstance (.ref e) (.type "BaseException")) true := L0.andThen (looks_mroIn X hb)
  unfold getAttr getAttrBy
  refine wpAny_bind (wpAny_mkText (wpAny_holding (wpAny_bind (L0.at (wpAny_bind (L1.at ?_))))))
  show wpAny _ _ (getAttrByItsOwn _ _ _ _ _ _) _ _ _
  unfold getAttrByItsOwn
  refine wpAny_bind ?_
  show wpAny _ _ (typeLookup (.ref 122) "__getattr__") _ _ _
  refine L2.at ?_
  refine wpAny_bind (wpAny_attempt (wpAny_holding ?_))
  show wpAny _ _ (if expr && onTheHeap (.builtin "BaseException.__getattribute__") then _ else boundAndCalled _ _ _) _ _ _
  rw [show onTheHeap (.builtin "BaseException.__getattribute__") = false from rfl, Bool.and_false, if_neg (by decide)]
  unfold boundAndCalled
  rw [show bindSpecial (.builtin "BaseException.__getattribute__") (.ref e) = pure (.builtin "BaseException.__getattribute__", [.ref e]) from by kernel_rfl]
  refine wpAny_bind (wpAny_pure ?_)
  show wpAny _ _ (call (.builtin "BaseException.__getattribute__") [.ref e, .str name tt]) _ _ _
  refine wpAny_call (codeAny_call_builtin (by decide +kernel) F.entry_bexc_ga (@check_slot (model prog w) _ _ _ "BaseException.__getattribute__" "BaseException" "__getattribute__" (.ref e) [.str name tt] [] _ ga_kind ga_split L4 (F.args_bexc_ga (.ref e) (.str name tt)) ?_))
  unfold Builtin.«object.__getattribute__»
  refine wpAny_bind (wpAny_pure (wpAny_bind (wpAny_pure (wpAny_bind (L0.at (wpAny_bind (L3.at ?_)))))))
  refine wpAny_pure ?_
  show wpAny _ _ (handedOut v) _ _ _
  rw [handedOut_of hh]
  exact wpAny_pure (hret _)
end
end
section
open PySem.Calls Builtin Builtin.ObjectAttr
section
variable {prog : Program} {w : World} {A : Around} {K : Frag} {s : Shared} {h₀ : Heap} {L : Addr} {m : Str → Option Value} {news : List (Addr × Obj)} {v : Value} {Q : Value → Shared → Prop} {E : Value → Shared → Prop}
theorem ei_check {M : Model} {e : Addr} {oe : Obj} {Q : Unit → Shared → Prop} {nm q : Str} {C N : Addr} {bs bm : List Value} {hdct : Bool} {sn : List Str} {sub : List Value} {ab : Bool} {col : Option Bool} {dd : Option Addr} {k0 k1 k2 k3 k5 : Option Value} {newId : String}
    (hC : s.heap.get? C = some (excClassObj nm q C N bs bm hdct sn sub ab col dd k0 k1 k2 k3 k5 newId)) (he : s.heap.get? e = some oe) (hcls : oe.cls = .ref C) (L : Looks M s.heap (isInstance (.ref e) (.type "Exception")) true) (hq : Q () s) : wpAny M A (checkBuiltinCall "Exception.__init__" ⟨[.ref e, v], []⟩) Q E s := by
  have Fn := PySem.F.excBase_Exception
  have hshort := Fn.noStar
  simp only [checkBuiltinCall, Fn.initKind, Fn.initSplit, Fn.initRow]
  refine wpAny_bind (L.here ?_)
  simp only [Bool.not_true, Bool.false_eq_true, if_false]
  obtain ⟨hh, g, d, tt, os⟩ := s
  dsimp only at hC he
  repeat (first | (with_reducible refine wpAny_loadPart_at he ?_; rw [hcls]) | with_reducible refine wpAny_loadPart_at hC ?_ | wp_step)
  exact hq
theorem excinit {e t : Addr} (F : Fr h₀ L s.heap m) (X₀ : K.In h₀) (N : News h₀ L s.heap ((e, excO t none) :: news)) (hne : ∀ p ∈ news, p.1 ≠ e) (hb : mroIn K 122 (.type "Exception") = some true) (hk : ktsIn K 122 "BaseException" = true)
    (h : ∀ t' h' tk, Fr h₀ L h' m → News h₀ L h' ((e, excO t' none) :: (t', tupO #[v]) :: news) → (∀ p ∈ (t', tupO #[v]) :: news, p.1 ≠ e) → Q .none { s with heap := h', toks := tk }) :
    wpAny (model prog w) A (call (.builtin "Exception.__init__") [.ref e, v]) Q E s := by
  have X := X₀.keeps F.keep
  have Fn := PySem.F.excBase_Exception
  have he := (N (e, excO t none) (.head _)).1
  have I : InstAt s.heap e (excO t none) 122 none := ⟨he, rfl, rfl, True.intro⟩
  obtain ⟨hh, g, d, tt, os⟩ := s
  dsimp only at he F N X I h
  have L0 := I.type (M := model prog w)
  have L4 : Looks (model prog w) hh (isInstance (.ref e) (.type "Exception")) true := L0.andThen (looks_mroIn X hb)
  obtain ⟨nm, q', N', bs, bm, hdct, sn, sub, ab, col, dd, k0, k1, k2, k3, k5, newId, hC, hbase, hbT⟩ := kts_cls X hk
  refine wpAny_call (codeAny_call_builtin Fn.init.plain Fn.initEntry (ei_check (s := ⟨hh, g, d, tt, os⟩) hC he rfl L4 ?_))
  have hes : e ≠ hh.objs.size := Nat.ne_of_lt (Heap.lt_size he)
  have F1 := F.push (tupO #[v])
  have N1 := N.push F (tupO #[v])
  have he1 : (hh.push (tupO #[v])).get? e = some (excO t none) := Heap.get?_push_of_some _ he
  have U := news_upd (d := e) (o := excO t none) (o' := excO hh.objs.size none) (pre := [(hh.objs.size, tupO #[v])]) (post := news) (f := Obj.mapFields (·.setIfInBounds 0 (.ref hh.objs.size))) F1 N1 (fun p hp => by
    rw [List.mem_singleton.mp hp]; exact Ne.symm hes) hne rfl rfl
  have fin := h hh.objs.size _ tt U.1 (fun p hp => U.2 p (by
    rcases List.mem_cons.mp hp with rfl | hp
    · exact .tail _ (.head _)
    · rcases List.mem_cons.mp hp with rfl | hp
      · exact .head _
      · exact .tail _ (.tail _ hp))) (fun p hp => (List.mem_cons.mp hp).elim (fun q => by rw [q]; exact Ne.symm hes) (hne p))
  unfold Builtin.«BaseException.__init__»
  wp_walk
  exact fin
end
end
section
open PySem.Calls
theorem excOk_K (P : Params) : ExcOk (Mine.hd.heap_39 P) where
  cls := ⟨_, rfl, rfl, fun self => by
    show refuseLoop self "__setattr__" (.ref 122 :: .ref 101 :: _) = _
    rw [refuseLoop_ref, refuseLoop_ref]
    exact PySem.F.store_Exception.passes self⟩
  obj := by kernel_rfl
  set := by kernel_rfl
theorem meta_exception : typeOf (.type "Exception") = pure (.type "type") := by kernel_rfl
set_option maxHeartbeats 1000000 in
theorem init101_C : ∀ (w : World) (mean : ExcName → Option Value) (mg mb : Str → Option Value) (dp un : Nat) (gd : Option (List Code)) (cn : Str) (cs : Scope) (a : Addr) (ccd : Value) (cl : List (Str × Addr)) (outer : List Env) (A₀ : Around) (base h₀ : Heap) (L : Addr) (m : Str → Option Value) (s : Shared) (Q E : Value → Shared → Prop) (news : List (Addr × Obj))
    (e t : Addr) (msg : Str) (tm : Tok),
    Below A₀ base outer h₀ → Fr h₀ L s.heap m → (Mine.hd.heap_39 w.params).In h₀ → Top Mine.view (looseW Mine.view Mine.looseN) mean mg mb h₀ → cs.kind = .function → News h₀ L s.heap ((e, excO t none) :: news) → (∀ p ∈ news, p.1 ≠ e) →
    dp + 1 < recursionLimit → un + 8 < cLine →
    (∀ (t' D : Addr) (tk : Tok) (h' : Heap) (tk' : Nat), Fr h₀ L h' m → News h₀ L h' ((e, excO t' (some D)) :: (D, dictOf [⟨PyData.keyHash w.params (Str.ofString "message"), .str (Str.ofString "message") tk, .str msg tm⟩] 1) :: news) → (∀ p ∈ news, p.1 ≠ D) → D ≠ e → Q .none { s with heap := h', toks := tk' }) →
    wpAny (model PySem.Challenge.rw_xw0205_01.row.prog w) (ktrTop dp un gd cn cs L a ccd cl outer) (call (.ref 98) [.ref e, .str msg tm]) Q E s := by
  k_with_none
  w_top off
  k_fill
  intro w mean mg mb dp un gd cn cs a ccd cl outer A₀ base h₀ L m s Q E news e t msg tm B F X T hk N hne hd hu ret
  refine wpAny_call ?_
  (k_dflt (refine' code_def (binds := [(Str.ofString "self", .ref e), (Str.ofString "message", .str msg tm)]) ?k1 ?k2 ?k3 ?k4 ?k5 ?kA ?kF ?kK ?k6 ?k7 ?k8 ?k9 ?kB ?_ ?c2 ?c3 ?c4 ?c5; (case kA => exact rfl); (case kF => exact rfl); (case kK => assumption); (case k1 => k_asm); (case k2 => k_asm); (case k3 => k_asm); (case k4 => k_asm); (case k5 => k_asm); (case k6 => k_is); (case k7 => k_is); (case k8 => ktr_room); (case k9 => first | exact BindsTo.of_eq rfl | exact binds_K (by k_in) rfl (by k_is) rfl rfl rfl); (case c5 => decide); (case kB => exact locs rfl); (case c2 => exact rfl); (case c3 => exact rfl); (case c4 => exact rfl); k_whole; intro g' L' h' FG' F' N' B' X' T'; (try dsimp only); (try k_fold)))
  k_with "getMethod type:Exception" => (k_here; refine' method_type ?F ?X ?m (by decide +kernel) ?e ?h ?_; (case F => k_asm); (case X => k_asm); (case m => exact meta_exception); (case e => k_dflt k_is); (case h => k_handed))
  k_with "call builtin:Exception.__init__" => (k_here; (with_reducible show wpAny _ _ (call _ (_ :: _ :: [])) _ _ _); k_dflt (refine' excinit ?F ?X ?N ?hne ?hb ?hk ?_; (case F => k_asm); (case X => k_asm); (case N => k_asm); (case hne => assumption); (case hb => k_is); (case hk => kts_isx)); intro t9 h9 tk9 F9 N9 a9; (try dsimp only))
  k_with "setAttr ref" => (k_here; (with_reducible show wpAny _ _ (setAttr (Value.ref _) _ _) _ _ _); k_dflt (refine' excset_first ?F ?X (excOk_K _) ?N ?hne ?ht ?_; (case F => k_asm); (case X => k_asm); (case N => k_asm); (case hne => assumption); (case ht => k_is)); intro D9 h9 tk9 tk8 F9 N9 a9 b9; (try dsimp only))
  k_steps
  (rename News _ _ _ _ => kN)
  (rename Fr _ _ _ _ => kF)
  (with_reducible rename @Ne Nat _ _ => kd)
  (rename (∀ p ∈ _ :: news, _) => ka)
  exact ret _ _ _ _ _ kF (fun p hp => kN p (by
    rcases List.mem_cons.mp hp with rfl | hp
    · exact .head _
    · rcases List.mem_cons.mp hp with rfl | hp
      · exact .tail _ (.head _)
      · exact .tail _ (.tail _ (.tail _ hp)))) (fun p hp => ka p (.tail _ hp)) kd
end
section
open PySem.Calls
/-- the dict of a fault that is made -/
def FaultDict (od : Obj) (place : Int) : Prop := ∃ h1 h2 k1 k2 k3 k4 msg, od = dictOf [⟨h1, .str (Str.ofString "message") k1, .str msg k3⟩, ⟨h2, .str (Str.ofString "place") k2, .int place k4⟩] 2
set_option maxHeartbeats 1000000 in
theorem init122_C : ∀ (w : World) (mean : ExcName → Option Value) (mg mb : Str → Option Value) (dp un : Nat) (gd : Option (List Code)) (cn : Str) (cs : Scope) (a : Addr) (ccd : Value) (cl : List (Str × Addr)) (outer : List Env) (A₀ : Around) (base h₀ : Heap) (L : Addr) (m : Str → Option Value) (s : Shared) (R : Result → Shared → Prop) (news : List (Addr × Obj))
    (e t : Addr) (msg : Str) (tm tp : Tok) (place : Int),
    Below A₀ base outer h₀ → Fr h₀ L s.heap m → (Mine.hd.heap_39 w.params).In h₀ → Top Mine.view (looseW Mine.view Mine.looseN) mean mg mb h₀ → cs.kind = .function → News h₀ L s.heap ((e, excO t none) :: news) → (∀ p ∈ news, p.1 ≠ e) →
    dp + 2 < recursionLimit → un + 16 < cLine →
    (∀ (t' D : Addr) (od : Obj) (h' : Heap) (tk' : Nat), FaultDict od place → Fr h₀ L h' m → News h₀ L h' ((e, excO t' (some D)) :: (D, od) :: news) → (∀ p ∈ (D, od) :: news, p.1 ≠ e) → R (.ok (.ret .none)) { s with heap := h', toks := tk' }) →
    codeAny (model PySem.Challenge.rw_xw0205_01.row.prog w) (ktrTop dp un gd cn cs L a ccd cl outer) (.call (.ref 119) ⟨[.ref e, .str msg tm, .int place tp], []⟩) R s := by
  k_with_none
  w_top off
  k_fill
  intro w mean mg mb dp un gd cn cs a ccd cl outer A₀ base h₀ L m s R news e t msg tm tp place B F X T hk N hne hd hu ret
  (k_dflt (refine' code_def (binds := [(Str.ofString "self", .ref e), (Str.ofString "message", .str msg tm), (Str.ofString "place", .int place tp)]) ?k1 ?k2 ?k3 ?k4 ?k5 ?kA ?kF ?kK ?k6 ?k7 ?k8 ?k9 ?kB ?_ ?c2 ?c3 ?c4 ?c5; (case kA => exact rfl); (case kF => exact rfl); (case kK => assumption); (case k1 => k_asm); (case k2 => k_asm); (case k3 => k_asm); (case k4 => k_asm); (case k5 => k_asm); (case k6 => k_is); (case k7 => k_is); (case k8 => ktr_room); (case k9 => first | exact BindsTo.of_eq rfl | exact binds_K (by k_in) rfl (by k_is) rfl rfl rfl); (case c5 => decide); (case kB => exact locs rfl); (case c2 => exact rfl); (case c3 => exact rfl); (case c4 => exact rfl); k_whole; intro g' L' h' FG' F' N' B' X' T'; (try dsimp only); (try k_fold)))
  k_with "getMethod type:Exception" => (k_here; refine' method_type ?F ?X ?m (by decide +kernel) ?e ?h ?_; (case F => k_asm); (case X => k_asm); (case m => exact meta_exception); (case e => k_dflt k_is); (case h => k_handed))
  k_with "call builtin:Exception.__init__" => (k_here; (with_reducible show wpAny _ _ (call _ (_ :: _ :: [])) _ _ _); k_dflt (refine' excinit ?F ?X ?N ?hne ?hb ?hk ?_; (case F => k_asm); (case X => k_asm); (case N => k_asm); (case hne => assumption); (case hb => k_is); (case hk => kts_isx)); intro t9 h9 tk9 F9 N9 a9; (try dsimp only))
  k_with "setAttr ref" => (k_here; (with_reducible show wpAny _ _ (setAttr (Value.ref _) _ _) _ _ _); k_dflt (refine' excset_first ?F ?X (excOk_K _) ?N ?hne ?ht ?_; (case F => k_asm); (case X => k_asm); (case N => k_asm); (case hne => assumption); (case ht => k_is)); intro D9 h9 tk9 tk8 F9 N9 a9 b9; (try dsimp only))
  k_with "setAttr ref" => (k_here; (with_reducible show wpAny _ _ (setAttr (Value.ref _) _ _) _ _ _); k_dflt (refine' excset_next ?F ?X (excOk_K _) ?N ?hne ?hed ?ht ?hl ?hp ?hz ?_; (case F => k_asm); (case X => k_asm); (case N => k_asm); (case hne => assumption); (case hed => assumption); (case ht => k_is); (case hl => rfl); (case hp => exact fun _ => rfl); (case hz => exact fun _ => Nat.le_of_ble_eq_true rfl)); intro h9 tk9 tk8 F9 N9; (try dsimp only))
  k_with "call ref" => (k_here; (with_reducible show wpAny _ _ (call (Value.ref 98) _) _ _ _); k_dflt (refine' init101_C _ _ _ _ _ _ _ _ _ _ _ _ _ _ _ _ _ _ _ _ _ _ _ _ _ _ ?k1 ?k2 ?k3 ?k5 ?kK ?k4 ?hne ?kd ?ku ?_; (case k1 => k_asm); (case k2 => k_asm); (case k3 => k_asm); (case k5 => k_asm); (case kK => first | exact rfl | assumption); (case k4 => k_asm); (case hne => assumption); (case kd => ktr_room); (case ku => ktr_units)); intro t9 D9 tk9 h9 tk8 F9 N9 a9 b9; (try dsimp only))
  k_steps
  (rename News _ _ _ _ => kN)
  (rename Fr _ _ _ _ => kF)
  exact ret _ _ _ _ _ ⟨_, _, _, _, _, _, _, rfl⟩ kF (fun p hp => kN p (by
    rcases List.mem_cons.mp hp with rfl | hp
    · exact .head _
    · rcases List.mem_cons.mp hp with rfl | hp
      · exact .tail _ (.head _)
      · exact .tail _ (.tail _ hp))) (fun p hp => by
    rcases List.mem_cons.mp hp with rfl | hp
    · assumption
    · exact hne p hp)
end
section
open PySem.Calls
/-- the fault e flies (its dict D in the ledger), the frames l still to leave; G the frame's ground -/
def RaisedM (base G : Heap) (l : List Env) (e D : Addr) (news : List (Addr × Obj)) (h : Heap) : Prop :=
  ∃ B, base.StaysIn B ∧ (∀ b o, G.get? b = some o → b ∉ l.filterMap (·.frame) → B.get? b = some o) ∧ (∀ q ∈ news, B.get? q.1 = some q.2 ∧ G.get? q.1 = none ∧ base.get? q.1 = none) ∧ InAir B l e 122 D .none h

section
variable {M : Model} {A : Around} {E : Value → Shared → Prop} {s' : Shared} {base g g₂ h : Heap} {outer : List Env} {L a e D : Addr} {m : Str → Option Value} {name : Str} {scope : Scope} {cd : Value} {Q : Unit → Shared → Prop} {news : List (Addr × Obj)} {msg : Str} {place : Int}

theorem leave_raiseM {t : Addr} {od : Obj} (K : Below A base outer g) (F : Fr g L s'.heap m) (N : News g L s'.heap ((e, excO t (some D)) :: (D, od) :: news)) (hne : ∀ p ∈ (D, od) :: news, p.1 ≠ e)
    (hQ : ∀ h', RaisedM base g outer e D ((D, od) :: news) h' → g.UpToSlots h' → Q () { s' with heap := h' }) (hk : scope.kind = .function) :
    wpAny M (A.deeper (envOf name scope L a cd)) (leaving (envOf name scope L a cd) (.ref e)) Q E s' := by
  have K' := K.push (name := name) (a := a) (cd := cd) F hk
  have he := (N (e, excO t (some D)) (.head _)).1
  have hge := (N (e, excO t (some D)) (.head _)).2.2
  have hin : ∀ env ∈ (envOf name scope L a cd :: outer), ∀ b, env.frame = some b → b ∈ e :: (envOf name scope L a cd :: outer).filterMap (·.frame) := fun env he b hb => .tail _ (List.mem_filterMap.mpr ⟨env, he, hb⟩)
  have st : base.StaysIn (hideAll s'.heap (e :: (envOf name scope L a cd :: outer).filterMap (·.frame))) := fun b o q => hideAll_get _ (K'.stays b o q) fun hm => by
    rcases List.mem_cons.mp hm with z | z
    · have := fresh_of_stays K.stays hge
      rw [← z, q] at this
      cases this
    · rw [(K'.frames.mem z).1] at q
      cases q
  have sg : ∀ b o, g.get? b = some o → b ∉ outer.filterMap (·.frame) → (hideAll s'.heap (e :: (envOf name scope L a cd :: outer).filterMap (·.frame))).get? b = some o := fun b o q nm => hideAll_get _ (F.keep b o q) fun hm => by
    rcases List.mem_cons.mp hm with z | z
    · rw [z, hge] at q
      cases q
    · rcases kts_mem z with z | z
      · rw [z, kts_self F] at q
        cases q
      · exact nm z
  have hl : ∀ q ∈ (D, od) :: news, (hideAll s'.heap (e :: (envOf name scope L a cd :: outer).filterMap (·.frame))).get? q.1 = some q.2 ∧ g.get? q.1 = none ∧ base.get? q.1 = none := fun q hq => by
    have N' := N q (.tail _ hq)
    refine ⟨hideAll_get _ N'.1 fun hm => ?_, N'.2.2, fresh_of_stays K.stays N'.2.2⟩
    rcases List.mem_cons.mp hm with z | z
    · exact hne q hq z
    · obtain ⟨env, he, hf⟩ := List.mem_filterMap.mp z
      rcases List.mem_cons.mp he with rfl | he
      · exact N'.2.1 (Option.some.inj hf).symm
      · obtain ⟨o, ho, _⟩ := (K.frames.mem (List.mem_filterMap.mpr ⟨env, he, hf⟩)).2
        rw [N'.2.2] at ho; cases ho
  exact air_leave_first (base := hideAll s'.heap (e :: (envOf name scope L a cd :: outer).filterMap (·.frame))) (C := 122) (D := D) K'.stack (funFrames_hide K'.frames hin) rfl he
    (fun b o q => of_hideAll _ q) (hideAll_none _ (.head _)) rfl rfl rfl rfl fun h' x1 x2 => hQ h' ⟨_, st, sg, hl, x1⟩ ((Heap.UpToSlots.of_keeps F.keep).trans x2)

theorem leave_onM (K : Below A base outer g) (F : Fr g L g₂ m) (R : RaisedM base g₂ (envOf name scope L a cd :: outer) e D news s'.heap) (hsm : g₂.UpToSlots s'.heap)
    (hQ : ∀ h', RaisedM base g outer e D news h' → g.UpToSlots h' → Q () { s' with heap := h' }) :
    wpAny M (A.deeper (envOf name scope L a cd)) (leaving (envOf name scope L a cd) (.ref e)) Q E s' := by
  obtain ⟨B, hB, hBG, hl, hfl⟩ := R
  exact air_leave (Around.frames_deeper K.stack) rfl hfl fun h' x1 x2 => hQ h' ⟨B, hB, fun b o q nm => hBG b o (F.keep b o q) (fun hm => by
      rcases kts_mem hm with z | z
      · rw [z, kts_self F] at q
        cases q
      · exact nm z), fun q hq => ⟨(hl q hq).1, kts_none F.keep (hl q hq).2.1, (hl q hq).2.2⟩, x1⟩ ((Heap.UpToSlots.of_keeps F.keep).trans (hsm.trans x2))
end

section
variable {prog : Program} {w : World} {A₀ : Around} {E : Value → Shared → Prop} {s' : Shared} {base g g₀ G : Heap} {outer : List Env} {L a e D : Addr} {m : Str → Option Value} {name : Str} {scope : Scope} {cd : Value}
  {n : Str} {b₀ : Stmt} {suite : List Stmt} {pos np : Pos} {rest : List ExceptHandler} {Q : Flow → Shared → Prop} {news : List (Addr × Obj)} {KF : Frag}
  {p : Program} {loose : List Str} {mean : ExcName → Option Value} {mg mb : Str → Option Value} {x : Str}

theorem caught_M (R : RaisedM base G (envOf name scope L a cd :: outer) e D news s'.heap) (F : Fr g L G m) (K : Below A₀ base outer g) (hsm : G.UpToSlots s'.heap) (XB : KF.In base) (TB : Top p loose mean mg mb base)
    (DD : KtsDicts (outer.filterMap (·.frame)) g) (T0 : KtsTurn (outer.filterMap (·.frame)) g₀ g)
    (ex : nsIn KF mainGlobals x = some (some (.ref 122))) (q : ktsIn KF 122 "BaseException" = true)
    (k : ∀ h' g' tk (vs : Array Value) (sl : Array (Option Value)), KtsTurn (outer.filterMap (·.frame)) g₀ g' → Fr g' L h' (fun y => if y = n then some (.ref e) else m y) → News g' L h' ((e, Obj.mk (.ref 122) (some D) (.fields vs) sl) :: news) → Below A₀ base outer g' → KF.In g' → Top p loose mean mg mb g' → KtsDicts (outer.filterMap (·.frame)) g' →
      wpAny (model prog w) ((A₀.deeper (envOf name scope L a cd)).mark (some (.ref e))) (execs (b₀ :: suite) (envOf name scope L a cd))
        (fun f s₄ => wpAny (model prog w) (A₀.deeper (envOf name scope L a cd)) (do bindName (envOf name scope L a cd) n .none; unbindBehindTheSuite (envOf name scope L a cd) n pos) (fun _ s₅ => Q f s₅) E s₄)
        (AsSuiteRaised (model prog w) ((A₀.deeper (envOf name scope L a cd)).mark (some (.ref e))) (envOf name scope L a cd) n pos (notedBy (model prog w) ((A₀.deeper (envOf name scope L a cd)).mark (some (.ref e))) (envOf name scope L a cd) (cameBackBy (model prog w) (A₀.deeper (envOf name scope L a cd)) (envOf name scope L a cd) E)))
        { s' with heap := h', toks := tk })
    (hk : scope.kind = .function) (hlo : (envOf name scope L a cd).kindOf n = some .local) (hx : (envOf name scope L a cd).kindOf x = some .globalImplicit) (hd : (x == ("__debug__" : Str)) = false) :
    wpAny (model prog w) (A₀.deeper (envOf name scope L a cd)) (noteFrame (.ref e) (envOf name scope L a cd))
      (fun _ s₂ => wpAny (model prog w) (A₀.deeper (envOf name scope L a cd)) (setFlight (.ref e) none) (fun _ s₃ =>
        wpAny (model prog w) (A₀.deeper (envOf name scope L a cd)) (handleBy (.ref e) (envOf name scope L a cd) (.ExceptHandler (some (.Name x np)) (some n) (b₀ :: suite) pos :: rest)) Q E s₃) E s₂) E s' := by
  obtain ⟨B, hB, hBG, hl, hfl⟩ := R
  have hL : B.get? L = none := by
    obtain ⟨_, ⟨L', _, hf, hn', _⟩, _⟩ := hfl.2.2.1
    obtain rfl : L = L' := Option.some.inj hf
    exact hn'
  refine air_note_next (Around.frames_deeper K.stack) rfl hfl fun h₄ hair₄ hsm₄ => ?_
  refine air_flight hair₄ fun h₅ hair₅ hsm₅' => ?_
  have hsm₅ := hsm₄.trans hsm₅'
  obtain ⟨g₅, T₅, F₅, K₅⟩ := kts_ground K F hBG hair₅.1 (hsm.trans hsm₅)
  have X₅ : KF.In g₅ := XB.keeps K₅.stays
  have P₅ : TopRead p loose mg mb g₅ := topRead_of (TB.keeps K₅.stays)
  have hair₅' := hair₅
  obtain ⟨_, _, _, ob, _, _, _, _, hob, hobc, _⟩ := hair₅'
  obtain ⟨nm, q', N, bs, bm, hdct, sn, sub, ab, col, dd, k0, k1, k2, k3, k5, newId, hC, hbase, hbT⟩ := kts_cls X₅ q
  have hC₅ := F₅.keep _ _ hC
  refine wpAny_handleBy_cons (codeAny_handlers_test (name_K F₅ X₅ P₅ ex ?_ hk hx hd)) (by intro q; cases q)
  refine wpAny_excMatches_sub_self hC₅ hob hobc hbase (codeAny_handlers_suite_as ?_)
  refine air_flight hair₅ fun h₆ hair₆ hsm₆ => ?_
  obtain ⟨g₆, T₆, F₆, K₆⟩ := kts_ground K F hBG hair₆.1 ((hsm.trans hsm₅).trans hsm₆)
  have st₆ := hair₆.1
  obtain ⟨_, hBe, _, oe, vs, T, oT, ts, hoe, hoec, hoeD, hoed, _⟩ := hair₆
  have ne₆ : g₆.get? e = none := T₆.none_ _ (kts_fresh F hBG hBe fun o ho m => by
    obtain ⟨_, o', ho', hd⟩ := K.frames.mem m
    rw [ho] at ho'
    cases ho'
    obtain ⟨sl, hs⟩ := ((hsm.trans hsm₅).trans hsm₆) _ _ (F.keep _ _ ho) hd
    rw [hoe] at hs
    cases hs
    exact hd _ hoed)
  obtain ⟨c', d', dt', sl'⟩ := oe
  dsimp only at hoec hoeD hoed
  subst hoec hoeD hoed
  have N₆ := News.more F₆ News.nil hoe (fun es n q => by cases q) ne₆
  have Nl : News g₆ L h₆ news := fun q hq => ⟨st₆ _ _ (hl q hq).1, (fun z => by have := (hl q hq).1; rw [z, hL] at this; cases this), T₆.none_ _ (kts_none F.keep (hl q hq).2.1)⟩
  have X₆ : KF.In g₆ := XB.keeps K₆.stays
  have P₆ : Top p loose mean mg mb g₆ := TB.keeps K₆.stays
  have D₆ : KtsDicts (outer.filterMap (·.frame)) g₆ := DD.turn T₆
  refine stN F₆ (news := _ :: news) (fun q hq => (List.mem_cons.mp hq).elim (fun z => N₆ q (by rw [z]; exact .head _)) (Nl q)) (fun h₇ F₇ N₇ => ?_) hk hlo
  exact k h₇ g₆ _ vs sl' (T0.trans T₆) F₇ N₇ K₆ X₆ P₆ D₆
end
end
section
open PySem.Calls
/-- what stands behind the call in «raise SyntaxFault(..)» -/
def Thrown (K : Frag) (E : Value → Shared → Prop) (v : Value) (s₁ : Shared) : Prop := ∃ e t D, v = .ref e ∧ K.In s₁.heap ∧ s₁.heap.get? e = some ⟨.ref 122, some D, .fields #[.ref t, .none, .none, .none, .bool false, .none], #[]⟩ ∧ E (.ref e) s₁
theorem raise_M {K : Frag} {M : Model} {A : Around} {E : Value → Shared → Prop} {s : Shared} {env : Env} {ex : PySem.Expr} {pos : Pos} {Q : Flow → Shared → Prop} {hb : Heap} (_ : K.In hb) (q : ktsIn K 122 "BaseException" = true) (hh : A.handled = none)
    (h : wpAny M A (eval ex env) (Thrown K E) E s) : wpAny M A (exec (.Raise (some ex) none pos) env) Q E s := by
  rw [arm_exec_Raise]
  refine wpAny_bind (wpAny_standAt ?_)
  show wpAny _ _ (raiseStmt env (some (eval ex env >>= fun v => standAt pos >>= fun _ => pure v)) none) _ _ _
  unfold raiseStmt
  refine wpAny_bind (wpAny_bind (wpAny_mono h (fun v s₁ h₁ => ?_) fun _ _ x => x))
  obtain ⟨e, t, D, rfl, X, he, hE⟩ := h₁
  obtain ⟨nm, q', N, bs, bm, hdct, sn, sub, ab, col, dd, k0, k1, k2, k3, k5, newId, hC, hbase, hbT⟩ := kts_cls X q
  have hcB : (Value.ref 122 :: bm).contains (.type "BaseException") = true := by rw [List.contains_cons, hbase, Bool.or_true]
  obtain ⟨hp, g, d, tk, os⟩ := s₁
  refine wpAny_bind (wpAny_standAt (wpAny_pure ?_))
  repeat (first | with_reducible refine wpAny_loadPart_at he ?_ | with_reducible refine wpAny_loadPart_at hC ?_ | (with_reducible refine wpAny_isSubtype_exc hC ?_; rw [hcB]) | wp_step)
  exact wpAny_raiseNew_none hh hE
end
section
open PySem.Calls
set_option maxHeartbeats 1000000 in
theorem fault_K : ∀ (w : World) (mean : ExcName → Option Value) (mg mb : Str → Option Value) (dp un : Nat) (gd : Option (List Code)) (cn : Str) (cs : Scope) (a : Addr) (ccd : Value) (cl : List (Str × Addr)) (outer : List Env) (A₀ : Around) (base h₀ : Heap) (L : Addr) (m : Str → Option Value) (s : Shared) (Q E : Value → Shared → Prop) (news : List (Addr × Obj))
    (msg : Str) (tm tp : Tok) (place : Int),
    Below A₀ base outer h₀ → Fr h₀ L s.heap m → (Mine.hd.heap_39 w.params).In h₀ → Top Mine.view (looseW Mine.view Mine.looseN) mean mg mb h₀ → cs.kind = .function → News h₀ L s.heap news → dp + 3 < recursionLimit → un + 40 < cLine →
    (∀ (e t D : Addr) (od : Obj) (h' : Heap) (tk' : Nat), FaultDict od place → Fr h₀ L h' m → News h₀ L h' ((e, excO t (some D)) :: (D, od) :: news) → (∀ p ∈ (D, od) :: news, p.1 ≠ e) → Q (.ref e) { s with heap := h', toks := tk' }) →
    wpAny (model PySem.Challenge.rw_xw0205_01.row.prog w) (ktrTop dp un gd cn cs L a ccd cl outer) (call (.ref 122) [.str msg tm, .int place tp]) Q E s := by
  k_with_none
  w_top off
  k_fill
  intro w mean mg mb dp un gd cn cs a ccd cl outer A₀ base h₀ L m s Q E news msg tm tp place B F X T hk N hd hu ret
  have XX := X.keeps F.keep
  have hC : s.heap.get? 122 = some (excClassObj _ _ 122 _ _ _ _ _ _ _ _ _ _ _ _ _ _ "Exception.__new__") := XX 122 _ (by with_unfolding_all rfl)
  refine wpAny_call ?_
  obtain ⟨hh, g, d, tt, os⟩ := s
  dsimp only at F N XX hC
  refine newx_core XX hC rfl rfl rfl (Nat.le_of_ble_eq_true rfl) (by k_is) (by k_is) (by k_is) ?_
  have N1 := (N.push F (tupO #[.str msg tm, .int place tp])).push (F.push _) (excO hh.objs.size none)
  rw [Heap.size_push] at N1
  refine init122_C w mean mg mb (dp + 1) _ _ cn cs a ccd cl outer A₀ base h₀ L m _ _ ((hh.objs.size, tupO #[.str msg tm, .int place tp]) :: news) (hh.objs.size + 1) hh.objs.size msg tm tp place B ((F.push _).push _) X T hk N1 ?_ ?_ ?_ ?_
  · intro p hp
    rcases List.mem_cons.mp hp with rfl | hp
    · exact Nat.ne_of_lt (Nat.lt_succ_self _)
    · exact Nat.ne_of_lt (Nat.lt_succ_of_lt (Heap.lt_size (N p hp).1))
  · omega
  · show un + (Code.builtin "type.__call__" ⟨[Value.ref 122, Value.str msg tm, Value.int place tp], []⟩).cUnits + 16 < cLine
    have e : (Code.builtin "type.__call__" ⟨[Value.ref 122, Value.str msg tm, Value.int place tp], []⟩).cUnits ≤ 20 := Nat.le_of_ble_eq_true (by kernel_rfl)
    omega
  · intro t' D od h' tk' fd F' N' hne
    refine ⟨rfl, ret (hh.objs.size + 1) t' D od _ _ fd F' (fun p hp => N' p ?_) fun p hp => hne p ?_⟩
    · rcases List.mem_cons.mp hp with rfl | hp
      · exact .head _
      · rcases List.mem_cons.mp hp with rfl | hp
        · exact .tail _ (.head _)
        · exact .tail _ (.tail _ (.tail _ hp))
    · rcases List.mem_cons.mp hp with rfl | hp
      · exact .head _
      · exact .tail _ (.tail _ hp)
end
section
open PySem.Calls
section
variable {prog : Program} {w : World} {A : Around} {E : Value → Shared → Prop} {s : Shared} {env : Env} {g₀ : Heap} {target : PySem.Expr} {body : List Stmt} {Q : Flow → Shared → Prop}
/-- the end of a turn: another ground, the same ledger -/
def GEnd (Inv : Heap → Prop) (L : Addr) (s : Shared) (news : List (Addr × Obj)) (Q : Flow → Shared → Prop) (f : Flow) (s₃ : Shared) : Prop :=
  match f with
  | .ret v => Q (.ret v) s₃
  | .brk => Q .next s₃
  | _ => ∃ (g' h' : Heap) (tk' : Nat) (m' : Str → Option Value), s₃ = { s with heap := h', toks := tk' } ∧ Inv g' ∧ Fr g' L h' m' ∧ News g' L h' news
/-- a for over a list that the frame has made, whose turns may change the ground -/
theorem forG_iter {lx : Addr} {vs : List Value} {n : Nat} {m : Str → Option Value} {news : List (Addr × Obj)} (Inv : Heap → Prop)
    (hh : A.handled = none)
    (hnone : ∀ g, Inv g → ∀ b, g₀.get? b = none → g.get? b = none)
    (hI0 : Inv g₀) (F : Fr g₀ env.locals s.heap m) (N : News g₀ env.locals s.heap news) (hm : (lx, W.listOf vs.toArray n) ∈ news)
    (step : ∀ (v : Value) (g h₁ : Heap) (m₁ : Str → Option Value) (tk₁ : Nat) (I : Addr) (o : Obj), v ∈ vs → Inv g → (∀ p ∈ news, p.1 < I) → Fr g env.locals h₁ m₁ → News g env.locals h₁ ((I, o) :: news) →
      wpAny (model prog w) A (assign target env v) (fun _ s₂ => wpAny (model prog w) A (execs body env) (GEnd Inv env.locals s ((I, o) :: news) Q) E s₂) E { s with heap := h₁, toks := tk₁ })
    (last : ∀ (g h' : Heap) (tk' : Nat) (m' : Str → Option Value), Inv g → Fr g env.locals h' m' → News g env.locals h' news → Q .next { s with heap := h', toks := tk' })
    (hE : PassesOwn (model prog w) A env E := by passes_own) :
    wpAny (model prog w) A (pyIter (.ref lx)) (fun it s₂ => codeAny (model prog w) A (.forLoop target it body [] env) (fun r s' => match r with | .ok f => Q f s' | .error e => cameBackBy (model prog w) A env E e s') s₂) E s := by
  have hax := N _ hm
  have hl : s.heap.IsList lx vs.toArray := ⟨_, hax.1, rfl, n, rfl⟩
  have hlt : lx < s.heap.objs.size := Heap.lt_size hax.1
  have hne : lx ≠ s.heap.objs.size := Nat.ne_of_lt hlt
  have hnew : g₀.get? s.heap.objs.size = none := next_is_new F
  have hbelow : ∀ p ∈ news, p.1 < s.heap.objs.size := fun p hp => Heap.lt_size (N p hp).1
  refine wpAny_pyIter_list hl ?_
  revert hbelow hnew hne
  generalize hIe : s.heap.objs.size = I
  intro hne hnew hbelow
  have hLI : env.locals ≠ I := fun e => absurd F.ns.lt (by rw [e, hIe]; exact Nat.lt_irrefl _)
  refine codeAny_forLoop_any
    (fun k s' => ∃ g h' tk m' i, s' = { s with heap := h', toks := tk } ∧ Inv g ∧ h'.IsListIter I lx i ∧ Fr g env.locals h' m' ∧ News g env.locals h' news ∧ i ≤ vs.length ∧ k = vs.length + 1 - i) ?_ (vs.length + 1)
    ⟨g₀, _, s.toks, m, 0, rfl, hI0, ⟨_, by rw [← hIe]; exact Heap.get?_push_size _ rfl, rfl, rfl⟩, F.push _, fun p hp => ⟨Heap.get?_push_of_some _ (N p hp).1, (N p hp).2⟩, Nat.zero_le _, rfl⟩
  rintro k s' ⟨g, h', tk, m', i, rfl, hg, hit, F', N', hi, rfl⟩
  have hgI : g.get? I = none := hnone g hg I hnew
  have hl' : h'.IsList lx vs.toArray := ⟨_, (N' _ hm).1, rfl, n, rfl⟩
  have next : ∀ h₁ : Heap, (∀ b o, b ≠ I → h'.get? b = some o → h₁.get? b = some o) → Fr g env.locals h₁ m' ∧ News g env.locals h₁ news := fun h₁ hk =>
    ⟨⟨F'.ns.at' fun o e => hk _ o hLI e, fun b o e => hk b o (fun q => by rw [q, hgI] at e; cases e) (F'.keep b o e), F'.above⟩, fun p hp => ⟨hk _ _ (Nat.ne_of_lt (hbelow p hp)) (N' p hp).1, (N' p hp).2⟩⟩
  by_cases hlt' : i < vs.length
  · refine wpAny_pyNext_list_item hit hl' (x := vs[i]) (by simp [hlt']) fun h₁ hit' hs' => ?_
    refine letGo_listiter hit' ?_
    obtain ⟨F₁, N₁⟩ := next h₁ fun b o hb e => hs'.extBut b o hb e
    obtain ⟨o, ho, hoc, hod⟩ := hit'
    have N₂ : News g env.locals h₁ ((I, o) :: news) := fun p hp => by
      rcases List.mem_cons.mp hp with rfl | hp
      · exact ⟨ho, fun e => hLI e.symm, hgI⟩
      · exact N₁ p hp
    refine wpAny_passesOwn hE (wpAny_mono (step vs[i] g h₁ m' tk I o (List.getElem_mem _) hg hbelow F₁ N₂) (fun _ s₂ h₂ => wpAny_passesOwn hE (wpAny_mono h₂ (fun f s₃ h₃ => ?_) fun _ _ e => e)) fun _ _ e => e)
    cases f with
    | ret v => exact h₃
    | brk => exact h₃
    | cont =>
      obtain ⟨g₃, h₃', tk₃, m₃, rfl, hg₃, F₃, N₃⟩ := h₃
      exact ⟨vs.length + 1 - (i + 1), by omega, g₃, h₃', tk₃, m₃, i + 1, rfl, hg₃, ⟨o, (N₃ _ (.head _)).1, hoc, hod⟩, F₃, fun p hp => N₃ p (.tail _ hp), hlt', rfl⟩
    | next =>
      obtain ⟨g₃, h₃', tk₃, m₃, rfl, hg₃, F₃, N₃⟩ := h₃
      exact ⟨vs.length + 1 - (i + 1), by omega, g₃, h₃', tk₃, m₃, i + 1, rfl, hg₃, ⟨o, (N₃ _ (.head _)).1, hoc, hod⟩, F₃, fun p hp => N₃ p (.tail _ hp), hlt', rfl⟩
  · have hin : i = vs.length := by omega
    subst hin
    refine wpAny_pyNext_list_end hh hit hl' (by simp) fun h₁ hk₁ => wpAny_execs_nil ?_
    obtain ⟨F₁, N₁⟩ := next h₁ fun b o hb e => hk₁ b o hb e
    exact last g h₁ tk m' hg F₁ N₁
theorem forG_rows {lx : Addr} {vs : List Value} {n : Nat} {m : Str → Option Value} {news : List (Addr × Obj)} (Row : List (Addr × Obj) → Value → Prop) (Inv : Heap → Prop)
    (hh : A.handled = none)
    (hnone : ∀ g, Inv g → ∀ b, g₀.get? b = none → g.get? b = none)
    (hI0 : Inv g₀) (F : Fr g₀ env.locals s.heap m) (N : News g₀ env.locals s.heap news) (hm : (lx, W.listOf vs.toArray n) ∈ news) (hrows : ∀ v ∈ vs, Row news v)
    (step : ∀ (v : Value) (nw : List (Addr × Obj)) (g h₁ : Heap) (m₁ : Str → Option Value) (tk₁ : Nat) (I : Addr) (o : Obj), Row nw v → Inv g → (∀ p ∈ nw, p.1 < I) → Fr g env.locals h₁ m₁ → News g env.locals h₁ ((I, o) :: nw) →
      wpAny (model prog w) A (assign target env v) (fun _ s₂ => wpAny (model prog w) A (execs body env) (GEnd Inv env.locals s ((I, o) :: nw) Q) E s₂) E { s with heap := h₁, toks := tk₁ })
    (last : ∀ (g h' : Heap) (tk' : Nat) (m' : Str → Option Value), Inv g → Fr g env.locals h' m' → News g env.locals h' news → Q .next { s with heap := h', toks := tk' })
    (hE : PassesOwn (model prog w) A env E := by passes_own) :
    wpAny (model prog w) A (pyIter (.ref lx)) (fun it s₂ => codeAny (model prog w) A (.forLoop target it body [] env) (fun r s' => match r with | .ok f => Q f s' | .error e => cameBackBy (model prog w) A env E e s') s₂) E s :=
  forG_iter Inv hh hnone hI0 F N hm (fun v g h₁ m₁ tk₁ I o hv hg hlt F₁ N₁ => step v news g h₁ m₁ tk₁ I o (hrows v hv) hg hlt F₁ N₁) last hE
theorem rows_nil {news : List (Addr × Obj)} {Row : List (Addr × Obj) → Value → Prop} : ∀ v ∈ ([] : List Value), Row news v := fun _ h => nomatch h
theorem rows_cons {news : List (Addr × Obj)} {Row : List (Addr × Obj) → Value → Prop} {v : Value} {vs : List Value} (h : Row news v) (t : ∀ v ∈ vs, Row news v) : ∀ u ∈ v :: vs, Row news u := fun u hu => by
  rcases List.mem_cons.mp hu with rfl | hu
  · exact h
  · exact t u hu
/-- the end of a turn over a tuple of the ground -/
def mm (n1 n2 : Str) (m : Str → Option Value) (v1 v2 : Option Value) : Str → Option Value := fun y => if y = n2 then v2 else if y = n1 then v1 else m y
theorem mm_of {n1 n2 : Str} {m m' : Str → Option Value} (h : ∀ y, y ≠ n1 → y ≠ n2 → m' y = m y) : m' = mm n1 n2 m (m' n1) (m' n2) := by
  funext y
  unfold mm
  by_cases h2 : y = n2
  · rw [if_pos h2, h2]
  · rw [if_neg h2]
    by_cases h1 : y = n1
    · rw [if_pos h1, h1]
    · rw [if_neg h1]; exact h y h1 h2
def TEnd (n1 n2 : Str) (m : Str → Option Value) (P : Nat → Prop) (i : Nat) (g : Heap) (L : Addr) (s : Shared) (news : List (Addr × Obj)) (Q : Flow → Shared → Prop) (f : Flow) (s₃ : Shared) : Prop :=
  match f with
  | .ret v => Q (.ret v) s₃
  | .brk => Q .next s₃
  | _ => ∃ (h' : Heap) (tk' : Nat) (m' : Str → Option Value), s₃ = { s with heap := h', toks := tk' } ∧ P (i + 1) ∧ (∀ y, y ≠ n1 → y ≠ n2 → m' y = m y) ∧ Fr g L h' m' ∧ News g L h' news
theorem forT_iter {lx : Addr} {vs : List Value} {m : Str → Option Value} {news : List (Addr × Obj)} (n1 n2 : Str) (P : Nat → Prop)
    (hh : A.handled = none) (hP : P 0) (F : Fr g₀ env.locals s.heap m) (N : News g₀ env.locals s.heap news) (hT : IsTup g₀ lx vs.toArray)
    (step : ∀ (i : Nat) (v : Value) (h₁ : Heap) (v1 v2 : Option Value) (tk₁ : Nat) (I : Addr) (o : Obj), vs[i]? = some v → P i → (∀ p ∈ news, p.1 < I) → Fr g₀ env.locals h₁ (mm n1 n2 m v1 v2) → News g₀ env.locals h₁ ((I, o) :: news) →
      wpAny (model prog w) A (assign target env v) (fun _ s₂ => wpAny (model prog w) A (execs body env) (TEnd n1 n2 m P i g₀ env.locals s ((I, o) :: news) Q) E s₂) E { s with heap := h₁, toks := tk₁ })
    (last : ∀ (h' : Heap) (tk' : Nat) (m' : Str → Option Value), P vs.length → Fr g₀ env.locals h' m' → News g₀ env.locals h' news → Q .next { s with heap := h', toks := tk' })
    (hE : PassesOwn (model prog w) A env E := by passes_own) :
    wpAny (model prog w) A (pyIter (.ref lx)) (fun it s₂ => codeAny (model prog w) A (.forLoop target it body [] env) (fun r s' => match r with | .ok f => Q f s' | .error e => cameBackBy (model prog w) A env E e s') s₂) E s := by
  have hl : s.heap.IsTuple lx vs.toArray := IsTup.keeps hT F.keep
  have hlt : lx < s.heap.objs.size := by obtain ⟨o, e, _⟩ := hl; exact Heap.lt_size e
  have hne : lx ≠ s.heap.objs.size := Nat.ne_of_lt hlt
  have hnew : g₀.get? s.heap.objs.size = none := next_is_new F
  have hbelow : ∀ p ∈ news, p.1 < s.heap.objs.size := fun p hp => Heap.lt_size (N p hp).1
  refine wpAny_pyIter_tuple hl ?_
  revert hbelow hnew hne
  generalize hIe : s.heap.objs.size = I
  intro hne hnew hbelow
  have hLI : env.locals ≠ I := fun e => absurd F.ns.lt (by rw [e, hIe]; exact Nat.lt_irrefl _)
  refine codeAny_forLoop_any
    (fun k s' => ∃ h' tk m' i, s' = { s with heap := h', toks := tk } ∧ h'.IsTupleIter I lx i ∧ P i ∧ (∀ y, y ≠ n1 → y ≠ n2 → m' y = m y) ∧ Fr g₀ env.locals h' m' ∧ News g₀ env.locals h' news ∧ i ≤ vs.length ∧ k = vs.length + 1 - i) ?_ (vs.length + 1)
    ⟨_, s.toks, m, 0, rfl, ⟨_, by rw [← hIe]; exact Heap.get?_push_size _ rfl, rfl, rfl⟩, hP, fun _ _ _ => rfl, F.push _, fun p hp => ⟨Heap.get?_push_of_some _ (N p hp).1, (N p hp).2⟩, Nat.zero_le _, rfl⟩
  rintro k s' ⟨h', tk, m', i, rfl, hit, hPi, hm', F', N', hi, rfl⟩
  have hl' : h'.IsTuple lx vs.toArray := IsTup.keeps hT F'.keep
  have next : ∀ h₁ : Heap, (∀ b o, b ≠ I → h'.get? b = some o → h₁.get? b = some o) → Fr g₀ env.locals h₁ m' ∧ News g₀ env.locals h₁ news := fun h₁ hk =>
    ⟨⟨F'.ns.at' fun o e => hk _ o hLI e, fun b o e => hk b o (fun q => by rw [q, hnew] at e; cases e) (F'.keep b o e), F'.above⟩, fun p hp => ⟨hk _ _ (Nat.ne_of_lt (hbelow p hp)) (N' p hp).1, (N' p hp).2⟩⟩
  by_cases hlt' : i < vs.length
  · refine wpAny_pyNext_tuple_item hit hl' (x := vs[i]) (by simp [hlt']) fun h₁ hit' hs' => ?_
    obtain ⟨F₁, N₁⟩ := next h₁ fun b o hb e => hs'.extBut b o hb e
    obtain ⟨o, ho, hoc, hod⟩ := hit'
    refine letGo_tupleiter ⟨o, ho, hoc, hod⟩ ?_
    have N₂ : News g₀ env.locals h₁ ((I, o) :: news) := fun p hp => by
      rcases List.mem_cons.mp hp with rfl | hp
      · exact ⟨ho, fun e => hLI e.symm, hnew⟩
      · exact N₁ p hp
    refine wpAny_passesOwn hE (wpAny_mono (step i vs[i] h₁ (m' n1) (m' n2) tk I o (List.getElem?_eq_getElem hlt') hPi hbelow (by rw [← mm_of hm']; exact F₁) N₂) (fun _ s₂ h₂ => wpAny_passesOwn hE (wpAny_mono h₂ (fun f s₃ h₃ => ?_) fun _ _ e => e)) fun _ _ e => e)
    cases f with
    | ret v => exact h₃
    | brk => exact h₃
    | cont =>
      obtain ⟨h₃', tk₃, m₃, rfl, hP₃, hm₃, F₃, N₃⟩ := h₃
      exact ⟨vs.length + 1 - (i + 1), by omega, h₃', tk₃, m₃, i + 1, rfl, ⟨o, (N₃ _ (.head _)).1, hoc, hod⟩, hP₃, hm₃, F₃, fun p hp => N₃ p (.tail _ hp), hlt', rfl⟩
    | next =>
      obtain ⟨h₃', tk₃, m₃, rfl, hP₃, hm₃, F₃, N₃⟩ := h₃
      exact ⟨vs.length + 1 - (i + 1), by omega, h₃', tk₃, m₃, i + 1, rfl, ⟨o, (N₃ _ (.head _)).1, hoc, hod⟩, hP₃, hm₃, F₃, fun p hp => N₃ p (.tail _ hp), hlt', rfl⟩
  · have hin : i = vs.length := by omega
    subst hin
    refine wpAny_pyNext_tuple_end hh hit hl' (by simp) fun h₁ hk₁ => wpAny_execs_nil ?_
    obtain ⟨F₁, N₁⟩ := next h₁ fun b o hb e => hk₁ b o hb e
    exact last h₁ tk m' hPi F₁ N₁
end
end
section
open PySem.Calls
def rangeL : List (Int × Int) := [(32, 55295), (57344, 65533), (65536, 1114111)]
/-- the code lies behind the ranges that were read -/
def Past (code : Int) (i : Nat) : Prop := ∀ j : Nat, j < i → ∀ r, rangeL[j]? = some r → r.2 < code
def inChars (c : Int) : Prop := 32 ≤ c ∧ (c ≤ 55295 ∨ (57344 ≤ c ∧ c ≤ 65533) ∨ (65536 ≤ c ∧ c ≤ 1114111))
theorem three {α : Type} {a b c v : α} {i : Nat} (h : [a, b, c][i]? = some v) : (i = 0 ∧ v = a) ∨ (i = 1 ∧ v = b) ∨ (i = 2 ∧ v = c) := by
  match i, h with
  | 0, h => exact .inl ⟨rfl, (Option.some.inj h).symm⟩
  | 1, h => exact .inr (.inl ⟨rfl, (Option.some.inj h).symm⟩)
  | 2, h => exact .inr (.inr ⟨rfl, (Option.some.inj h).symm⟩)
theorem past_next {code : Int} {i : Nat} {r : Int × Int} (h : Past code i) (hr : rangeL[i]? = some r) (hc : r.2 < code) : Past code (i + 1) := fun j hj q hq => by
  rcases Nat.lt_succ_iff_lt_or_eq.mp hj with e | e
  · exact h j e q hq
  · rw [e, hr] at hq
    cases hq
    exact hc
theorem past_0 {code : Int} {i : Nat} (h : Past code i) (hi : 0 < i) : 55295 < code := h 0 hi _ rfl
theorem past_1 {code : Int} {i : Nat} (h : Past code i) (hi : 1 < i) : 65533 < code := h 1 hi _ rfl
theorem past_2 {code : Int} {i : Nat} (h : Past code i) (hi : 2 < i) : 1114111 < code := h 2 hi _ rfl
set_option maxHeartbeats 1000000 in
theorem ranges_C : ∀ (w : World) (mean : ExcName → Option Value) (mg mb : Str → Option Value) (dp un : Nat) (gd : Option (List Code)) (cn : Str) (cs : Scope) (a : Addr) (ccd : Value) (cl : List (Str × Addr)) (outer : List Env) (A₀ : Around) (base h₀ : Heap) (L : Addr) (m : Str → Option Value) (s : Shared) (Q E : Value → Shared → Prop) (news : List (Addr × Obj))
    (code : Int) (tc : Tok),
    Below A₀ base outer h₀ → Fr h₀ L s.heap m → (Mine.hd.heap_39 w.params).In h₀ → Top Mine.view (looseW Mine.view Mine.looseN) mean mg mb h₀ → cs.kind = .function → News h₀ L s.heap news →
    dp + 1 < 880 → un + 8 < 8800 →
    (∀ (b : Bool) (h' : Heap) (tk' : Nat), (b = true ↔ inChars code) → Fr h₀ L h' m → News h₀ L h' news → Q (.bool b) { s with heap := h', toks := tk' }) →
    wpAny (model PySem.Challenge.rw_xw0205_01.row.prog w) (ktrTop dp un gd cn cs L a ccd cl outer) (call (.ref 49) [.int code tc, .ref 25]) Q E s := by
  k_with_none
  w_top off
  k_fill
  intro w mean mg mb dp un gd cn cs a ccd cl outer A₀ base h₀ L m s Q E news code tc B F X T hk N hd hu ret
  refine wpAny_call ?_
  (k_dflt (refine' code_def (binds := [(Str.ofString "code", .int code tc), (Str.ofString "ranges", .ref 25)]) ?k1 ?k2 ?k3 ?k4 ?k5 ?kA ?kF ?kK ?k6 ?k7 ?k8 ?k9 ?kB ?_ ?c2 ?c3 ?c4 ?c5; (case kA => exact rfl); (case kF => exact rfl); (case kK => assumption); (case k1 => k_asm); (case k2 => k_asm); (case k3 => k_asm); (case k4 => k_asm); (case k5 => k_asm); (case k6 => k_is); (case k7 => k_is); (case k8 => ktr_room); (case k9 => first | exact BindsTo.of_eq rfl | exact binds_K (by k_in) rfl (by k_is) rfl rfl rfl); (case c5 => decide); (case kB => exact locs rfl); (case c2 => exact rfl); (case c3 => exact rfl); (case c4 => exact rfl); k_whole; intro g' L' h' FG' F' N' B' X' T'; (try dsimp only); (try k_fold)))
  k_with "exec For Tuple Name cons nil" => (k_here; refine wpAny_For ?_)
  k_with "pyIter ref" => (k_here; (with_reducible show wpAny _ _ (pyIter _) (fun it s₂ => codeAny _ _ _ _ _) _ _); k_extra "loop")
  k_with "loop" =>
    (rename Fr _ _ _ _ => lF')
    (rename News _ _ _ _ => lN')
    (k_dflt (refine' forT_iter (vs := [.ref 22, .ref 23, .ref 24]) (Str.ofString "low") (Str.ofString "high") (Past code) ?hh ?hP lF' lN' ?hT ?_ ?_; (case hh => rfl); (case hP => exact fun j hj => absurd hj (Nat.not_lt_zero _)); (case hT => exact tupK (by k_in) (by k_is))))
    (clear lF' lN')
    (rotate_left)
    (intro h8 tk8 m8 hP8 F8 N8)
    (rotate_left)
    (intro i8 v8 h8 v18 v28 tk8 I8 o8 hi8 hP8 hl8 F8 N8)
    (unfold mm at F8)
    (rcases three hi8 with ⟨e8, e9⟩ | ⟨e8, e9⟩ | ⟨e8, e9⟩ <;> subst e8 e9)
  k_steps
  all_goals (try ((with_reducible show TEnd _ _ _ _ _ _ _ _ _ _ (Flow.ret _) _); dsimp only [TEnd]; k_steps))
  all_goals (try (
    (with_reducible show TEnd _ _ _ _ _ _ _ _ _ _ _ _)
    (rename Fr _ _ _ _ => kF)
    (rename News _ _ _ _ => kN)
    (rename Past code _ => kP)
    refine' ⟨_, _, _, rfl, past_next kP rfl ?a, ?b, kF, kN⟩
    (case a => (dsimp only; omega))
    (case b => (intro y h1 h2; simp only [if_neg h1, if_neg h2]))))
  all_goals (
    (rename Past code _ => kP)
    (rename News _ _ _ _ => kN)
    (rename Fr _ _ _ _ => kF)
    (try (have q0 := past_0 kP (by decide)))
    (try (have q1 := past_1 kP (by decide)))
    (try (have q2 := past_2 kP (by decide)))
    exact ret _ _ _ (by unfold inChars; simp only [Bool.false_eq_true, false_iff, true_iff]; omega) kF (fun p hp => kN p (by first | exact hp | exact .tail _ hp)))
end
section
open PySem.Calls
def okChar (c : Nat) : Bool := decide (c = 9 ∨ c = 10 ∨ c = 13 ∨ (32 ≤ c ∧ (c ≤ 55295 ∨ (57344 ≤ c ∧ c ≤ 65533) ∨ (65536 ≤ c ∧ c ≤ 1114111))))
def cp0 (x : Str) : Nat := x.cps.getD 0 0
theorem one_cp {x : Str} (h : x.length = 1) : x = ⟨#[cp0 x]⟩ := by
  obtain ⟨⟨l⟩⟩ := x
  have h' : l.length = 1 := h
  match l, h' with
  | [c], _ => rfl
theorem ok_low {x : Str} (h : x.length = 1) (hc : ((x.cps.getD 0 0 : Nat) : Int) < 32) : (!(Builtin.Str.occurrences (Str.ofString " \t\n\x0d") x 0 (Str.ofString " \t\n\x0d").length 1).isEmpty) = okChar (cp0 x) := by
  have hc' : ((cp0 x : Nat) : Int) < 32 := hc
  rw [one_cp h, StrLaws.found_one]
  have e : (Str.ofString " \t\n\x0d").cps.toList = [32, 9, 10, 13] := by decide +kernel
  rw [e]
  show decide (cp0 x ∈ [32, 9, 10, 13]) = okChar (cp0 x)
  unfold okChar
  rw [decide_eq_decide]
  simp only [List.mem_cons, List.not_mem_nil, or_false]
  omega
theorem ok_high {x : Str} {b : Bool} (hc : ¬ ((x.cps.getD 0 0 : Nat) : Int) < 32) (hb : b = true ↔ inChars ((x.cps.getD 0 0 : Nat) : Int)) : b = okChar (cp0 x) := by
  have hc' : ¬ ((cp0 x : Nat) : Int) < 32 := hc
  have hb' : b = true ↔ inChars ((cp0 x : Nat) : Int) := hb
  rw [Bool.eq_iff_iff, hb']
  unfold okChar inChars
  rw [decide_eq_true_eq]
  omega


set_option maxHeartbeats 4000000 in
theorem ischar_C : ∀ (w : World) (mean : ExcName → Option Value) (mg mb : Str → Option Value) (dp un : Nat) (gd : Option (List Code)) (cn : Str) (cs : Scope) (a : Addr) (ccd : Value) (cl : List (Str × Addr)) (outer : List Env) (A₀ : Around) (base h₀ : Heap) (L : Addr) (m : Str → Option Value) (s : Shared) (Q E : Value → Shared → Prop) (news : List (Addr × Obj))
    (sg : Str) (ts : Tok),
    Below A₀ base outer h₀ → Fr h₀ L s.heap m → (Mine.hd.heap_39 w.params).In h₀ → Top Mine.view (looseW Mine.view Mine.looseN) mean mg mb h₀ → cs.kind = .function → News h₀ L s.heap news →
    dp + 2 < 880 → un + 16 < 8800 → sg.length = 1 →
    (∀ (h' : Heap) (tk' : Nat), Fr h₀ L h' m → News h₀ L h' news → Q (.bool (okChar (cp0 sg))) { s with heap := h', toks := tk' }) →
    wpAny (model PySem.Challenge.rw_xw0205_01.row.prog w) (ktrTop dp un gd cn cs L a ccd cl outer) (call (.ref 63) [.str sg ts]) Q E s := by
  k_with_none
  w_top off
  k_fill
  intro w mean mg mb dp un gd cn cs a ccd cl outer A₀ base h₀ L m s Q E news sg ts B F X T hk N hd hu h1 ret
  refine wpAny_call ?_
  (k_dflt (refine' code_def (binds := [(Str.ofString "sign", .str sg ts)]) ?k1 ?k2 ?k3 ?k4 ?k5 ?kA ?kF ?kK ?k6 ?k7 ?k8 ?k9 ?kB ?_ ?c2 ?c3 ?c4 ?c5; (case kA => exact rfl); (case kF => exact rfl); (case kK => assumption); (case k1 => k_asm); (case k2 => k_asm); (case k3 => k_asm); (case k4 => k_asm); (case k5 => k_asm); (case k6 => k_is); (case k7 => k_is); (case k8 => ktr_room); (case k9 => first | exact BindsTo.of_eq rfl | exact binds_K (by k_in) rfl (by k_is) rfl rfl rfl); (case c5 => decide); (case kB => exact locs rfl); (case c2 => exact rfl); (case c3 => exact rfl); (case c4 => exact rfl); k_whole; intro g' L' h' FG' F' N' B' X' T'; (try dsimp only); (try k_fold)))
  k_with "call ref" => (k_here; (with_reducible show wpAny _ _ (call (Value.ref 49) [Value.int _ _, Value.ref _]) _ _ _); k_dflt (refine' ranges_C _ _ _ _ _ _ _ _ _ _ _ _ _ _ _ _ _ _ _ _ _ _ _ _ ?k1 ?k2 ?k3 ?k5 ?kK ?k4 ?kd ?ku ?_; (case k1 => k_asm); (case k2 => k_asm); (case k3 => k_asm); (case k5 => k_asm); (case kK => first | exact rfl | assumption); (case k4 => k_asm); (case kd => ktr_room); (case ku => ktr_units)); intro b9 h9 tk9 hb9 F9 N9; (try dsimp only))
  k_steps
  · rw [ok_low h1 (by assumption)]
    exact ret _ _ (by k_asm) (by k_asm)
  · (with_reducible rename (_ = true ↔ inChars _) => hb)
    rw [ok_high (by assumption) hb]
    exact ret _ _ (by k_asm) (by k_asm)
end
section
open PySem.Calls
/-- the signs that were read are let -/
def OkTo (t : Str) (n : Nat) : Prop := ∀ j : Nat, j < n → okChar (t.cps.getD j 0) = true
theorem item_cp {t : Str} {k : Int} {j : Nat} (hk : k = 0 + (j : Int)) (hj : j < ((t.length : Int) - 0).toNat) : cp0 (Txt.item t k) = t.cps.getD j 0 := by
  have hj' : j < t.cps.size := by
    have : t.length = t.cps.size := rfl
    omega
  have e : k.toNat = j := by omega
  rw [item_meets (x := t) (i := k) (n := t.cps[j]) (by omega) (by rw [e]; exact Array.getElem?_eq_getElem hj')]
  simp [cp0, Array.getD, hj']
theorem ok_next {t : Str} {pre : List Int} {k : Int} (h : OkTo t pre.length) (hk : k = 0 + (pre.length : Int)) (hl : pre.length < ((t.length : Int) - 0).toNat) (hc : okChar (cp0 (Txt.item t k)) = true) : OkTo t (pre ++ [k]).length := by
  intro j hj
  rw [List.length_append, List.length_cons, List.length_nil] at hj
  rcases Nat.lt_succ_iff_lt_or_eq.mp hj with q | q
  · exact h j q
  · rw [q, ← item_cp hk hl]
    exact hc
theorem ok_none {t : Str} : OkTo t ([] : List Int).length := fun _ h => absurd h (Nat.not_lt_zero _)
set_option maxHeartbeats 4000000 in
theorem check_C : ∀ (w : World) (mean : ExcName → Option Value) (mg mb : Str → Option Value) (dp un : Nat) (gd : Option (List Code)) (cn : Str) (cs : Scope) (a : Addr) (ccd : Value) (outer : List Env) (A₀ : Around) (base h₀ : Heap) (L : Addr) (m : Str → Option Value) (s : Shared) (Q E : Value → Shared → Prop) (news : List (Addr × Obj))
    (text : Str) (place : Int) (tt tp : Tok),
    Below A₀ base outer h₀ → Fr h₀ L s.heap m → (Mine.hd.heap_39 w.params).In h₀ → Top Mine.view (looseW Mine.view Mine.looseN) mean mg mb h₀ → cs.kind = .function → News h₀ L s.heap news →
    dp + 10 < 880 → un + 80 < 8800 → text.length ≤ 1048576 → 0 ≤ place → place < 1048577 →
    (∀ (h' : Heap) (tk' : Nat), OkTo text text.length → Fr h₀ L h' m → News h₀ L h' news → Q .none { s with heap := h', toks := tk' }) →
    (∀ (k : Nat) (g h' : Heap) (e D : Addr) (od : Obj) (tk' : Nat) (nw : List (Addr × Obj)), k < text.length → OkTo text k → okChar (text.cps.getD k 0) = false → Fr h₀ L g m → FaultDict od (place + k) →
      RaisedM base g (envOf cn cs L a ccd :: outer) e D ((D, od) :: (news ++ nw)) h' → g.UpToSlots h' → E (.ref e) { s with heap := h', toks := tk' }) →
    wpAny (model PySem.Challenge.rw_xw0205_01.row.prog w) (ktrTop dp un gd cn cs L a ccd [] outer) (call (.ref 131) [.str text tt, .int place tp]) Q E s := by
  k_with_none
  w_top off
  k_fill
  intro w mean mg mb dp un gd cn cs a ccd outer A₀ base h₀ L m s Q E news text place tt tp B F X T hk N hd hu h1 h2 h3 ret err
  refine wpAny_call ?_
  (k_dflt (refine' code_def (binds := [(Str.ofString "text", .str text tt), (Str.ofString "place", .int place tp)]) ?k1 ?k2 ?k3 ?k4 ?k5 ?kA ?kF ?kK ?k6 ?k7 ?k8 ?k9 ?kB ?_ ?c2 ?c3 ?c4 ?c5; (case kA => exact rfl); (case kF => exact rfl); (case kK => assumption); (case k1 => k_asm); (case k2 => k_asm); (case k3 => k_asm); (case k4 => k_asm); (case k5 => k_asm); (case k6 => k_is); (case k7 => k_is); (case k8 => ktr_room); (case k9 => first | exact BindsTo.of_eq rfl | exact binds_K (by k_in) rfl (by k_is) rfl rfl rfl); (case c5 => decide); (case kB => exact locs rfl); (case c2 => exact rfl); (case c3 => exact rfl); (case c4 => exact rfl); k_whole; intro g' L' h' FG' F' N' B' X' T'; (try dsimp only); (try k_fold)))
  k_with "call ref" => (k_here; (with_reducible show wpAny _ _ (call (Value.ref 63) [Value.str _ _]) _ _ _); k_dflt (refine' ischar_C _ _ _ _ _ _ _ _ _ _ _ _ _ _ _ _ _ _ _ _ _ _ _ _ ?k1 ?k2 ?k3 ?k5 ?kK ?k4 ?kd ?ku ?q0 ?_; (case k1 => k_asm); (case k2 => k_asm); (case k3 => k_asm); (case k5 => k_asm); (case kK => first | exact rfl | assumption); (case k4 => k_asm); (case kd => ktr_room); (case ku => ktr_units); (case q0 => first | rfl | assumption)); intro h9 tk9 F9 N9; (try dsimp only))
  k_with "exec Raise some none" => (k_here; (with_reducible show wpAny _ _ (exec (Stmt.Raise (some (PySem.Expr.Call (PySem.Expr.Name (Str.ofString "SyntaxFault") _) _ [] _)) none _) _) _ _ _); (with_reducible rename Frag.In _ _ => kX9); k_dflt (refine raise_M kX9 (by kts_isx) (by rfl) ?_))
  k_with "call ref" => (k_here; (with_reducible show wpAny _ _ (call (Value.ref 122) [Value.str _ _, Value.int _ _]) _ _ _); k_dflt (refine' fault_K _ _ _ _ _ _ _ _ _ _ _ _ _ _ _ _ _ _ _ _ _ _ _ _ _ _ ?k1 ?k2 ?k3 ?k5 ?kK ?k4 ?kd ?ku ?_; (case k1 => k_asm); (case k2 => k_asm); (case k3 => k_asm); (case k5 => k_asm); (case kK => first | exact rfl | assumption); (case k4 => k_asm); (case kd => ktr_room); (case ku => ktr_units)); intro e9 t9 D9 od9 h9 tk9 fd9 F9 N9 ne9; k_dflt (refine' ⟨e9, t9, D9, rfl, Frag.In.keeps ?kx (Fr.keep F9), (N9 _ (List.Mem.head _)).1, ?_⟩; (case kx => k_asm)); (try dsimp only))
  k_with "leaving ref" => (k_here; k_dflt (first | (refine' leave_raiseM ?k1 ?k2 ?k3 ?k0 ?_ ?hk; (case k3 => assumption); (case k2 => assumption); (case k1 => assumption); (case k0 => assumption); (case hk => rfl); k_whole; intro h' R' U'; (try dsimp only at R' U' ⊢)) | (refine' leave_onM ?k1 ?k2 ?k3 ?k4 ?_; (case k3 => assumption); (case k2 => assumption); (case k1 => assumption); (case k4 => assumption); k_whole; intro h' R' U'; (try dsimp only at R' U' ⊢))))
  k_with "pyIter ref" =>
    (rename Fr _ _ _ _ => lF')
    (rename News _ _ _ _ => lN')
    (rename IsRange _ _ _ _ _ _ _ _ => rgX)
    (with_unfolding_all refine' kst_range (fun (_ : Unit) => news) (fun _ => []) (fun _ => True) [] (fun pre _ => OkTo text pre.length) () (by rfl) rgX (by exact small_one (by omega) (by omega) (by omega) (by omega)) (by exact rangeSize_nat _ _) lF' lN' ?kf ?kk ?kp ?_ ?_)
    (case kf => exact True.intro)
    (case kk => exact List.forall_mem_nil _)
    (case kp => exact ok_none)
  k_with "state" => exact ok_next (by assumption) (by assumption) (by assumption) (by assumption)
  k_steps
  · (rename Fr _ _ _ _ => hF)
    (rename News _ _ _ _ => hN)
    refine InvEndN.intro hF hN ⟨(), rfl, trivial, List.forall_mem_nil _, ?_, ok_next (by assumption) (by assumption) (by assumption) (by assumption)⟩ rfl (fun p hp => List.mem_append_left _ hp) (fun p hp => List.mem_append_right _ hp)
    intro z h1 _ _
    simp [h1, kstB]
  · (with_reducible rename RaisedM _ _ _ _ _ _ _ => hR)
    (with_reducible rename Heap.UpToSlots _ _ => hU)
    (with_reducible rename FaultDict _ _ => hD)
    (with_reducible rename okChar _ = false => hok)
    (with_reducible rename OkTo _ _ => hto)
    (with_reducible rename Fr h₀ L _ m => hF)
    (rename (_ : Int) = 0 + (List.length _ : Int) => hk)
    (rename List.length _ < Int.toNat _ => hl)
    have hb := item_cp hk hl
    rw [hb] at hok
    rw [hk, Int.zero_add] at hD
    exact err _ _ _ _ _ _ _ _ (by omega) hto hok hF hD hR hU
  · (with_reducible rename OkTo _ _ => hto)
    (with_reducible rename Fr h₀ L _ m => hF)
    (with_reducible rename News h₀ L _ _ => hN)
    rw [rangeKs_length, show (((text.length : Nat) : Int) - 0).toNat = text.length by omega] at hto
    exact ret _ _ hto hF hN
end
section
open PySem.Calls
def isSp (c : Nat) : Bool := decide (c = 32 ∨ c = 9 ∨ c = 10 ∨ c = 13)
def isNs (c : Nat) : Bool := decide ((97 ≤ c ∧ c ≤ 122) ∨ (65 ≤ c ∧ c ≤ 90) ∨ c = 95 ∨ c = 58)
def isNc (c : Nat) : Bool := decide ((97 ≤ c ∧ c ≤ 122) ∨ (65 ≤ c ∧ c ≤ 90) ∨ c = 95 ∨ c = 58 ∨ (48 ≤ c ∧ c ≤ 57) ∨ c = 45 ∨ c = 46)
theorem cps1 {x : Str} (h : x.length = 1) : x.cps.toList = [cp0 x] := by rw [one_cp h]; rfl
theorem one_lt {c d : Nat} : [c] < [d] ↔ c < d := by
  constructor
  · intro h
    cases h with
    | rel h => exact h
    | cons h => cases h
  · intro h
    exact List.Lex.rel h
theorem lt_l {x y : Str} {d : Nat} (h : x.length = 1) (hy : y.cps.toList = [d]) : x.cps.toList < y.cps.toList ↔ cp0 x < d := by rw [cps1 h, hy]; exact one_lt
theorem lt_r {x y : Str} {d : Nat} (h : x.length = 1) (hy : y.cps.toList = [d]) : y.cps.toList < x.cps.toList ↔ d < cp0 x := by rw [cps1 h, hy]; exact one_lt
theorem eq_1 {x y : Str} {d : Nat} (h : x.length = 1) (hy : y.cps.toList = [d]) : (x == y) = decide (cp0 x = d) := by
  rw [Bool.eq_iff_iff, beq_iff_eq, decide_eq_true_eq]
  constructor
  · intro e
    have := cps1 h
    rw [e, hy] at this
    rw [e]
    cases this
    simp_all
  · intro e
    rw [one_cp h, e]
    obtain ⟨⟨l⟩⟩ := y
    have : l = [d] := hy
    rw [this]
theorem eqT {x y : Str} {d : Nat} (h : x.length = 1) (hy : y.cps.toList = [d]) (q : (x == y) = true) : cp0 x = d := by rw [eq_1 h hy] at q; exact of_decide_eq_true q
theorem eqF {x y : Str} {d : Nat} (h : x.length = 1) (hy : y.cps.toList = [d]) (q : (x == y) = false) : ¬ cp0 x = d := by rw [eq_1 h hy] at q; exact of_decide_eq_false q
theorem l_a : (Str.ofString "a").cps.toList = [97] := by decide +kernel
theorem l_z : (Str.ofString "z").cps.toList = [122] := by decide +kernel
theorem l_A : (Str.ofString "A").cps.toList = [65] := by decide +kernel
theorem l_Z : (Str.ofString "Z").cps.toList = [90] := by decide +kernel
theorem l_0 : (Str.ofString "0").cps.toList = [48] := by decide +kernel
theorem l_9 : (Str.ofString "9").cps.toList = [57] := by decide +kernel
theorem l_us : (Str.ofString "_").cps.toList = [95] := by decide +kernel
theorem l_co : (Str.ofString ":").cps.toList = [58] := by decide +kernel
theorem l_mi : (Str.ofString "-").cps.toList = [45] := by decide +kernel
theorem l_do : (Str.ofString ".").cps.toList = [46] := by decide +kernel


set_option maxHeartbeats 4000000 in
theorem isns_C : ∀ (w : World) (mean : ExcName → Option Value) (mg mb : Str → Option Value) (dp un : Nat) (gd : Option (List Code)) (cn : Str) (cs : Scope) (a : Addr) (ccd : Value) (cl : List (Str × Addr)) (outer : List Env) (A₀ : Around) (base h₀ : Heap) (L : Addr) (m : Str → Option Value) (s : Shared) (Q E : Value → Shared → Prop) (news : List (Addr × Obj))
    (sg : Str) (ts : Tok),
    Below A₀ base outer h₀ → Fr h₀ L s.heap m → (Mine.hd.heap_39 w.params).In h₀ → Top Mine.view (looseW Mine.view Mine.looseN) mean mg mb h₀ → cs.kind = .function → News h₀ L s.heap news →
    dp + 4 < 880 → un + 32 < 8800 → sg.length = 1 → cp0 sg < 128 →
    (∀ (h' : Heap) (tk' : Nat), Fr h₀ L h' m → News h₀ L h' news → Q (.bool (isNs (cp0 sg))) { s with heap := h', toks := tk' }) →
    wpAny (model PySem.Challenge.rw_xw0205_01.row.prog w) (ktrTop dp un gd cn cs L a ccd cl outer) (call (.ref 77) [.str sg ts]) Q E s := by
  k_with_none
  w_top off
  k_fill
  intro w mean mg mb dp un gd cn cs a ccd cl outer A₀ base h₀ L m s Q E news sg ts B F X T hk N hd hu h1 h128 ret
  have hc128 : ((sg.cps.getD 0 0 : Nat) : Int) < 128 := by unfold cp0 at h128; omega
  have ret2 : ∀ (b : Bool) (h' : Heap) (tk' : Nat), b = isNs (cp0 sg) → Fr h₀ L h' m → News h₀ L h' news → Q (.bool b) { s with heap := h', toks := tk' } := by
    intro b h' tk' e F' N'
    rw [e]
    exact ret _ _ F' N'
  refine wpAny_call ?_
  (k_dflt (refine' code_def (binds := [(Str.ofString "sign", .str sg ts)]) ?k1 ?k2 ?k3 ?k4 ?k5 ?kA ?kF ?kK ?k6 ?k7 ?k8 ?k9 ?kB ?_ ?c2 ?c3 ?c4 ?c5; (case kA => exact rfl); (case kF => exact rfl); (case kK => assumption); (case k1 => k_asm); (case k2 => k_asm); (case k3 => k_asm); (case k4 => k_asm); (case k5 => k_asm); (case k6 => k_is); (case k7 => k_is); (case k8 => ktr_room); (case k9 => first | exact BindsTo.of_eq rfl | exact binds_K (by k_in) rfl (by k_is) rfl rfl rfl); (case c5 => decide); (case kB => exact locs rfl); (case c2 => exact rfl); (case c3 => exact rfl); (case c4 => exact rfl); k_whole; intro g' L' h' FG' F' N' B' X' T'; (try dsimp only); (try k_fold)))
  k_steps
  all_goals (
    refine ret2 _ _ _ ?_ (by k_asm) (by k_asm)
    (try (rename _ < (Str.ofString "a").cps.toList => q1; replace q1 := (lt_l h1 l_a).mp q1))
    (try (rename ¬ _ < (Str.ofString "a").cps.toList => q1; replace q1 := mt (lt_l h1 l_a).mpr q1))
    (try (rename (Str.ofString "z").cps.toList < _ => q2; replace q2 := (lt_r h1 l_z).mp q2))
    (try (rename ¬ (Str.ofString "z").cps.toList < _ => q2; replace q2 := mt (lt_r h1 l_z).mpr q2))
    (try (rename _ < (Str.ofString "A").cps.toList => q3; replace q3 := (lt_l h1 l_A).mp q3))
    (try (rename ¬ _ < (Str.ofString "A").cps.toList => q3; replace q3 := mt (lt_l h1 l_A).mpr q3))
    (try (rename (Str.ofString "Z").cps.toList < _ => q4; replace q4 := (lt_r h1 l_Z).mp q4))
    (try (rename ¬ (Str.ofString "Z").cps.toList < _ => q4; replace q4 := mt (lt_r h1 l_Z).mpr q4))
    (try (rename (_ == Str.ofString "_") = true => q5; replace q5 := eqT h1 l_us q5))
    (try (rename (_ == Str.ofString "_") = false => q5; replace q5 := eqF h1 l_us q5))
    rw [Bool.eq_iff_iff]
    simp only [eq_1 h1 l_us, eq_1 h1 l_co, lt_r h1 l_Z, lt_r h1 l_z, isNs, decide_eq_true_eq, Bool.not_eq_true', decide_eq_false_iff_not]
    omega)
end
section
open PySem.Calls
set_option maxHeartbeats 4000000 in
theorem isnc_C : ∀ (w : World) (mean : ExcName → Option Value) (mg mb : Str → Option Value) (dp un : Nat) (gd : Option (List Code)) (cn : Str) (cs : Scope) (a : Addr) (ccd : Value) (cl : List (Str × Addr)) (outer : List Env) (A₀ : Around) (base h₀ : Heap) (L : Addr) (m : Str → Option Value) (s : Shared) (Q E : Value → Shared → Prop) (news : List (Addr × Obj))
    (sg : Str) (ts : Tok),
    Below A₀ base outer h₀ → Fr h₀ L s.heap m → (Mine.hd.heap_39 w.params).In h₀ → Top Mine.view (looseW Mine.view Mine.looseN) mean mg mb h₀ → cs.kind = .function → News h₀ L s.heap news →
    dp + 6 < 880 → un + 48 < 8800 → sg.length = 1 → cp0 sg < 128 →
    (∀ (h' : Heap) (tk' : Nat), Fr h₀ L h' m → News h₀ L h' news → Q (.bool (isNc (cp0 sg))) { s with heap := h', toks := tk' }) →
    wpAny (model PySem.Challenge.rw_xw0205_01.row.prog w) (ktrTop dp un gd cn cs L a ccd cl outer) (call (.ref 84) [.str sg ts]) Q E s := by
  k_with_none
  w_top off
  k_fill
  intro w mean mg mb dp un gd cn cs a ccd cl outer A₀ base h₀ L m s Q E news sg ts B F X T hk N hd hu h1 h128 ret
  have hc128 : ((sg.cps.getD 0 0 : Nat) : Int) < 128 := by unfold cp0 at h128; omega
  have ret2 : ∀ (b : Bool) (h' : Heap) (tk' : Nat), b = isNc (cp0 sg) → Fr h₀ L h' m → News h₀ L h' news → Q (.bool b) { s with heap := h', toks := tk' } := by
    intro b h' tk' e F' N'
    rw [e]
    exact ret _ _ F' N'
  refine wpAny_call ?_
  (k_dflt (refine' code_def (binds := [(Str.ofString "sign", .str sg ts)]) ?k1 ?k2 ?k3 ?k4 ?k5 ?kA ?kF ?kK ?k6 ?k7 ?k8 ?k9 ?kB ?_ ?c2 ?c3 ?c4 ?c5; (case kA => exact rfl); (case kF => exact rfl); (case kK => assumption); (case k1 => k_asm); (case k2 => k_asm); (case k3 => k_asm); (case k4 => k_asm); (case k5 => k_asm); (case k6 => k_is); (case k7 => k_is); (case k8 => ktr_room); (case k9 => first | exact BindsTo.of_eq rfl | exact binds_K (by k_in) rfl (by k_is) rfl rfl rfl); (case c5 => decide); (case kB => exact locs rfl); (case c2 => exact rfl); (case c3 => exact rfl); (case c4 => exact rfl); k_whole; intro g' L' h' FG' F' N' B' X' T'; (try dsimp only); (try k_fold)))
  k_with "call ref" => (k_here; (with_reducible show wpAny _ _ (call (Value.ref 77) [Value.str _ _]) _ _ _); k_dflt (refine' isns_C _ _ _ _ _ _ _ _ _ _ _ _ _ _ _ _ _ _ _ _ _ _ _ _ ?k1 ?k2 ?k3 ?k5 ?kK ?k4 ?kd ?ku ?q0 ?q1 ?_; (case k1 => k_asm); (case k2 => k_asm); (case k3 => k_asm); (case k5 => k_asm); (case kK => first | exact rfl | assumption); (case k4 => k_asm); (case kd => ktr_room); (case ku => ktr_units); (case q0 => first | rfl | assumption); (case q1 => first | assumption | omega | k_extra "ascii")); intro h9 tk9 F9 N9; (try dsimp only))
  k_steps
  all_goals (
    refine ret2 _ _ _ ?_ (by k_asm) (by k_asm)
    (try (rename isNs _ = true => q1; simp only [isNs, decide_eq_true_eq] at q1))
    (try (rename isNs _ = false => q1; simp only [isNs, decide_eq_false_iff_not] at q1))
    (try (rename _ < (Str.ofString "0").cps.toList => q3; replace q3 := (lt_l h1 l_0).mp q3))
    (try (rename ¬ _ < (Str.ofString "0").cps.toList => q3; replace q3 := mt (lt_l h1 l_0).mpr q3))
    (try (rename (Str.ofString "9").cps.toList < _ => q4; replace q4 := (lt_r h1 l_9).mp q4))
    (try (rename ¬ (Str.ofString "9").cps.toList < _ => q4; replace q4 := mt (lt_r h1 l_9).mpr q4))
    (try (rename (_ == Str.ofString "-") = true => q5; replace q5 := eqT h1 l_mi q5))
    (try (rename (_ == Str.ofString "-") = false => q5; replace q5 := eqF h1 l_mi q5))
    rw [Bool.eq_iff_iff]
    simp only [eq_1 h1 l_mi, eq_1 h1 l_do, lt_r h1 l_9, isNc, decide_eq_true_eq, Bool.not_eq_true', decide_eq_false_iff_not, true_iff]
    omega)

theorem sp_in {x : Str} (h : x.length = 1) : (!(Builtin.Str.occurrences (Str.ofString " \t\n\x0d") x 0 (Str.ofString " \t\n\x0d").length 1).isEmpty) = isSp (cp0 x) := by
  rw [one_cp h, StrLaws.found_one]
  have e : (Str.ofString " \t\n\x0d").cps.toList = [32, 9, 10, 13] := by decide +kernel
  rw [e]
  show decide (cp0 x ∈ [32, 9, 10, 13]) = isSp (cp0 x)
  unfold isSp
  rw [decide_eq_decide]
  simp only [List.mem_cons, List.not_mem_nil, or_false]
theorem sp_ne {x : Str} (h : x.length = 1) : (x == Str.ofString "") = false := by
  rw [one_cp h]
  rfl
set_option maxHeartbeats 4000000 in
theorem issp_C : ∀ (w : World) (mean : ExcName → Option Value) (mg mb : Str → Option Value) (dp un : Nat) (gd : Option (List Code)) (cn : Str) (cs : Scope) (a : Addr) (ccd : Value) (cl : List (Str × Addr)) (outer : List Env) (A₀ : Around) (base h₀ : Heap) (L : Addr) (m : Str → Option Value) (s : Shared) (Q E : Value → Shared → Prop) (news : List (Addr × Obj))
    (sg : Str) (ts : Tok),
    Below A₀ base outer h₀ → Fr h₀ L s.heap m → (Mine.hd.heap_39 w.params).In h₀ → Top Mine.view (looseW Mine.view Mine.looseN) mean mg mb h₀ → cs.kind = .function → News h₀ L s.heap news →
    dp + 2 < 880 → un + 16 < 8800 → sg.length = 1 →
    (∀ (h' : Heap) (tk' : Nat), Fr h₀ L h' m → News h₀ L h' news → Q (.bool (isSp (cp0 sg))) { s with heap := h', toks := tk' }) →
    wpAny (model PySem.Challenge.rw_xw0205_01.row.prog w) (ktrTop dp un gd cn cs L a ccd cl outer) (call (.ref 56) [.str sg ts]) Q E s := by
  w_top off
  k_fill
  intro w mean mg mb dp un gd cn cs a ccd cl outer A₀ base h₀ L m s Q E news sg ts B F X T hk N hd hu h1 ret
  refine wpAny_call ?_
  (k_dflt (refine' code_def (binds := [(Str.ofString "sign", .str sg ts)]) ?k1 ?k2 ?k3 ?k4 ?k5 ?kA ?kF ?kK ?k6 ?k7 ?k8 ?k9 ?kB ?_ ?c2 ?c3 ?c4 ?c5; (case kA => exact rfl); (case kF => exact rfl); (case kK => assumption); (case k1 => k_asm); (case k2 => k_asm); (case k3 => k_asm); (case k4 => k_asm); (case k5 => k_asm); (case k6 => k_is); (case k7 => k_is); (case k8 => ktr_room); (case k9 => first | exact BindsTo.of_eq rfl | exact binds_K (by k_in) rfl (by k_is) rfl rfl rfl); (case c5 => decide); (case kB => exact locs rfl); (case c2 => exact rfl); (case c3 => exact rfl); (case c4 => exact rfl); k_whole; intro g' L' h' FG' F' N' B' X' T'; (try dsimp only); (try k_fold)))
  k_with "call ref" => (k_here; (with_reducible show wpAny _ _ (call (Value.ref 77) [Value.str _ _]) _ _ _); k_dflt (refine' isns_C _ _ _ _ _ _ _ _ _ _ _ _ _ _ _ _ _ _ _ _ _ _ _ _ ?k1 ?k2 ?k3 ?k5 ?kK ?k4 ?kd ?ku ?q0 ?q1 ?_; (case k1 => k_asm); (case k2 => k_asm); (case k3 => k_asm); (case k5 => k_asm); (case kK => first | exact rfl | assumption); (case k4 => k_asm); (case kd => ktr_room); (case ku => ktr_units); (case q0 => first | rfl | assumption); (case q1 => first | assumption | omega | k_extra "ascii")); intro h9 tk9 F9 N9; (try dsimp only))
  k_steps
  · rw [sp_in h1]
    exact ret _ _ (by k_asm) (by k_asm)
  · (rename List.isEmpty _ = false => q1)
    have q2 := sp_in h1
    rw [q1] at q2
    rw [show (sg != Str.ofString "") = isSp (cp0 sg) from by rw [← q2]; show (!(sg == Str.ofString "")) = _; rw [sp_ne h1]]
    exact ret _ _ (by k_asm) (by k_asm)
end
section
open PySem.Calls
abbrev curO (text : Str) (h1 h2 : Int) (k1 k2 tt : Tok) (p : Int) (tp : Tok) : Obj := dictOf [⟨h1, .str (Str.ofString "text") k1, .str text tt⟩, ⟨h2, .str (Str.ofString "at") k2, .int p tp⟩] 2
/-- the signs from p up to c are of kind f -/
def To (f : Nat → Bool) (t : Str) (p c : Int) : Prop := p ≤ c ∧ c ≤ t.length ∧ ∀ j : Nat, p ≤ j → (j : Int) < c → f (t.cps.getD j 0) = true
theorem to_0 {f t p} (h : p ≤ t.length) : To f t p p := ⟨Int.le_refl _, h, fun j a b => absurd a (by omega)⟩
theorem item_cp2 {t : Str} {k : Int} (h0 : 0 ≤ k) (hj : k < t.length) : cp0 (Txt.item t k) = t.cps.getD k.toNat 0 := by
  have hj' : k.toNat < t.cps.size := by
    have : t.length = t.cps.size := rfl
    omega
  rw [item_meets (x := t) (i := k) (n := t.cps[k.toNat]) (by omega) (Array.getElem?_eq_getElem hj')]
  simp [cp0, Array.getD, hj']
theorem to_next {f t p c} (h : To f t p c) (h0 : 0 ≤ p) (hc : c < t.length) (q : f (cp0 (Txt.item t c)) = true) : To f t p (c + 1) := by
  obtain ⟨a, b, d⟩ := h
  refine ⟨by omega, by omega, fun j u v => ?_⟩
  rcases (show (j : Int) < c ∨ (j : Int) = c by omega) with e | e
  · exact d j u e
  · rw [item_cp2 (by omega) hc] at q
    rw [show j = c.toNat by omega]
    exact q
set_option maxHeartbeats 4000000 in
theorem spaces_C : ∀ (w : World) (mean : ExcName → Option Value) (mg mb : Str → Option Value) (dp un : Nat) (gd : Option (List Code)) (cn : Str) (cs : Scope) (a : Addr) (ccd : Value) (cl : List (Str × Addr)) (outer : List Env) (A₀ : Around) (base h₀ : Heap) (L : Addr) (m : Str → Option Value) (s : Shared) (Q E : Value → Shared → Prop) (news : List (Addr × Obj))
    (cx cd : Addr) (text : Str) (p : Int) (h1 h2 : Int) (k1 k2 tt tp : Tok),
    Below A₀ base outer h₀ → Fr h₀ L s.heap m → (Mine.hd.heap_39 w.params).In h₀ → Top Mine.view (looseW Mine.view Mine.looseN) mean mg mb h₀ → cs.kind = .function → News h₀ L s.heap ((cx, instObj 270 cd) :: (cd, curO text h1 h2 k1 k2 tt p tp) :: news) → (∀ q ∈ news, q.1 ≠ cd) → @Ne Nat cx cd →
    dp + 8 < 880 → un + 60 < 8800 → text.length ≤ 1048576 → 0 ≤ p → p ≤ text.length →
    (∀ (c : Int) (t tc : Tok) (h' : Heap) (tk' : Nat), To isSp text p c → (c < text.length → isSp (text.cps.getD c.toNat 0) = false) → Fr h₀ L h' m → News h₀ L h' ((cx, instObj 270 cd) :: (cd, curO text h1 h2 k1 k2 tt c tc) :: news) → Q (.int (c - p) t) { s with heap := h', toks := tk' }) →
    wpAny (model PySem.Challenge.rw_xw0205_01.row.prog w) (ktrTop dp un gd cn cs L a ccd cl outer) (call (.ref 239) [.ref cx]) Q E s := by
  k_with_none
  w_top off
  k_fill
  intro w mean mg mb dp un gd cn cs a ccd cl outer A₀ base h₀ L m s Q E news cx cd text p h1 h2 k1 k2 tt tp B F X T hk N hne hcd hd hu hl hp hp2 ret
  refine wpAny_call ?_
  (k_dflt (refine' code_def (binds := [(Str.ofString "self", .ref cx)]) ?k1 ?k2 ?k3 ?k4 ?k5 ?kA ?kF ?kK ?k6 ?k7 ?k8 ?k9 ?kB ?_ ?c2 ?c3 ?c4 ?c5; (case kA => exact rfl); (case kF => exact rfl); (case kK => assumption); (case k1 => k_asm); (case k2 => k_asm); (case k3 => k_asm); (case k4 => k_asm); (case k5 => k_asm); (case k6 => k_is); (case k7 => k_is); (case k8 => ktr_room); (case k9 => first | exact BindsTo.of_eq rfl | exact binds_K (by k_in) rfl (by k_is) rfl rfl rfl); (case c5 => decide); (case kB => exact locs rfl); (case c2 => exact rfl); (case c3 => exact rfl); (case c4 => exact rfl); k_whole; intro g' L' h' FG' F' N' B' X' T'; (try dsimp only); (try k_fold)))
  k_with "call ref" => (k_here; (with_reducible show wpAny _ _ (call (Value.ref 56) [Value.str _ _]) _ _ _); k_dflt (refine' issp_C _ _ _ _ _ _ _ _ _ _ _ _ _ _ _ _ _ _ _ _ _ _ _ _ ?k1 ?k2 ?k3 ?k5 ?kK ?k4 ?kd ?ku ?q0 ?_; (case k1 => k_asm); (case k2 => k_asm); (case k3 => k_asm); (case k5 => k_asm); (case kK => first | exact rfl | assumption); (case k4 => k_asm); (case kd => ktr_room); (case ku => ktr_units); (case q0 => first | rfl | assumption)); intro h9 tk9 F9 N9; (try dsimp only))
  k_with "subscriptTail" => (k_here; (with_reducible show wpAny _ _ (subscriptTail _ _ (Value.str _ _) (Value.int _ _)) _ _ _); (refine KXi.item rfl (by omega) (by omega) (by omega) ?_); intro kxiE)
  k_with "exec While BoolOp" => k_extra "exec While BoolOp cons nil"
  k_with "exec While BoolOp cons nil" =>
    (rename Fr _ _ _ _ => lF')
    (rename News _ _ _ _ => lN')
    (k_here)
    (with_unfolding_all refine' ksw_while (fun (c : Int × Tok) => (cx, instObj 270 cd) :: (cd, curO text h1 h2 k1 k2 tt c.1 c.2) :: news) (fun _ => []) (fun _ => True) [] (fun c => To isSp text p c.1) (fun c => (text.length - c.1).toNat) (p, tp) lF' ?kn ?kf ?kk ?kp ?_)
    (case kn => exact lN')
    (case kf => exact True.intro)
    (case kk => exact List.forall_mem_nil _)
    (case kp => exact to_0 hp2)
    (clear lF' lN')
    (intro c kU kH kTk kFa kI kF kN)
    (obtain ⟨c, ct⟩ := c)
    (dsimp only at kI kN)
    (have k0 : 0 ≤ c := Int.le_trans hp kI.1)
    (have k1 : c ≤ text.length := kI.2.1)
  k_steps
  · (rename Fr _ _ _ _ => hF)
    (rename News _ _ _ _ => hN)
    (rename isSp _ = true => q)
    (rename c < (_ : Int) => q2)
    exact ksw_end (c + 1, _) hF hN (fun p hp => hp) trivial (List.forall_mem_nil _) (fun z _ _ => rfl) (to_next kI hp q2 q) (by dsimp only; omega)
  · (rename isSp _ = false => q)
    (rename c < (_ : Int) => q2)
    refine ret c _ _ _ _ kI (fun _ => by rw [item_cp2 k0 q2] at q; exact q) (by k_asm) (by k_asm)
  · refine ret c _ _ _ _ kI (fun _ => by omega) (by k_asm) (by k_asm)
end
section
open PySem.Calls
theorem asc {t : Str} {k : Int} (h0 : 0 ≤ k) (hj : k < t.length) (h : t.cps.getD k.toNat 0 < 128) : cp0 (Txt.item t k) < 128 := by rw [item_cp2 h0 hj]; exact h
set_option maxHeartbeats 2000000 in
theorem name_C : ∀ (w : World) (mean : ExcName → Option Value) (mg mb : Str → Option Value) (dp un : Nat) (gd : Option (List Code)) (cn : Str) (cs : Scope) (a : Addr) (ccd : Value) (outer : List Env) (A₀ : Around) (base h₀ : Heap) (L : Addr) (m : Str → Option Value) (s : Shared) (Q E : Value → Shared → Prop) (news : List (Addr × Obj))
    (cx cd : Addr) (text : Str) (p : Int) (h1 h2 : Int) (k1 k2 tt tp : Tok),
    Below A₀ base outer h₀ → Fr h₀ L s.heap m → (Mine.hd.heap_39 w.params).In h₀ → Top Mine.view (looseW Mine.view Mine.looseN) mean mg mb h₀ → cs.kind = .function → News h₀ L s.heap ((cx, instObj 270 cd) :: (cd, curO text h1 h2 k1 k2 tt p tp) :: news) → (∀ q ∈ news, q.1 ≠ cd) → @Ne Nat cx cd →
    dp + 10 < 880 → un + 80 < 8800 → text.length ≤ 1048576 → 0 ≤ p → p ≤ text.length →
    (p < text.length → text.cps.getD p.toNat 0 < 128) → (∀ c : Int, To isNc text (p + 1) c → c < text.length → text.cps.getD c.toNat 0 < 128) →
    (∀ (c : Int) (t tc : Tok) (h' : Heap) (tk' : Nat), p < text.length → isNs (text.cps.getD p.toNat 0) = true → To isNc text (p + 1) c → (c < text.length → isNc (text.cps.getD c.toNat 0) = false) → (Txt.slice text (some p) (some c)).length ≤ text.length → Fr h₀ L h' m → News h₀ L h' ((cx, instObj 270 cd) :: (cd, curO text h1 h2 k1 k2 tt c tc) :: news) → Q (.str (Txt.slice text (some p) (some c)) t) { s with heap := h', toks := tk' }) →
    (∀ (g h' : Heap) (e D : Addr) (od : Obj) (tk' : Nat) (nw : List (Addr × Obj)), (p < text.length → isNs (text.cps.getD p.toNat 0) = false) → Fr h₀ L g m → FaultDict od p →
      RaisedM base g (envOf cn cs L a ccd :: outer) e D ((D, od) :: (((cx, instObj 270 cd) :: (cd, curO text h1 h2 k1 k2 tt p tp) :: news) ++ nw)) h' → g.UpToSlots h' → E (.ref e) { s with heap := h', toks := tk' }) →
    wpAny (model PySem.Challenge.rw_xw0205_01.row.prog w) (ktrTop dp un gd cn cs L a ccd [] outer) (call (.ref 253) [.ref cx]) Q E s := by
  k_with_none
  w_top off
  k_fill
  intro w mean mg mb dp un gd cn cs a ccd outer A₀ base h₀ L m s Q E news cx cd text p h1 h2 k1 k2 tt tp B F X T hk N hne hcd hd hu hl hp hp2 ha1 ha2 ret err
  refine wpAny_call ?_
  (k_dflt (refine' code_def (binds := [(Str.ofString "self", .ref cx)]) ?k1 ?k2 ?k3 ?k4 ?k5 ?kA ?kF ?kK ?k6 ?k7 ?k8 ?k9 ?kB ?_ ?c2 ?c3 ?c4 ?c5; (case kA => exact rfl); (case kF => exact rfl); (case kK => assumption); (case k1 => k_asm); (case k2 => k_asm); (case k3 => k_asm); (case k4 => k_asm); (case k5 => k_asm); (case k6 => k_is); (case k7 => k_is); (case k8 => ktr_room); (case k9 => first | exact BindsTo.of_eq rfl | exact binds_K (by k_in) rfl (by k_is) rfl rfl rfl); (case c5 => decide); (case kB => exact locs rfl); (case c2 => exact rfl); (case c3 => exact rfl); (case c4 => exact rfl); k_whole; intro g' L' h' FG' F' N' B' X' T'; (try dsimp only); (try k_fold)))
  k_with "exec Raise some none" => (k_here; (with_reducible show wpAny _ _ (exec (Stmt.Raise (some (PySem.Expr.Call (PySem.Expr.Name (Str.ofString "SyntaxFault") _) _ [] _)) none _) _) _ _ _); (with_reducible rename Frag.In _ _ => kX9); k_dflt (refine raise_M kX9 (by kts_isx) (by rfl) ?_))
  k_with "call ref" => (k_here; (with_reducible show wpAny _ _ (call (Value.ref 122) [Value.str _ _, Value.int _ _]) _ _ _); k_dflt (refine' fault_K _ _ _ _ _ _ _ _ _ _ _ _ _ _ _ _ _ _ _ _ _ _ _ _ _ _ ?k1 ?k2 ?k3 ?k5 ?kK ?k4 ?kd ?ku ?_; (case k1 => k_asm); (case k2 => k_asm); (case k3 => k_asm); (case k5 => k_asm); (case kK => first | exact rfl | assumption); (case k4 => k_asm); (case kd => ktr_room); (case ku => ktr_units)); intro e9 t9 D9 od9 h9 tk9 fd9 F9 N9 ne9; k_dflt (refine' ⟨e9, t9, D9, rfl, Frag.In.keeps ?kx (Fr.keep F9), (N9 _ (List.Mem.head _)).1, ?_⟩; (case kx => k_asm)); (try dsimp only))
  k_with "leaving ref" => (k_here; k_dflt (first | (refine' leave_raiseM ?k1 ?k2 ?k3 ?k0 ?_ ?hk; (case k3 => assumption); (case k2 => assumption); (case k1 => assumption); (case k0 => assumption); (case hk => rfl); k_whole; intro h' R' U'; (try dsimp only at R' U' ⊢)) | (refine' leave_onM ?k1 ?k2 ?k3 ?k4 ?_; (case k3 => assumption); (case k2 => assumption); (case k1 => assumption); (case k4 => assumption); k_whole; intro h' R' U'; (try dsimp only at R' U' ⊢))))
  k_with "call ref" => (k_here; (with_reducible show wpAny _ _ (call (Value.ref 77) [Value.str _ _]) _ _ _); k_dflt (refine' isns_C _ _ _ _ _ _ _ _ _ _ _ _ _ _ _ _ _ _ _ _ _ _ _ _ ?k1 ?k2 ?k3 ?k5 ?kK ?k4 ?kd ?ku ?q0 ?q1 ?_; (case k1 => k_asm); (case k2 => k_asm); (case k3 => k_asm); (case k5 => k_asm); (case kK => first | exact rfl | assumption); (case k4 => k_asm); (case kd => ktr_room); (case ku => ktr_units); (case q0 => first | rfl | assumption); (case q1 => first | assumption | omega | k_extra "ascii")); intro h9 tk9 F9 N9; (try dsimp only))
  k_with "call ref" => (k_here; (with_reducible show wpAny _ _ (call (Value.ref 84) [Value.str _ _]) _ _ _); k_dflt (refine' isnc_C _ _ _ _ _ _ _ _ _ _ _ _ _ _ _ _ _ _ _ _ _ _ _ _ ?k1 ?k2 ?k3 ?k5 ?kK ?k4 ?kd ?ku ?q0 ?q1 ?_; (case k1 => k_asm); (case k2 => k_asm); (case k3 => k_asm); (case k5 => k_asm); (case kK => first | exact rfl | assumption); (case k4 => k_asm); (case kd => ktr_room); (case ku => ktr_units); (case q0 => first | rfl | assumption); (case q1 => first | assumption | omega | k_extra "ascii")); intro h9 tk9 F9 N9; (try dsimp only))
  k_with "subscriptTail" => (k_here; (with_reducible show wpAny _ _ (subscriptTail _ _ (Value.str _ _) (Value.int _ _)) _ _ _); (refine KXi.item rfl (by omega) (by omega) (by omega) ?_); intro kxiE)
  k_with "exec While BoolOp" => k_extra "exec While BoolOp cons nil"
  k_with "ascii" => (first | exact asc (by omega) (by omega) (ha1 (by omega)) | exact asc (by omega) (by omega) (ha2 _ (by assumption) (by omega)))
  k_with "exec While BoolOp cons nil" =>
    (rename Fr _ _ _ _ => lF')
    (rename News _ _ _ _ => lN')
    (k_here)
    (with_unfolding_all refine' ksw_while (fun (c : Int × Tok) => (cx, instObj 270 cd) :: (cd, curO text h1 h2 k1 k2 tt c.1 c.2) :: news) (fun _ => []) (fun _ => True) [] (fun c => To isNc text (p + 1) c.1) (fun c => (text.length - c.1).toNat) (p + 1, ?tp) lF' ?kn ?kf ?kk ?kp ?_)
    (case kn => exact lN')
    (case kf => exact True.intro)
    (case kk => exact List.forall_mem_nil _)
    (case kp => exact to_0 (by omega))
    (clear lF' lN')
    (intro c kU kH kTk kFa kI kF kN)
    (obtain ⟨c, ct⟩ := c)
    (dsimp only at kI kN)
    (have kk0 : 0 ≤ c := Int.le_trans (by omega) kI.1)
    (have kk1 : c ≤ text.length := kI.2.1)
  k_steps
  · (rename (_ : Int) ≤ p => q)
    (with_reducible rename RaisedM _ _ _ _ _ _ _ => hR)
    (with_reducible rename Heap.UpToSlots _ _ => hU)
    (with_reducible rename FaultDict _ _ => hD)
    (with_reducible rename Fr h₀ L _ m => hF)
    exact err _ _ _ _ _ _ [] (fun h => absurd h (by omega)) hF hD (by rw [List.append_nil]; exact hR) hU
  · (rename Fr _ _ _ _ => hF)
    (rename News _ _ _ _ => hN)
    (rename isNc _ = true => q)
    (rename c < (_ : Int) => q2)
    exact ksw_end (c + 1, _) hF hN (fun p hp => hp) trivial (List.forall_mem_nil _) (fun z _ _ => rfl) (to_next kI (by omega) q2 q) (by dsimp only; omega)
  · (rename ¬ (_ : Int) ≤ p => q0)
    (rename isNs _ = true => q)
    (rename isNc _ = false => q3)
    (rename c < (_ : Int) => q2)
    refine ret c _ _ _ _ (by omega) (by rw [item_cp2 hp (by omega)] at q; exact q) kI (fun _ => by rw [item_cp2 kk0 q2] at q3; exact q3) (by assumption) (by k_asm) (by k_asm)
  · (rename ¬ (_ : Int) ≤ p => q0)
    (rename isNs _ = true => q)
    (rename ¬ (c < (_ : Int)) => q2)
    refine ret c _ _ _ _ (by omega) (by rw [item_cp2 hp (by omega)] at q; exact q) kI (fun h => absurd h q2) (by assumption) (by k_asm) (by k_asm)
  · (rename ¬ (_ : Int) ≤ p => q0)
    (rename isNs _ = false => q)
    (with_reducible rename RaisedM _ _ _ _ _ _ _ => hR)
    (with_reducible rename Heap.UpToSlots _ _ => hU)
    (with_reducible rename FaultDict _ _ => hD)
    (with_reducible rename Fr h₀ L _ m => hF)
    exact err _ _ _ _ _ _ [] (fun h => by rw [item_cp2 hp h] at q; exact q) hF hD (by rw [List.append_nil]; exact hR) hU
set_option maxHeartbeats 2000000 in
theorem needsp_C : ∀ (w : World) (mean : ExcName → Option Value) (mg mb : Str → Option Value) (dp un : Nat) (gd : Option (List Code)) (cn : Str) (cs : Scope) (a : Addr) (ccd : Value) (outer : List Env) (A₀ : Around) (base h₀ : Heap) (L : Addr) (m : Str → Option Value) (s : Shared) (Q E : Value → Shared → Prop) (news : List (Addr × Obj))
    (cx cd : Addr) (text : Str) (p : Int) (h1 h2 : Int) (k1 k2 tt tp : Tok),
    Below A₀ base outer h₀ → Fr h₀ L s.heap m → (Mine.hd.heap_39 w.params).In h₀ → Top Mine.view (looseW Mine.view Mine.looseN) mean mg mb h₀ → cs.kind = .function → News h₀ L s.heap ((cx, instObj 270 cd) :: (cd, curO text h1 h2 k1 k2 tt p tp) :: news) → (∀ q ∈ news, q.1 ≠ cd) → @Ne Nat cx cd →
    dp + 10 < 880 → un + 80 < 8800 → text.length ≤ 1048576 → 0 ≤ p → p ≤ text.length →
    (∀ (c : Int) (tc : Tok) (h' : Heap) (tk' : Nat), 0 ≤ c → c ≤ text.length → p < c → To isSp text p c → (c < text.length → isSp (text.cps.getD c.toNat 0) = false) → Fr h₀ L h' m → News h₀ L h' ((cx, instObj 270 cd) :: (cd, curO text h1 h2 k1 k2 tt c tc) :: news) → Q .none { s with heap := h', toks := tk' }) →
    (∀ (g h' : Heap) (e D : Addr) (od : Obj) (tc : Tok) (tk' : Nat) (nw : List (Addr × Obj)), (p < text.length → isSp (text.cps.getD p.toNat 0) = false) → Fr h₀ L g m → FaultDict od p →
      RaisedM base g (envOf cn cs L a ccd :: outer) e D ((D, od) :: (((cx, instObj 270 cd) :: (cd, curO text h1 h2 k1 k2 tt p tc) :: news) ++ nw)) h' → g.UpToSlots h' → E (.ref e) { s with heap := h', toks := tk' }) →
    wpAny (model PySem.Challenge.rw_xw0205_01.row.prog w) (ktrTop dp un gd cn cs L a ccd [] outer) (call (.ref 246) [.ref cx]) Q E s := by
  w_top off
  k_fill
  intro w mean mg mb dp un gd cn cs a ccd outer A₀ base h₀ L m s Q E news cx cd text p h1 h2 k1 k2 tt tp B F X T hk N hne hcd hd hu hl hp hp2 ret err
  refine wpAny_call ?_
  (k_dflt (refine' code_def (binds := [(Str.ofString "self", .ref cx)]) ?k1 ?k2 ?k3 ?k4 ?k5 ?kA ?kF ?kK ?k6 ?k7 ?k8 ?k9 ?kB ?_ ?c2 ?c3 ?c4 ?c5; (case kA => exact rfl); (case kF => exact rfl); (case kK => assumption); (case k1 => k_asm); (case k2 => k_asm); (case k3 => k_asm); (case k4 => k_asm); (case k5 => k_asm); (case k6 => k_is); (case k7 => k_is); (case k8 => ktr_room); (case k9 => first | exact BindsTo.of_eq rfl | exact binds_K (by k_in) rfl (by k_is) rfl rfl rfl); (case c5 => decide); (case kB => exact locs rfl); (case c2 => exact rfl); (case c3 => exact rfl); (case c4 => exact rfl); k_whole; intro g' L' h' FG' F' N' B' X' T'; (try dsimp only); (try k_fold)))
  k_with "exec Raise some none" => (k_here; (with_reducible show wpAny _ _ (exec (Stmt.Raise (some (PySem.Expr.Call (PySem.Expr.Name (Str.ofString "SyntaxFault") _) _ [] _)) none _) _) _ _ _); (with_reducible rename Frag.In _ _ => kX9); k_dflt (refine raise_M kX9 (by kts_isx) (by rfl) ?_))
  k_with "call ref" => (k_here; (with_reducible show wpAny _ _ (call (Value.ref 122) [Value.str _ _, Value.int _ _]) _ _ _); k_dflt (refine' fault_K _ _ _ _ _ _ _ _ _ _ _ _ _ _ _ _ _ _ _ _ _ _ _ _ _ _ ?k1 ?k2 ?k3 ?k5 ?kK ?k4 ?kd ?ku ?_; (case k1 => k_asm); (case k2 => k_asm); (case k3 => k_asm); (case k5 => k_asm); (case kK => first | exact rfl | assumption); (case k4 => k_asm); (case kd => ktr_room); (case ku => ktr_units)); intro e9 t9 D9 od9 h9 tk9 fd9 F9 N9 ne9; k_dflt (refine' ⟨e9, t9, D9, rfl, Frag.In.keeps ?kx (Fr.keep F9), (N9 _ (List.Mem.head _)).1, ?_⟩; (case kx => k_asm)); (try dsimp only))
  k_with "leaving ref" => (k_here; k_dflt (first | (refine' leave_raiseM ?k1 ?k2 ?k3 ?k0 ?_ ?hk; (case k3 => assumption); (case k2 => assumption); (case k1 => assumption); (case k0 => assumption); (case hk => rfl); k_whole; intro h' R' U'; (try dsimp only at R' U' ⊢)) | (refine' leave_onM ?k1 ?k2 ?k3 ?k4 ?_; (case k3 => assumption); (case k2 => assumption); (case k1 => assumption); (case k4 => assumption); k_whole; intro h' R' U'; (try dsimp only at R' U' ⊢))))
  k_with "call ref" => (k_here; (with_reducible show wpAny _ _ (call (Value.ref 77) [Value.str _ _]) _ _ _); k_dflt (refine' isns_C _ _ _ _ _ _ _ _ _ _ _ _ _ _ _ _ _ _ _ _ _ _ _ _ ?k1 ?k2 ?k3 ?k5 ?kK ?k4 ?kd ?ku ?q0 ?q1 ?_; (case k1 => k_asm); (case k2 => k_asm); (case k3 => k_asm); (case k5 => k_asm); (case kK => first | exact rfl | assumption); (case k4 => k_asm); (case kd => ktr_room); (case ku => ktr_units); (case q0 => first | rfl | assumption); (case q1 => first | assumption | omega | k_extra "ascii")); intro h9 tk9 F9 N9; (try dsimp only))
  k_with "call ref" => (k_here; (with_reducible show wpAny _ _ (call (Value.ref 84) [Value.str _ _]) _ _ _); k_dflt (refine' isnc_C _ _ _ _ _ _ _ _ _ _ _ _ _ _ _ _ _ _ _ _ _ _ _ _ ?k1 ?k2 ?k3 ?k5 ?kK ?k4 ?kd ?ku ?q0 ?q1 ?_; (case k1 => k_asm); (case k2 => k_asm); (case k3 => k_asm); (case k5 => k_asm); (case kK => first | exact rfl | assumption); (case k4 => k_asm); (case kd => ktr_room); (case ku => ktr_units); (case q0 => first | rfl | assumption); (case q1 => first | assumption | omega | k_extra "ascii")); intro h9 tk9 F9 N9; (try dsimp only))
  k_with "subscriptTail" => (k_here; (with_reducible show wpAny _ _ (subscriptTail _ _ (Value.str _ _) (Value.int _ _)) _ _ _); (refine KXi.item rfl (by omega) (by omega) (by omega) ?_); intro kxiE)
  k_with "exec While BoolOp" => k_extra "exec While BoolOp cons nil"
  k_with "call ref" => (k_here; (with_reducible show wpAny _ _ (call (Value.ref 239) _) _ _ _); k_dflt (refine' spaces_C _ _ _ _ _ _ _ _ _ _ _ _ _ _ _ _ _ _ _ _ _ _ _ _ _ _ _ _ _ _ _ _ ?k1 ?k2 ?k3 ?k5 ?kK ?k4 ?hne ?hcd ?kd ?ku ?h1 ?h2 ?h3 ?_; (case k1 => k_asm); (case k2 => k_asm); (case k3 => k_asm); (case k5 => k_asm); (case kK => first | exact rfl | assumption); (case k4 => k_asm); (case hne => k_all); (case hcd => k_ne); (case kd => ktr_room); (case ku => ktr_units); (case h1 => omega); (case h2 => omega); (case h3 => omega)); intro c8 t8 tc8 h8 tk8 hto8 hen8 F8 N8; (try dsimp only))
  k_steps
  · (rename c8 - p = 0 => q)
    have e : c8 = p := by omega
    subst e
    (with_reducible rename RaisedM _ _ _ _ _ _ _ => hR)
    (with_reducible rename Heap.UpToSlots _ _ => hU)
    (with_reducible rename FaultDict _ _ => hD)
    (with_reducible rename Fr h₀ L _ m => hF)
    exact err _ _ _ _ _ _ _ [] hen8 hF hD (by rw [List.append_nil]; exact hR) hU
  · (rename c8 - p ≠ 0 => q)
    have := hto8.1
    exact ret c8 _ _ _ (by omega) hto8.2.1 (by omega) hto8 hen8 (by k_asm) (by k_asm)
end
section
open PySem.Calls
/-- what a reading comes to: a fault at a place, or a text and the place behind -/
inductive Res where
  | fault (p : Int)
  | found (t : Str) (p : Int)
def firstBad (t : Str) : Option Nat := t.cps.toList.findIdx? fun c => !okChar c
theorem firstBad_some {t : Str} {k : Nat} (hk : k < t.length) (h : OkTo t k) (hb : okChar (t.cps.getD k 0) = false) : firstBad t = some k := by
  have hk' : k < t.cps.toList.length := by rw [Array.length_toList]; exact hk
  have hks : k < t.cps.size := hk
  unfold firstBad
  rw [List.findIdx?_eq_some_iff_getElem]
  refine ⟨hk', ?_, fun j hj => ?_⟩
  · have : t.cps.getD k 0 = t.cps.toList[k] := by simp [Array.getD, hks]
    rw [← this, hb]; rfl
  · have hjs : j < t.cps.size := Nat.lt_trans hj hks
    have e := h j hj
    have : t.cps.getD j 0 = t.cps.toList[j]'(by rw [Array.length_toList]; exact hjs) := by simp [Array.getD, hjs]
    rw [this] at e
    simpa using e
theorem firstBad_none {t : Str} (h : OkTo t t.length) : firstBad t = none := by
  unfold firstBad
  rw [List.findIdx?_eq_none_iff]
  intro c hc
  obtain ⟨j, hj, rfl⟩ := List.getElem_of_mem hc
  have hjs : j < t.cps.size := by rw [← Array.length_toList]; exact hj
  have e := h j hjs
  have : t.cps.getD j 0 = t.cps.toList[j] := by simp [Array.getD, hjs]
  rw [this] at e
  simpa using e
def behind (x : Str) (p e : Int) (done : Str → Res) : Res :=
  if e < 0 then .fault p else match firstBad (Txt.slice x (some p) (some e)) with
    | some k => .fault (p + (k : Int))
    | none => done (Txt.slice x (some p) (some e))
abbrev wl (z : String) : Int := (((Str.ofString z).length : Nat) : Int)
def comment (x : Str) (a : Int) : Res :=
  if Txt.startswith3 x (Str.ofString "<!--") a = true then
    behind x (a + wl "<!--") (Txt.find3 x (Str.ofString "--") (a + wl "<!--")) fun t =>
      if Txt.startswith3 x (Str.ofString ">") (Txt.find3 x (Str.ofString "--") (a + wl "<!--") + wl "--") = true then
        .found t (Txt.find3 x (Str.ofString "--") (a + wl "<!--") + wl "--" + wl ">")
      else .fault (Txt.find3 x (Str.ofString "--") (a + wl "<!--") + wl "--")
  else .fault a
def cdata (x : Str) (a : Int) : Res :=
  if Txt.startswith3 x (Str.ofString "<![CDATA[") a = true then
    behind x (a + wl "<![CDATA[") (Txt.find3 x (Str.ofString "]]>") (a + wl "<![CDATA[")) fun t =>
      .found t (Txt.find3 x (Str.ofString "]]>") (a + wl "<![CDATA[") + wl "]]>")
  else .fault a
theorem find3_le (x y : Str) (i : Int) : Txt.find3 x y i ≤ x.length := by
  unfold Txt.find3
  rcases StrLaws.occ_head_from x y (PySem.fromIndex x.length i) 1 (Nat.le_refl 1) with ⟨e, _⟩ | ⟨k, r, e, _, h, _⟩
  · rw [e]
    show (-1 : Int) ≤ _
    omega
  · rw [e]
    have := h.1
    show ((k : Nat) : Int) ≤ _
    omega
end
section
open PySem.Calls
set_option maxHeartbeats 1000000 in
theorem skip_C : ∀ (w : World) (mean : ExcName → Option Value) (mg mb : Str → Option Value) (dp un : Nat) (gd : Option (List Code)) (cn : Str) (cs : Scope) (a : Addr) (ccd : Value) (cl : List (Str × Addr)) (outer : List Env) (A₀ : Around) (base h₀ : Heap) (L : Addr) (m : Str → Option Value) (s : Shared) (Q E : Value → Shared → Prop) (news : List (Addr × Obj))
    (cx cd : Addr) (text ww : Str) (p : Int) (h1 h2 : Int) (k1 k2 tt tp tw : Tok),
    Below A₀ base outer h₀ → Fr h₀ L s.heap m → (Mine.hd.heap_39 w.params).In h₀ → Top Mine.view (looseW Mine.view Mine.looseN) mean mg mb h₀ → cs.kind = .function → News h₀ L s.heap ((cx, instObj 270 cd) :: (cd, curO text h1 h2 k1 k2 tt p tp) :: news) → (∀ q ∈ news, q.1 ≠ cd) → @Ne Nat cx cd →
    dp + 4 < 890 → un + 40 < 8900 → 0 ≤ p → p ≤ 2000000 → ww.length ≤ 100 →
    (∀ (tc : Tok) (h' : Heap) (tk' : Nat), Txt.startswith3 text ww p = true → Fr h₀ L h' m → News h₀ L h' ((cx, instObj 270 cd) :: (cd, curO text h1 h2 k1 k2 tt (p + ww.length) tc) :: news) → Q (.bool true) { s with heap := h', toks := tk' }) →
    (∀ (h' : Heap) (tk' : Nat), Txt.startswith3 text ww p = false → Fr h₀ L h' m → News h₀ L h' ((cx, instObj 270 cd) :: (cd, curO text h1 h2 k1 k2 tt p tp) :: news) → Q (.bool false) { s with heap := h', toks := tk' }) →
    wpAny (model PySem.Challenge.rw_xw0205_01.row.prog w) (ktrTop dp un gd cn cs L a ccd cl outer) (call (.ref 211) [.ref cx, .str ww tw]) Q E s := by
  k_with_none
  w_top off
  k_fill
  intro w mean mg mb dp un gd cn cs a ccd cl outer A₀ base h₀ L m s Q E news cx cd text ww p h1 h2 k1 k2 tt tp tw B F X T hk N hne hcd hd hu hp hp2 hw retT retF
  refine wpAny_call ?_
  (k_dflt (refine' code_def (binds := [(Str.ofString "self", .ref cx), (Str.ofString "word", .str ww tw)]) ?k1 ?k2 ?k3 ?k4 ?k5 ?kA ?kF ?kK ?k6 ?k7 ?k8 ?k9 ?kB ?_ ?c2 ?c3 ?c4 ?c5; (case kA => exact rfl); (case kF => exact rfl); (case kK => assumption); (case k1 => k_asm); (case k2 => k_asm); (case k3 => k_asm); (case k4 => k_asm); (case k5 => k_asm); (case k6 => k_is); (case k7 => k_is); (case k8 => ktr_room); (case k9 => first | exact BindsTo.of_eq rfl | exact binds_K (by k_in) rfl (by k_is) rfl rfl rfl); (case c5 => decide); (case kB => exact locs rfl); (case c2 => exact rfl); (case c3 => exact rfl); (case c4 => exact rfl); k_whole; intro g' L' h' FG' F' N' B' X' T'; (try dsimp only); (try k_fold)))
  k_with "call builtin:len" => (k_here; (with_reducible show wpAny _ _ (call (Value.builtin "len") [Value.str _ _]) _ _ _); refine SBL.len (by omega) ?_)
  k_steps
  · exact retT _ _ _ (by assumption) (by k_asm) (by k_asm)
  · exact retF _ _ (by assumption) (by k_asm) (by k_asm)
theorem k_msg1 : (Str.ofString "there should be ").length ≤ 100 := by decide +kernel
theorem k_msg2 : (Str.ofString "there is no ").length ≤ 100 := by decide +kernel
set_option maxHeartbeats 1000000 in
theorem expect_C : ∀ (w : World) (mean : ExcName → Option Value) (mg mb : Str → Option Value) (dp un : Nat) (gd : Option (List Code)) (cn : Str) (cs : Scope) (a : Addr) (ccd : Value) (outer : List Env) (A₀ : Around) (base h₀ : Heap) (L : Addr) (m : Str → Option Value) (s : Shared) (Q E : Value → Shared → Prop) (news : List (Addr × Obj))
    (cx cd : Addr) (text ww : Str) (p : Int) (h1 h2 : Int) (k1 k2 tt tp tw : Tok),
    Below A₀ base outer h₀ → Fr h₀ L s.heap m → (Mine.hd.heap_39 w.params).In h₀ → Top Mine.view (looseW Mine.view Mine.looseN) mean mg mb h₀ → cs.kind = .function → News h₀ L s.heap ((cx, instObj 270 cd) :: (cd, curO text h1 h2 k1 k2 tt p tp) :: news) → (∀ q ∈ news, q.1 ≠ cd) → @Ne Nat cx cd →
    dp + 8 < 885 → un + 70 < 8850 → 0 ≤ p → p ≤ 2000000 → ww.length ≤ 100 →
    (∀ (tc : Tok) (h' : Heap) (tk' : Nat), Txt.startswith3 text ww p = true → Fr h₀ L h' m → News h₀ L h' ((cx, instObj 270 cd) :: (cd, curO text h1 h2 k1 k2 tt (p + ww.length) tc) :: news) → Q .none { s with heap := h', toks := tk' }) →
    (∀ (g h' : Heap) (e D : Addr) (od : Obj) (tk' : Nat) (nw : List (Addr × Obj)), Txt.startswith3 text ww p = false → (∀ q ∈ news, q ∈ nw) → Fr h₀ L g m → FaultDict od p →
      RaisedM base g (envOf cn cs L a ccd :: outer) e D ((D, od) :: nw) h' → g.UpToSlots h' → E (.ref e) { s with heap := h', toks := tk' }) →
    wpAny (model PySem.Challenge.rw_xw0205_01.row.prog w) (ktrTop dp un gd cn cs L a ccd [] outer) (call (.ref 218) [.ref cx, .str ww tw]) Q E s := by
  w_top off
  k_fill
  intro w mean mg mb dp un gd cn cs a ccd outer A₀ base h₀ L m s Q E news cx cd text ww p h1 h2 k1 k2 tt tp tw B F X T hk N hne hcd hd hu hp hp2 hw ret err
  refine wpAny_call ?_
  (k_dflt (refine' code_def (binds := [(Str.ofString "self", .ref cx), (Str.ofString "word", .str ww tw)]) ?k1 ?k2 ?k3 ?k4 ?k5 ?kA ?kF ?kK ?k6 ?k7 ?k8 ?k9 ?kB ?_ ?c2 ?c3 ?c4 ?c5; (case kA => exact rfl); (case kF => exact rfl); (case kK => assumption); (case k1 => k_asm); (case k2 => k_asm); (case k3 => k_asm); (case k4 => k_asm); (case k5 => k_asm); (case k6 => k_is); (case k7 => k_is); (case k8 => ktr_room); (case k9 => first | exact BindsTo.of_eq rfl | exact binds_K (by k_in) rfl (by k_is) rfl rfl rfl); (case c5 => decide); (case kB => exact locs rfl); (case c2 => exact rfl); (case c3 => exact rfl); (case c4 => exact rfl); k_whole; intro g' L' h' FG' F' N' B' X' T'; (try dsimp only); (try k_fold)))
  k_with "exec Raise some none" => (k_here; (with_reducible show wpAny _ _ (exec (Stmt.Raise (some (PySem.Expr.Call (PySem.Expr.Name (Str.ofString "SyntaxFault") _) _ [] _)) none _) _) _ _ _); (with_reducible rename Frag.In _ _ => kX9); k_dflt (refine raise_M kX9 (by kts_isx) (by rfl) ?_))
  k_with "call ref" => (k_here; (with_reducible show wpAny _ _ (call (Value.ref 122) [Value.str _ _, Value.int _ _]) _ _ _); k_dflt (refine' fault_K _ _ _ _ _ _ _ _ _ _ _ _ _ _ _ _ _ _ _ _ _ _ _ _ _ _ ?k1 ?k2 ?k3 ?k5 ?kK ?k4 ?kd ?ku ?_; (case k1 => k_asm); (case k2 => k_asm); (case k3 => k_asm); (case k5 => k_asm); (case kK => first | exact rfl | assumption); (case k4 => k_asm); (case kd => ktr_room); (case ku => ktr_units)); intro e9 t9 D9 od9 h9 tk9 fd9 F9 N9 ne9; k_dflt (refine' ⟨e9, t9, D9, rfl, Frag.In.keeps ?kx (Fr.keep F9), (N9 _ (List.Mem.head _)).1, ?_⟩; (case kx => k_asm)); (try dsimp only))
  k_with "leaving ref" => (k_here; k_dflt (first | (refine' leave_raiseM ?k1 ?k2 ?k3 ?k0 ?_ ?hk; (case k3 => assumption); (case k2 => assumption); (case k1 => assumption); (case k0 => assumption); (case hk => rfl); k_whole; intro h' R' U'; (try dsimp only at R' U' ⊢)) | (refine' leave_onM ?k1 ?k2 ?k3 ?k4 ?_; (case k3 => assumption); (case k2 => assumption); (case k1 => assumption); (case k4 => assumption); k_whole; intro h' R' U'; (try dsimp only at R' U' ⊢))))
  k_with "call ref" => (k_here; (with_reducible show wpAny _ _ (call (Value.ref 211) _) _ _ _); k_dflt (refine' skip_C _ _ _ _ _ _ _ _ _ _ _ _ _ _ _ _ _ _ _ _ _ _ _ _ _ _ _ _ _ _ _ _ _ _ ?k1 ?k2 ?k3 ?k5 ?kK ?k4 ?p0 ?p1 ?kd ?ku ?q0 ?q1 ?q2 ?_ ?_; (case k1 => k_asm); (case k2 => k_asm); (case k3 => k_asm); (case k5 => k_asm); (case kK => first | exact rfl | assumption); (case k4 => k_asm); (case p0 => k_all); (case p1 => k_ne); (case kd => ktr_room); (case ku => ktr_units); (case q0 => omega); (case q1 => omega); (case q2 => first | assumption | exact Nat.le_of_ble_eq_true (by kernel_rfl) | omega)); intro tc9 h9 tk9 hs9 F9 N9; (try dsimp only); rotate_left; intro h9 tk9 hs9 F9 N9; (try dsimp only))
  k_with "binaryOp Add str str" => (k_here; (with_reducible show wpAny _ _ (binaryOp Operator.Add (Value.str _ _) (Value.str _ _)) _ _ _); (refine KXadd.add (K := 100) (L := 100) (by first | exact k_msg1 | exact k_msg2) hw (by decide) ?_); intro t7 k7 hln7; (try dsimp only))
  k_steps
  · (with_reducible rename RaisedM _ _ _ _ _ _ _ => hR)
    (with_reducible rename Heap.UpToSlots _ _ => hU)
    (with_reducible rename FaultDict _ _ => hD)
    (with_reducible rename Fr h₀ L _ m => hF)
    exact err _ _ _ _ _ _ _ (by assumption) (fun q hq => .tail _ (.tail _ hq)) hF hD hR hU
  · exact ret _ _ _ (by assumption) (by k_asm) (by k_asm)
set_option maxHeartbeats 1000000 in
theorem until_C : ∀ (w : World) (mean : ExcName → Option Value) (mg mb : Str → Option Value) (dp un : Nat) (gd : Option (List Code)) (cn : Str) (cs : Scope) (a : Addr) (ccd : Value) (outer : List Env) (A₀ : Around) (base h₀ : Heap) (L : Addr) (m : Str → Option Value) (s : Shared) (Q E : Value → Shared → Prop) (news : List (Addr × Obj))
    (cx cd : Addr) (text ww : Str) (p : Int) (h1 h2 : Int) (k1 k2 tt tp tw : Tok),
    Below A₀ base outer h₀ → Fr h₀ L s.heap m → (Mine.hd.heap_39 w.params).In h₀ → Top Mine.view (looseW Mine.view Mine.looseN) mean mg mb h₀ → cs.kind = .function → News h₀ L s.heap ((cx, instObj 270 cd) :: (cd, curO text h1 h2 k1 k2 tt p tp) :: news) → (∀ q ∈ news, q.1 ≠ cd) → @Ne Nat cx cd →
    dp + 8 < 885 → un + 70 < 8850 → 0 ≤ p → p ≤ 2000000 → text.length ≤ 1048576 → ww.length ≤ 100 →
    (∀ (t tc : Tok) (h' : Heap) (tk' : Nat), ¬ Txt.find3 text ww p < 0 → (Txt.slice text (some p) (some (Txt.find3 text ww p))).length ≤ text.length → Fr h₀ L h' m → News h₀ L h' ((cx, instObj 270 cd) :: (cd, curO text h1 h2 k1 k2 tt (Txt.find3 text ww p + ww.length) tc) :: news) → Q (.str (Txt.slice text (some p) (some (Txt.find3 text ww p))) t) { s with heap := h', toks := tk' }) →
    (∀ (g h' : Heap) (e D : Addr) (od : Obj) (tk' : Nat) (nw : List (Addr × Obj)), Txt.find3 text ww p < 0 → (∀ q ∈ news, q ∈ nw) → Fr h₀ L g m → FaultDict od p →
      RaisedM base g (envOf cn cs L a ccd :: outer) e D ((D, od) :: nw) h' → g.UpToSlots h' → E (.ref e) { s with heap := h', toks := tk' }) →
    wpAny (model PySem.Challenge.rw_xw0205_01.row.prog w) (ktrTop dp un gd cn cs L a ccd [] outer) (call (.ref 225) [.ref cx, .str ww tw]) Q E s := by
  w_top off
  k_fill
  intro w mean mg mb dp un gd cn cs a ccd outer A₀ base h₀ L m s Q E news cx cd text ww p h1 h2 k1 k2 tt tp tw B F X T hk N hne hcd hd hu hp hp2 hl hw ret err
  refine wpAny_call ?_
  (k_dflt (refine' code_def (binds := [(Str.ofString "self", .ref cx), (Str.ofString "word", .str ww tw)]) ?k1 ?k2 ?k3 ?k4 ?k5 ?kA ?kF ?kK ?k6 ?k7 ?k8 ?k9 ?kB ?_ ?c2 ?c3 ?c4 ?c5; (case kA => exact rfl); (case kF => exact rfl); (case kK => assumption); (case k1 => k_asm); (case k2 => k_asm); (case k3 => k_asm); (case k4 => k_asm); (case k5 => k_asm); (case k6 => k_is); (case k7 => k_is); (case k8 => ktr_room); (case k9 => first | exact BindsTo.of_eq rfl | exact binds_K (by k_in) rfl (by k_is) rfl rfl rfl); (case c5 => decide); (case kB => exact locs rfl); (case c2 => exact rfl); (case c3 => exact rfl); (case c4 => exact rfl); k_whole; intro g' L' h' FG' F' N' B' X' T'; (try dsimp only); (try k_fold)))
  have hfl := find3_le text ww p
  k_steps
  · (with_reducible rename RaisedM _ _ _ _ _ _ _ => hR)
    (with_reducible rename Heap.UpToSlots _ _ => hU)
    (with_reducible rename FaultDict _ _ => hD)
    (with_reducible rename Fr h₀ L _ m => hF)
    exact err _ _ _ _ _ _ _ (by assumption) (fun q hq => .tail _ (.tail _ hq)) hF hD hR hU
  · exact ret _ _ _ _ (by assumption) (by assumption) (by k_asm) (by k_asm)
end
section
open PySem.Calls
/-- what the call of a reader f upon a cursor (text x, place a) does: a fault at p with Pf p, or a value v (its new objects nw) with Pg v nw p, the cursor at p -/
def Reads (w : World) (mean : ExcName → Option Value) (mg mb : Str → Option Value) (f : Addr) (x : Str) (a₁ : Int) (Pf : Int → Prop) (Pg : Value → List (Addr × Obj) → Int → Prop) : Prop :=
  ∀ (dp un : Nat) (gd : Option (List Code)) (cn : Str) (cs : Scope) (a : Addr) (ccd : Value) (outer : List Env) (A₀ : Around) (base h₀ : Heap) (L : Addr) (m : Str → Option Value) (s : Shared) (Q E : Value → Shared → Prop) (news : List (Addr × Obj))
    (cx cd : Addr) (h1 h2 : Int) (k1 k2 tt tp : Tok),
    Below A₀ base outer h₀ → Fr h₀ L s.heap m → (Mine.hd.heap_39 w.params).In h₀ → Top Mine.view (looseW Mine.view Mine.looseN) mean mg mb h₀ → cs.kind = .function → News h₀ L s.heap ((cx, instObj 270 cd) :: (cd, curO x h1 h2 k1 k2 tt a₁ tp) :: news) → (∀ q ∈ news, q.1 ≠ cd) → @Ne Nat cx cd →
    dp + 20 < 870 → un + 300 < 8600 →
    (∀ (v : Value) (nw : List (Addr × Obj)) (p : Int) (tp' : Tok) (h' : Heap) (tk' : Nat), Pg v nw p → Fr h₀ L h' m → News h₀ L h' (nw ++ (cx, instObj 270 cd) :: (cd, curO x h1 h2 k1 k2 tt p tp') :: news) → Q v { s with heap := h', toks := tk' }) →
    (∀ (g h' : Heap) (e D : Addr) (od : Obj) (tk' : Nat) (nw : List (Addr × Obj)) (p : Int), Pf p → (∀ q ∈ news, q ∈ nw) → Fr h₀ L g m → FaultDict od p → RaisedM base g (envOf cn cs L a ccd :: outer) e D ((D, od) :: nw) h' → g.UpToSlots h' → E (.ref e) { s with heap := h', toks := tk' }) →
    wpAny (model PySem.Challenge.rw_xw0205_01.row.prog w) (ktrTop dp un gd cn cs L a ccd [] outer) (call (.ref f) [.ref cx]) Q E s
theorem k_w1 : (Str.ofString "<!--").length = 4 := by decide +kernel
theorem k_w2 : (Str.ofString "--").length = 2 := by decide +kernel
theorem k_w3 : (Str.ofString ">").length = 1 := by decide +kernel
theorem k_w4 : (Str.ofString "<![CDATA[").length = 9 := by decide +kernel
theorem k_w5 : (Str.ofString "]]>").length = 3 := by decide +kernel
theorem k_w6 : (Str.ofString "<?").length = 2 := by decide +kernel
theorem k_w7 : (Str.ofString "?>").length = 2 := by decide +kernel
def CommentF (x : Str) (a : Int) (p : Int) : Prop := comment x a = .fault p
def CommentG (x : Str) (a : Int) (v : Value) (nw : List (Addr × Obj)) (p : Int) : Prop := ∃ t b t1 t2, v = .ref b ∧ nw = [(b, tupO #[.str (Str.ofString "comment") t1, .str t t2])] ∧ comment x a = .found t p
set_option maxHeartbeats 2000000 in
theorem comment_R : ∀ (w : World) (mean : ExcName → Option Value) (mg mb : Str → Option Value) (x : Str) (a₁ : Int), 0 ≤ a₁ → a₁ ≤ 1048000 → x.length ≤ 1048000 → Reads w mean mg mb 309 x a₁ (CommentF x a₁) (CommentG x a₁) := by
  unfold Reads
  k_with_none
  w_top off
  k_fill
  intro w mean mg mb x a₁ ha0 ha1 hxl dp un gd cn cs a ccd outer A₀ base h₀ L m s Q E news cx cd h1 h2 k1 k2 tt tp B F X T hk N hne hcd hd hu retG retF
  refine wpAny_call ?_
  (k_dflt (refine' code_def (binds := [(Str.ofString "cursor", .ref cx)]) ?k1 ?k2 ?k3 ?k4 ?k5 ?kA ?kF ?kK ?k6 ?k7 ?k8 ?k9 ?kB ?_ ?c2 ?c3 ?c4 ?c5; (case kA => exact rfl); (case kF => exact rfl); (case kK => assumption); (case k1 => k_asm); (case k2 => k_asm); (case k3 => k_asm); (case k4 => k_asm); (case k5 => k_asm); (case k6 => k_is); (case k7 => k_is); (case k8 => ktr_room); (case k9 => first | exact BindsTo.of_eq rfl | exact binds_K (by k_in) rfl (by k_is) rfl rfl rfl); (case c5 => decide); (case kB => exact locs rfl); (case c2 => exact rfl); (case c3 => exact rfl); (case c4 => exact rfl); k_whole; intro g' L' h' FG' F' N' B' X' T'; (try dsimp only); (try k_fold)))
  k_with "exec Raise some none" => (k_here; (with_reducible show wpAny _ _ (exec (Stmt.Raise (some (PySem.Expr.Call (PySem.Expr.Name (Str.ofString "SyntaxFault") _) _ [] _)) none _) _) _ _ _); (with_reducible rename Frag.In _ _ => kX9); k_dflt (refine raise_M kX9 (by kts_isx) (by rfl) ?_))
  k_with "call ref" => (k_here; (with_reducible show wpAny _ _ (call (Value.ref 122) [Value.str _ _, Value.int _ _]) _ _ _); k_dflt (refine' fault_K _ _ _ _ _ _ _ _ _ _ _ _ _ _ _ _ _ _ _ _ _ _ _ _ _ _ ?k1 ?k2 ?k3 ?k5 ?kK ?k4 ?kd ?ku ?_; (case k1 => k_asm); (case k2 => k_asm); (case k3 => k_asm); (case k5 => k_asm); (case kK => first | exact rfl | assumption); (case k4 => k_asm); (case kd => ktr_room); (case ku => ktr_units)); intro e9 t9 D9 od9 h9 tk9 fd9 F9 N9 ne9; k_dflt (refine' ⟨e9, t9, D9, rfl, Frag.In.keeps ?kx (Fr.keep F9), (N9 _ (List.Mem.head _)).1, ?_⟩; (case kx => k_asm)); (try dsimp only))
  k_with "leaving ref" => (k_here; k_dflt (first | (refine' leave_raiseM ?k1 ?k2 ?k3 ?k0 ?_ ?hk; (case k3 => assumption); (case k2 => assumption); (case k1 => assumption); (case k0 => assumption); (case hk => rfl); k_whole; intro h' R' U'; (try dsimp only at R' U' ⊢)) | (refine' leave_onM ?k1 ?k2 ?k3 ?k4 ?_; (case k3 => assumption); (case k2 => assumption); (case k1 => assumption); (case k4 => assumption); k_whole; intro h' R' U'; (try dsimp only at R' U' ⊢))))
  k_with "call ref" => (k_here; (with_reducible show wpAny _ _ (call (Value.ref 218) _) _ _ _); k_dflt (refine' expect_C _ _ _ _ _ _ _ _ _ _ _ _ _ _ _ _ _ _ _ _ _ _ _ _ _ _ _ _ _ _ _ _ _ ?k1 ?k2 ?k3 ?k5 ?kK ?k4 ?p0 ?p1 ?kd ?ku ?q0 ?q1 ?q2 ?_ ?_; (case k1 => k_asm); (case k2 => k_asm); (case k3 => k_asm); (case k5 => k_asm); (case kK => first | exact rfl | assumption); (case k4 => k_asm); (case p0 => k_all); (case p1 => k_ne); (case kd => ktr_room); (case ku => ktr_units); (case q0 => omega); (case q1 => omega); (case q2 => first | assumption | exact Nat.le_of_ble_eq_true (by kernel_rfl) | omega)); intro tc9 h9 tk9 hs9 F9 N9; (try dsimp only); rotate_left; intro g9 h9 e9 D9 od9 tk9 nw9 hs9 hnw9 F9 fd9 R9 U9; (try dsimp only))
  k_with "call ref" => (k_here; (with_reducible show wpAny _ _ (call (Value.ref 225) _) _ _ _); k_dflt (refine' until_C _ _ _ _ _ _ _ _ _ _ _ _ _ _ _ _ _ _ _ _ _ _ _ _ _ _ _ _ _ _ _ _ _ ?k1 ?k2 ?k3 ?k5 ?kK ?k4 ?p0 ?p1 ?kd ?ku ?q0 ?q1 ?q2 ?q3 ?_ ?_; (case k1 => k_asm); (case k2 => k_asm); (case k3 => k_asm); (case k5 => k_asm); (case kK => first | exact rfl | assumption); (case k4 => k_asm); (case p0 => k_all); (case p1 => k_ne); (case kd => ktr_room); (case ku => ktr_units); (case q0 => omega); (case q1 => omega); (case q2 => omega); (case q3 => first | assumption | exact Nat.le_of_ble_eq_true (by kernel_rfl) | omega)); intro t9 tc9 h9 tk9 hs9 hl9 F9 N9; (try dsimp only); rotate_left; intro g9 h9 e9 D9 od9 tk9 nw9 hs9 hnw9 F9 fd9 R9 U9; (try dsimp only))
  k_with "call ref" => (k_here; (with_reducible show wpAny _ _ (call (Value.ref 131) [Value.str _ _, Value.int _ _]) _ _ _); k_dflt (refine' check_C _ _ _ _ _ _ _ _ _ _ _ _ _ _ _ _ _ _ _ _ _ _ _ _ _ ?k1 ?k2 ?k3 ?k5 ?kK ?k4 ?kd ?ku ?q0 ?q1 ?q2 ?_ ?_; (case k1 => k_asm); (case k2 => k_asm); (case k3 => k_asm); (case k5 => k_asm); (case kK => first | exact rfl | assumption); (case k4 => k_asm); (case kd => ktr_room); (case ku => ktr_units); (case q0 => omega); (case q1 => omega); (case q2 => omega)); intro h9 tk9 hto9 F9 N9; (try dsimp only); rotate_left; intro k9 g9 h9 e9 D9 od9 tk9 nw9 hk9 hto9 hb9 F9 fd9 R9 U9; (try dsimp only))
  have kw1 := k_w1
  have kw2 := k_w2
  have kw3 := k_w3
  have hfl := find3_le x (Str.ofString "--") (a₁ + (((Str.ofString "<!--").length : Nat) : Int))
  k_steps
  · (rename Txt.startswith3 _ (Str.ofString "<!--") _ = false => hs)
    (with_reducible rename RaisedM _ _ _ _ _ _ _ => hR)
    (with_reducible rename Heap.UpToSlots _ _ => hU)
    (with_reducible rename FaultDict _ _ => hD)
    (with_reducible rename Fr h₀ L _ m => hF)
    refine retF _ _ _ _ _ _ _ _ ?_ (fun q hq => by first | exact hnw9 q hq | exact .tail _ (.tail _ hq) | exact List.mem_append_left _ (.tail _ (.tail _ hq))) hF hD hR hU
    unfold CommentF comment
    rw [if_neg (by rw [hs]; decide)]
  · (rename Txt.startswith3 _ (Str.ofString "<!--") _ = true => hs)
    (rename Txt.find3 _ _ _ < 0 => hl)
    (with_reducible rename RaisedM _ _ _ _ _ _ _ => hR)
    (with_reducible rename Heap.UpToSlots _ _ => hU)
    (with_reducible rename FaultDict _ _ => hD)
    (with_reducible rename Fr h₀ L _ m => hF)
    refine retF _ _ _ _ _ _ _ _ ?_ (fun q hq => by first | exact hnw9 q hq | exact .tail _ (.tail _ hq) | exact List.mem_append_left _ (.tail _ (.tail _ hq))) hF hD hR hU
    unfold CommentF comment behind
    rw [if_pos hs, if_pos hl]
  · (rename Txt.startswith3 _ (Str.ofString "<!--") _ = true => hs)
    (rename ¬ (Txt.find3 _ _ _ < 0) => hl)
    (rename okChar _ = false => hb)
    (rename OkTo _ _ => hto)
    (with_reducible rename RaisedM _ _ _ _ _ _ _ => hR)
    (with_reducible rename Heap.UpToSlots _ _ => hU)
    (with_reducible rename FaultDict _ _ => hD)
    (with_reducible rename Fr h₀ L _ m => hF)
    refine retF _ _ _ _ _ _ _ _ ?_ (fun q hq => by first | exact hnw9 q hq | exact .tail _ (.tail _ hq) | exact List.mem_append_left _ (.tail _ (.tail _ hq))) hF hD hR hU
    unfold CommentF comment behind
    rw [if_pos hs, if_neg hl, firstBad_some (by assumption) hto hb]
  · (rename Txt.startswith3 _ (Str.ofString "<!--") _ = true => hs)
    (rename Txt.startswith3 _ (Str.ofString ">") _ = false => hg)
    (rename ¬ (Txt.find3 _ _ _ < 0) => hl)
    (rename OkTo _ _ => hto)
    (with_reducible rename RaisedM _ _ _ _ _ _ _ => hR)
    (with_reducible rename Heap.UpToSlots _ _ => hU)
    (with_reducible rename FaultDict _ _ => hD)
    (with_reducible rename Fr h₀ L _ m => hF)
    refine retF _ _ _ _ _ _ _ _ ?_ (fun q hq => by first | exact hnw9 q hq | exact .tail _ (.tail _ hq) | exact List.mem_append_left _ (.tail _ (.tail _ hq))) hF hD hR hU
    unfold CommentF comment behind
    rw [if_pos hs, if_neg hl, firstBad_none hto]
    dsimp only
    rw [if_neg (by rw [hg]; decide)]
  · (rename News _ _ _ _ => kN)
    (rename Fr _ _ _ _ => kF)
    (rename Txt.startswith3 _ (Str.ofString "<!--") _ = true => hs)
    (rename Txt.startswith3 _ (Str.ofString ">") _ = true => hg)
    (rename ¬ (Txt.find3 _ _ _ < 0) => hl)
    (rename OkTo _ _ => hto)
    refine retG _ [_] _ _ _ _ ⟨_, _, _, _, rfl, rfl, ?_⟩ kF kN
    unfold comment behind
    rw [if_pos hs, if_neg hl, firstBad_none hto]
    dsimp only
    rw [if_pos hg]
def CdataF (x : Str) (a : Int) (p : Int) : Prop := cdata x a = .fault p
def CdataG (x : Str) (a : Int) (v : Value) (nw : List (Addr × Obj)) (p : Int) : Prop := ∃ t t1, v = .str t t1 ∧ nw = [] ∧ cdata x a = .found t p
set_option maxHeartbeats 2000000 in
theorem cdata_R : ∀ (w : World) (mean : ExcName → Option Value) (mg mb : Str → Option Value) (x : Str) (a₁ : Int), 0 ≤ a₁ → a₁ ≤ 1048000 → x.length ≤ 1048000 → Reads w mean mg mb 323 x a₁ (CdataF x a₁) (CdataG x a₁) := by
  unfold Reads
  w_top off
  k_fill
  intro w mean mg mb x a₁ ha0 ha1 hxl dp un gd cn cs a ccd outer A₀ base h₀ L m s Q E news cx cd h1 h2 k1 k2 tt tp B F X T hk N hne hcd hd hu retG retF
  refine wpAny_call ?_
  (k_dflt (refine' code_def (binds := [(Str.ofString "cursor", .ref cx)]) ?k1 ?k2 ?k3 ?k4 ?k5 ?kA ?kF ?kK ?k6 ?k7 ?k8 ?k9 ?kB ?_ ?c2 ?c3 ?c4 ?c5; (case kA => exact rfl); (case kF => exact rfl); (case kK => assumption); (case k1 => k_asm); (case k2 => k_asm); (case k3 => k_asm); (case k4 => k_asm); (case k5 => k_asm); (case k6 => k_is); (case k7 => k_is); (case k8 => ktr_room); (case k9 => first | exact BindsTo.of_eq rfl | exact binds_K (by k_in) rfl (by k_is) rfl rfl rfl); (case c5 => decide); (case kB => exact locs rfl); (case c2 => exact rfl); (case c3 => exact rfl); (case c4 => exact rfl); k_whole; intro g' L' h' FG' F' N' B' X' T'; (try dsimp only); (try k_fold)))
  have kw1 := k_w4
  have kw2 := k_w5
  have hfl := find3_le x (Str.ofString "]]>") (a₁ + (((Str.ofString "<![CDATA[").length : Nat) : Int))
  k_steps
  · (rename Txt.startswith3 _ (Str.ofString "<![CDATA[") _ = false => hs)
    (with_reducible rename RaisedM _ _ _ _ _ _ _ => hR)
    (with_reducible rename Heap.UpToSlots _ _ => hU)
    (with_reducible rename FaultDict _ _ => hD)
    (with_reducible rename Fr h₀ L _ m => hF)
    refine retF _ _ _ _ _ _ _ _ ?_ (fun q hq => by first | exact hnw9 q hq | exact .tail _ (.tail _ hq) | exact List.mem_append_left _ (.tail _ (.tail _ hq))) hF hD hR hU
    unfold CdataF cdata
    rw [if_neg (by rw [hs]; decide)]
  · (rename Txt.startswith3 _ (Str.ofString "<![CDATA[") _ = true => hs)
    (rename Txt.find3 _ _ _ < 0 => hl)
    (with_reducible rename RaisedM _ _ _ _ _ _ _ => hR)
    (with_reducible rename Heap.UpToSlots _ _ => hU)
    (with_reducible rename FaultDict _ _ => hD)
    (with_reducible rename Fr h₀ L _ m => hF)
    refine retF _ _ _ _ _ _ _ _ ?_ (fun q hq => by first | exact hnw9 q hq | exact .tail _ (.tail _ hq) | exact List.mem_append_left _ (.tail _ (.tail _ hq))) hF hD hR hU
    unfold CdataF cdata behind
    rw [if_pos hs, if_pos hl]
  · (rename Txt.startswith3 _ (Str.ofString "<![CDATA[") _ = true => hs)
    (rename ¬ (Txt.find3 _ _ _ < 0) => hl)
    (rename okChar _ = false => hb)
    (rename OkTo _ _ => hto)
    (with_reducible rename RaisedM _ _ _ _ _ _ _ => hR)
    (with_reducible rename Heap.UpToSlots _ _ => hU)
    (with_reducible rename FaultDict _ _ => hD)
    (with_reducible rename Fr h₀ L _ m => hF)
    refine retF _ _ _ _ _ _ _ _ ?_ (fun q hq => by first | exact hnw9 q hq | exact .tail _ (.tail _ hq) | exact List.mem_append_left _ (.tail _ (.tail _ hq))) hF hD hR hU
    unfold CdataF cdata behind
    rw [if_pos hs, if_neg hl, firstBad_some (by assumption) hto hb]
  · (rename News _ _ _ _ => kN)
    (rename Fr _ _ _ _ => kF)
    (rename Txt.startswith3 _ (Str.ofString "<![CDATA[") _ = true => hs)
    (rename ¬ (Txt.find3 _ _ _ < 0) => hl)
    (rename OkTo _ _ => hto)
    refine retG _ [] _ _ _ _ ⟨_, _, rfl, rfl, ?_⟩ kF kN
    unfold cdata behind
    rw [if_pos hs, if_neg hl, firstBad_none hto]
end
section
open PySem.Calls
theorem sw_len {x y : Str} {i : Int} (h0 : 0 ≤ i) (h : Txt.startswith3 x y i = true) : i + y.length ≤ x.length := by
  unfold Txt.startswith3 at h
  rw [Bool.and_eq_true] at h
  have := of_decide_eq_true h.1
  unfold PySem.fromIndex at this
  rw [if_neg (by omega)] at this
  omega
theorem len_q : (Str.ofString "<?").length = 2 := by decide +kernel
inductive ResI where
  | fault (p : Int)
  | found (t d : Str) (p : Int)
def scan (f : Nat → Bool) (t : Str) (p : Int) : Int := p + ((((t.cps.toList.drop p.toNat).takeWhile f).length : Nat) : Int)
theorem take_to {f : Nat → Bool} : ∀ {l : List Nat} {n : Nat}, (∀ j : Nat, (h : j < l.length) → j < n → f l[j] = true) → n ≤ l.length → ((h : n < l.length) → f l[n] = false) → (l.takeWhile f).length = n
  | [], n, _, hn, _ => by simp at hn; simp [hn]
  | x :: l, 0, _, _, h2 => by
    have e := h2 (by simp)
    simp at e
    simp [List.takeWhile, e]
  | x :: l, n + 1, h1, hn, h2 => by
    have e := h1 0 (by simp) (by omega)
    simp at e
    have r := take_to (f := f) (l := l) (n := n) (fun j hj hj' => by
        have := h1 (j + 1) (by simp; omega) (by omega)
        simpa using this) (by simp at hn; omega) (fun h => by
        have := h2 (by simp; omega)
        simpa using this)
    simp [List.takeWhile, e, r]
theorem scan_eq {f : Nat → Bool} {t : Str} {p c : Int} (h0 : 0 ≤ p) (h : To f t p c) (he : c < t.length → f (t.cps.getD c.toNat 0) = false) : scan f t p = c := by
  obtain ⟨a, b, d⟩ := h
  have hsz : t.length = t.cps.size := rfl
  have gt : ∀ j : Nat, (hj : j < t.cps.size) → t.cps.getD j 0 = t.cps.toList[j]'(by rw [Array.length_toList]; exact hj) := fun j hj => by simp [Array.getD, hj]
  have e := take_to (f := f) (l := t.cps.toList.drop p.toNat) (n := (c - p).toNat) (fun j hj hj' => by
      rw [List.length_drop, Array.length_toList] at hj
      rw [List.getElem_drop, ← gt (p.toNat + j) (by omega)]
      exact d _ (by omega) (by omega)) (by rw [List.length_drop, Array.length_toList]; omega) (fun hj => by
      rw [List.length_drop, Array.length_toList] at hj
      rw [List.getElem_drop, ← gt (p.toNat + (c - p).toNat) (by omega)]
      rw [show p.toNat + (c - p).toNat = c.toNat by omega]
      exact he (by omega))
  unfold scan
  rw [e]
  omega
def instruction (x : Str) (a : Int) : ResI :=
  if Txt.startswith3 x (Str.ofString "<?") a = true then
    if a + wl "<?" < x.length ∧ isNs (x.cps.getD (a + wl "<?").toNat 0) = true then
      if (Txt.lower (Txt.slice x (some (a + wl "<?")) (some (scan isNc x (a + wl "<?" + 1)))) == Str.ofString "xml") = true then .fault (a + wl "<?")
      else if Txt.startswith3 x (Str.ofString "?>") (scan isNc x (a + wl "<?" + 1)) = true then .found (Txt.slice x (some (a + wl "<?")) (some (scan isNc x (a + wl "<?" + 1)))) (Str.ofString "") (scan isNc x (a + wl "<?" + 1) + wl "?>")
      else if scan isSp x (scan isNc x (a + wl "<?" + 1)) = scan isNc x (a + wl "<?" + 1) then .fault (scan isNc x (a + wl "<?" + 1))
      else match behind x (scan isSp x (scan isNc x (a + wl "<?" + 1))) (Txt.find3 x (Str.ofString "?>") (scan isSp x (scan isNc x (a + wl "<?" + 1)))) fun t => .found t (Txt.find3 x (Str.ofString "?>") (scan isSp x (scan isNc x (a + wl "<?" + 1))) + wl "?>") with
        | .fault p => .fault p
        | .found t p => .found (Txt.slice x (some (a + wl "<?")) (some (scan isNc x (a + wl "<?" + 1)))) t p
    else .fault (a + wl "<?")
  else .fault a
def InstrF (x : Str) (a : Int) (p : Int) : Prop := instruction x a = .fault p
def InstrG (x : Str) (a : Int) (v : Value) (nw : List (Addr × Obj)) (p : Int) : Prop := ∃ t d b t1 t2 t3, v = .ref b ∧ nw = [(b, tupO #[.str (Str.ofString "instruction") t1, .str t t2, .str d t3])] ∧ instruction x a = .found t d p
set_option maxHeartbeats 2000000 in
theorem instruction_R : ∀ (w : World) (mean : ExcName → Option Value) (mg mb : Str → Option Value) (x : Str) (a₁ : Int), 0 ≤ a₁ → a₁ ≤ 1048000 → x.length ≤ 1048000 →
    (a₁ + wl "<?" < x.length → x.cps.getD (a₁ + wl "<?").toNat 0 < 128) → (∀ c : Int, To isNc x (a₁ + wl "<?" + 1) c → c < x.length → x.cps.getD c.toNat 0 < 128) → Reads w mean mg mb 316 x a₁ (InstrF x a₁) (InstrG x a₁) := by
  unfold Reads
  k_with_none
  w_top off
  k_fill
  intro w mean mg mb x a₁ ha0 ha1 hxl as1 as2 dp un gd cn cs a ccd outer A₀ base h₀ L m s Q E news cx cd h1 h2 k1 k2 tt tp B F X T hk N hne hcd hd hu retG retF
  refine wpAny_call ?_
  (k_dflt (refine' code_def (binds := [(Str.ofString "cursor", .ref cx)]) ?k1 ?k2 ?k3 ?k4 ?k5 ?kA ?kF ?kK ?k6 ?k7 ?k8 ?k9 ?kB ?_ ?c2 ?c3 ?c4 ?c5; (case kA => exact rfl); (case kF => exact rfl); (case kK => assumption); (case k1 => k_asm); (case k2 => k_asm); (case k3 => k_asm); (case k4 => k_asm); (case k5 => k_asm); (case k6 => k_is); (case k7 => k_is); (case k8 => ktr_room); (case k9 => first | exact BindsTo.of_eq rfl | exact binds_K (by k_in) rfl (by k_is) rfl rfl rfl); (case c5 => decide); (case kB => exact locs rfl); (case c2 => exact rfl); (case c3 => exact rfl); (case c4 => exact rfl); k_whole; intro g' L' h' FG' F' N' B' X' T'; (try dsimp only); (try k_fold)))
  k_with "exec Raise some none" => (k_here; (with_reducible show wpAny _ _ (exec (Stmt.Raise (some (PySem.Expr.Call (PySem.Expr.Name (Str.ofString "SyntaxFault") _) _ [] _)) none _) _) _ _ _); (with_reducible rename Frag.In _ _ => kX9); k_dflt (refine raise_M kX9 (by kts_isx) (by rfl) ?_))
  k_with "call ref" => (k_here; (with_reducible show wpAny _ _ (call (Value.ref 122) [Value.str _ _, Value.int _ _]) _ _ _); k_dflt (refine' fault_K _ _ _ _ _ _ _ _ _ _ _ _ _ _ _ _ _ _ _ _ _ _ _ _ _ _ ?k1 ?k2 ?k3 ?k5 ?kK ?k4 ?kd ?ku ?_; (case k1 => k_asm); (case k2 => k_asm); (case k3 => k_asm); (case k5 => k_asm); (case kK => first | exact rfl | assumption); (case k4 => k_asm); (case kd => ktr_room); (case ku => ktr_units)); intro e9 t9 D9 od9 h9 tk9 fd9 F9 N9 ne9; k_dflt (refine' ⟨e9, t9, D9, rfl, Frag.In.keeps ?kx (Fr.keep F9), (N9 _ (List.Mem.head _)).1, ?_⟩; (case kx => k_asm)); (try dsimp only))
  k_with "leaving ref" => (k_here; k_dflt (first | (refine' leave_raiseM ?k1 ?k2 ?k3 ?k0 ?_ ?hk; (case k3 => assumption); (case k2 => assumption); (case k1 => assumption); (case k0 => assumption); (case hk => rfl); k_whole; intro h' R' U'; (try dsimp only at R' U' ⊢)) | (refine' leave_onM ?k1 ?k2 ?k3 ?k4 ?_; (case k3 => assumption); (case k2 => assumption); (case k1 => assumption); (case k4 => assumption); k_whole; intro h' R' U'; (try dsimp only at R' U' ⊢))))
  k_with "call ref" => (k_here; (with_reducible show wpAny _ _ (call (Value.ref 211) _) _ _ _); k_dflt (refine' skip_C _ _ _ _ _ _ _ _ _ _ _ _ _ _ _ _ _ _ _ _ _ _ _ _ _ _ _ _ _ _ _ _ _ _ ?k1 ?k2 ?k3 ?k5 ?kK ?k4 ?p0 ?p1 ?kd ?ku ?q0 ?q1 ?q2 ?_ ?_; (case k1 => k_asm); (case k2 => k_asm); (case k3 => k_asm); (case k5 => k_asm); (case kK => first | exact rfl | assumption); (case k4 => k_asm); (case p0 => k_all); (case p1 => k_ne); (case kd => ktr_room); (case ku => ktr_units); (case q0 => omega); (case q1 => omega); (case q2 => first | assumption | exact Nat.le_of_ble_eq_true (by kernel_rfl) | omega)); intro tc9 h9 tk9 hs9 F9 N9; (try dsimp only); rotate_left; intro h9 tk9 hs9 F9 N9; (try dsimp only))
  k_with "call ref" => (k_here; (with_reducible show wpAny _ _ (call (Value.ref 218) _) _ _ _); k_dflt (refine' expect_C _ _ _ _ _ _ _ _ _ _ _ _ _ _ _ _ _ _ _ _ _ _ _ _ _ _ _ _ _ _ _ _ _ ?k1 ?k2 ?k3 ?k5 ?kK ?k4 ?p0 ?p1 ?kd ?ku ?q0 ?q1 ?q2 ?_ ?_; (case k1 => k_asm); (case k2 => k_asm); (case k3 => k_asm); (case k5 => k_asm); (case kK => first | exact rfl | assumption); (case k4 => k_asm); (case p0 => k_all); (case p1 => k_ne); (case kd => ktr_room); (case ku => ktr_units); (case q0 => omega); (case q1 => omega); (case q2 => first | assumption | exact Nat.le_of_ble_eq_true (by kernel_rfl) | omega)); intro tc9 h9 tk9 hs9 F9 N9; (try dsimp only); rotate_left; intro g9 h9 e9 D9 od9 tk9 nw9 hs9 hnw9 F9 fd9 R9 U9; (try dsimp only))
  k_with "call ref" => (k_here; (with_reducible show wpAny _ _ (call (Value.ref 225) _) _ _ _); k_dflt (refine' until_C _ _ _ _ _ _ _ _ _ _ _ _ _ _ _ _ _ _ _ _ _ _ _ _ _ _ _ _ _ _ _ _ _ ?k1 ?k2 ?k3 ?k5 ?kK ?k4 ?p0 ?p1 ?kd ?ku ?q0 ?q1 ?q2 ?q3 ?_ ?_; (case k1 => k_asm); (case k2 => k_asm); (case k3 => k_asm); (case k5 => k_asm); (case kK => first | exact rfl | assumption); (case k4 => k_asm); (case p0 => k_all); (case p1 => k_ne); (case kd => ktr_room); (case ku => ktr_units); (case q0 => omega); (case q1 => omega); (case q2 => omega); (case q3 => first | assumption | exact Nat.le_of_ble_eq_true (by kernel_rfl) | omega)); intro t9 tc9 h9 tk9 hs9 hl9 F9 N9; (try dsimp only); rotate_left; intro g9 h9 e9 D9 od9 tk9 nw9 hs9 hnw9 F9 fd9 R9 U9; (try dsimp only))
  k_with "call ref" => (k_here; (with_reducible show wpAny _ _ (call (Value.ref 131) [Value.str _ _, Value.int _ _]) _ _ _); k_dflt (refine' check_C _ _ _ _ _ _ _ _ _ _ _ _ _ _ _ _ _ _ _ _ _ _ _ _ _ ?k1 ?k2 ?k3 ?k5 ?kK ?k4 ?kd ?ku ?q0 ?q1 ?q2 ?_ ?_; (case k1 => k_asm); (case k2 => k_asm); (case k3 => k_asm); (case k5 => k_asm); (case kK => first | exact rfl | assumption); (case k4 => k_asm); (case kd => ktr_room); (case ku => ktr_units); (case q0 => omega); (case q1 => omega); (case q2 => omega)); intro h9 tk9 hto9 F9 N9; (try dsimp only); rotate_left; intro k9 g9 h9 e9 D9 od9 tk9 nw9 hk9 hto9 hb9 F9 fd9 R9 U9; (try dsimp only))
  k_with "call ref" => (k_here; (with_reducible show wpAny _ _ (call (Value.ref 253) _) _ _ _); k_dflt (refine' name_C _ _ _ _ _ _ _ _ _ _ _ _ _ _ _ _ _ _ _ _ _ _ _ _ _ _ _ _ _ _ _ ?k1 ?k2 ?k3 ?k5 ?kK ?k4 ?p0 ?p1 ?kd ?ku ?q0 ?q1 ?q2 ?q3 ?q4 ?_ ?_; (case k1 => k_asm); (case k2 => k_asm); (case k3 => k_asm); (case k5 => k_asm); (case kK => first | exact rfl | assumption); (case k4 => k_asm); (case p0 => k_all); (case p1 => k_ne); (case kd => ktr_room); (case ku => ktr_units); (case q0 => omega); (case q1 => omega); (case q2 => (have := sw_len ha0 (by assumption); omega)); (case q3 => exact as1); (case q4 => exact as2)); intro c7 t7 tc7 h7 tk7 hlt7 hns7 hto7 hen7 hsl7 F7 N7; k_dflt (have hc70 := hto7.1; have hc71 := hto7.2.1); (try dsimp only); rotate_left; intro g9 h9 e9 D9 od9 tk9 nw9 hbad9 F9 fd9 R9 U9; (try dsimp only))
  k_with "call ref" => (k_here; (with_reducible show wpAny _ _ (call (Value.ref 246) _) _ _ _); k_dflt (refine' needsp_C _ _ _ _ _ _ _ _ _ _ _ _ _ _ _ _ _ _ _ _ _ _ _ _ _ _ _ _ _ _ _ ?k1 ?k2 ?k3 ?k5 ?kK ?k4 ?p0 ?p1 ?kd ?ku ?q0 ?q1 ?q2 ?_ ?_; (case k1 => k_asm); (case k2 => k_asm); (case k3 => k_asm); (case k5 => k_asm); (case kK => first | exact rfl | assumption); (case k4 => k_asm); (case p0 => k_all); (case p1 => k_ne); (case kd => ktr_room); (case ku => ktr_units); (case q0 => omega); (case q1 => omega); (case q2 => omega)); intro c8 tc8 h8 tk8 hp8 hq8 hlt8 hto8 hen8 F8 N8; (have hfl8 := find3_le x (Str.ofString "?>") c8); (try dsimp only); rotate_left; intro g9 h9 e9 D9 od9 tc9 tk9 nw9 hbad9 F9 fd9 R9 U9; (try dsimp only))
  have kw1 := k_w6
  have kw2 := k_w7
  k_steps
  · (rename Txt.startswith3 _ (Str.ofString "<?") _ = _ => hs)
    (with_reducible rename RaisedM _ _ _ _ _ _ _ => hR)
    (with_reducible rename Heap.UpToSlots _ _ => hU)
    (with_reducible rename FaultDict _ _ => hD)
    (with_reducible rename Fr h₀ L _ m => hF)
    refine retF _ _ _ _ _ _ _ _ ?_ (fun q hq => by first | exact hnw9 q hq | exact .tail _ (.tail _ hq) | exact List.mem_append_left _ (.tail _ (.tail _ hq))) hF hD hR hU
    unfold InstrF instruction
    rw [if_neg (by rw [hs]; decide)]
  · (rename Txt.startswith3 _ (Str.ofString "<?") _ = _ => hs)
    (with_reducible rename RaisedM _ _ _ _ _ _ _ => hR)
    (with_reducible rename Heap.UpToSlots _ _ => hU)
    (with_reducible rename FaultDict _ _ => hD)
    (with_reducible rename Fr h₀ L _ m => hF)
    refine retF _ _ _ _ _ _ _ _ ?_ (fun q hq => by first | exact hnw9 q hq | exact .tail _ (.tail _ hq) | exact List.mem_append_left _ (.tail _ (.tail _ hq))) hF hD hR hU
    unfold InstrF instruction
    rw [if_pos hs, if_neg (fun h => by rw [hbad9 h.1] at h; exact absurd h.2 (by decide))]
  · skip
    (rename Txt.startswith3 _ (Str.ofString "<?") _ = _ => hs)
    have es := scan_eq (by omega) hto7 hen7
    (rename (Txt.lower _ == Str.ofString "xml") = _ => hx)
    (with_reducible rename RaisedM _ _ _ _ _ _ _ => hR)
    (with_reducible rename Heap.UpToSlots _ _ => hU)
    (with_reducible rename FaultDict _ _ => hD)
    (with_reducible rename Fr h₀ L _ m => hF)
    refine retF _ _ _ _ _ _ _ _ ?_ (fun q hq => by first | exact hnw9 q hq | exact .tail _ (.tail _ hq) | exact List.mem_append_left _ (.tail _ (.tail _ hq))) hF hD hR hU
    unfold InstrF instruction
    rw [if_pos hs, if_pos ⟨hlt7, hns7⟩, es, if_pos hx]
  · skip
    (rename Txt.startswith3 _ (Str.ofString "<?") _ = _ => hs)
    have es := scan_eq (by omega) hto7 hen7
    (rename (Txt.lower _ == Str.ofString "xml") = _ => hx)
    (rename Txt.startswith3 _ (Str.ofString "?>") _ = _ => hq)
    (with_reducible rename RaisedM _ _ _ _ _ _ _ => hR)
    (with_reducible rename Heap.UpToSlots _ _ => hU)
    (with_reducible rename FaultDict _ _ => hD)
    (with_reducible rename Fr h₀ L _ m => hF)
    refine retF _ _ _ _ _ _ _ _ ?_ (fun q hq => by first | exact hnw9 q hq | exact .tail _ (.tail _ hq) | exact List.mem_append_left _ (.tail _ (.tail _ hq))) hF hD hR hU
    unfold InstrF instruction
    rw [if_pos hs, if_pos ⟨hlt7, hns7⟩, es, if_neg (by rw [hx]; decide), if_neg (by rw [hq]; decide), if_pos (scan_eq (by omega) (to_0 hto7.2.1) hbad9)]
  · skip
    (rename Txt.startswith3 _ (Str.ofString "<?") _ = _ => hs)
    have es := scan_eq (by omega) hto7 hen7
    (rename (Txt.lower _ == Str.ofString "xml") = _ => hx)
    (rename Txt.startswith3 _ (Str.ofString "?>") _ = _ => hq)
    have es8 := scan_eq (by omega) hto8 hen8
    (rename Txt.find3 _ _ _ < 0 => hl)
    (with_reducible rename RaisedM _ _ _ _ _ _ _ => hR)
    (with_reducible rename Heap.UpToSlots _ _ => hU)
    (with_reducible rename FaultDict _ _ => hD)
    (with_reducible rename Fr h₀ L _ m => hF)
    refine retF _ _ _ _ _ _ _ _ ?_ (fun q hq => by first | exact hnw9 q hq | exact .tail _ (.tail _ hq) | exact List.mem_append_left _ (.tail _ (.tail _ hq))) hF hD hR hU
    unfold InstrF instruction
    rw [if_pos hs, if_pos ⟨hlt7, hns7⟩, es, if_neg (by rw [hx]; decide), if_neg (by rw [hq]; decide), es8, if_neg (by omega)]
    unfold behind
    rw [if_pos hl]
  · skip
    (rename Txt.startswith3 _ (Str.ofString "<?") _ = _ => hs)
    have es := scan_eq (by omega) hto7 hen7
    (rename (Txt.lower _ == Str.ofString "xml") = _ => hx)
    (rename Txt.startswith3 _ (Str.ofString "?>") _ = _ => hq)
    have es8 := scan_eq (by omega) hto8 hen8
    (rename ¬ (Txt.find3 _ _ _ < 0) => hl)
    (rename okChar _ = false => hb)
    (rename OkTo _ _ => hto)
    (with_reducible rename RaisedM _ _ _ _ _ _ _ => hR)
    (with_reducible rename Heap.UpToSlots _ _ => hU)
    (with_reducible rename FaultDict _ _ => hD)
    (with_reducible rename Fr h₀ L _ m => hF)
    refine retF _ _ _ _ _ _ _ _ ?_ (fun q hq => by first | exact hnw9 q hq | exact .tail _ (.tail _ hq) | exact List.mem_append_left _ (.tail _ (.tail _ hq))) hF hD hR hU
    unfold InstrF instruction
    rw [if_pos hs, if_pos ⟨hlt7, hns7⟩, es, if_neg (by rw [hx]; decide), if_neg (by rw [hq]; decide), es8, if_neg (by omega)]
    unfold behind
    rw [if_neg hl, firstBad_some (by assumption) hto hb]
  · (rename News _ _ _ _ => kN)
    (rename Fr _ _ _ _ => kF)
    (rename Txt.startswith3 _ (Str.ofString "<?") _ = _ => hs)
    have es := scan_eq (by omega) hto7 hen7
    (rename (Txt.lower _ == Str.ofString "xml") = _ => hx)
    (rename Txt.startswith3 _ (Str.ofString "?>") _ = _ => hq)
    have es8 := scan_eq (by omega) hto8 hen8
    (rename ¬ (Txt.find3 _ _ _ < 0) => hl)
    (rename OkTo _ _ => hto)
    refine retG _ [_] _ _ _ _ ⟨_, _, _, _, _, _, rfl, rfl, ?_⟩ kF kN
    unfold instruction
    rw [if_pos hs, if_pos ⟨hlt7, hns7⟩, es, if_neg (by rw [hx]; decide), if_neg (by rw [hq]; decide), es8, if_neg (by omega)]
    unfold behind
    rw [if_neg hl, firstBad_none hto]
  · (rename News _ _ _ _ => kN)
    (rename Fr _ _ _ _ => kF)
    (rename Txt.startswith3 _ (Str.ofString "<?") _ = _ => hs)
    have es := scan_eq (by omega) hto7 hen7
    (rename (Txt.lower _ == Str.ofString "xml") = _ => hx)
    (rename Txt.startswith3 _ (Str.ofString "?>") _ = _ => hq)
    refine retG _ [_] _ _ _ _ ⟨_, _, _, _, _, _, rfl, rfl, ?_⟩ kF kN
    unfold instruction
    rw [if_pos hs, if_pos ⟨hlt7, hns7⟩, es, if_neg (by rw [hx]; decide), if_pos hq]
end
section
open PySem.Calls
theorem led_mem {l l' : List (Addr × Obj)} {x : Addr × Obj} (h : ∀ p ∈ l, p ∈ l') {p : Addr × Obj} (hp : p ∈ x :: l) : p ∈ x :: l' := by
  rcases List.mem_cons.mp hp with rfl | hp
  · exact .head _
  · exact .tail _ (h p hp)
set_option maxHeartbeats 2000000 in
theorem heard_C : ∀ (w : World) (mean : ExcName → Option Value) (mg mb : Str → Option Value) (dp un : Nat) (gd : Option (List Code)) (cn : Str) (cs : Scope) (a : Addr) (ccd : Value) (outer : List Env) (A₀ : Around) (base h₀ : Heap) (L : Addr) (m : Str → Option Value) (s : Shared) (Q E : Value → Shared → Prop) (news : List (Addr × Obj))
    (text : Str) (at_ : Int) (tt ta : Tok) (f : Addr) (Pf : Int → Prop) (Pg : Value → List (Addr × Obj) → Int → Prop),
    Below A₀ base outer h₀ → Fr h₀ L s.heap m → (Mine.hd.heap_39 w.params).In h₀ → Top Mine.view (looseW Mine.view Mine.looseN) mean mg mb h₀ → cs.kind = .function → (Mine.hd.heap_39 w.params).In base → Top Mine.view (looseW Mine.view Mine.looseN) mean mg mb base → KtsDicts (outer.filterMap (·.frame)) h₀ → News h₀ L s.heap news → Reads w mean mg mb f text at_ Pf Pg → keepIn (Mine.hd.heap_39 w.params) (.ref f) = true →
    dp + 24 < 868 → un + 400 < 8600 →
    (∀ (h₁ h' : Heap) (tk' : Nat) (p : Int) (a : Addr) (t1 t2 : Tok), Pf p → KtsTurn (outer.filterMap (·.frame)) h₀ h₁ → Below A₀ base outer h₁ → (Mine.hd.heap_39 w.params).In h₁ → Top Mine.view (looseW Mine.view Mine.looseN) mean mg mb h₁ → KtsDicts (outer.filterMap (·.frame)) h₁ → Fr h₁ L h' m → News h₁ L h' ((a, tupO #[.str (Str.ofString "fault") t1, .int p t2]) :: news) → Q (.ref a) { s with heap := h', toks := tk' }) →
    (∀ (h₁ h' : Heap) (tk' : Nat) (v : Value) (nw : List (Addr × Obj)) (p : Int) (a : Addr) (t3 : Tok), Pg v nw p → KtsTurn (outer.filterMap (·.frame)) h₀ h₁ → Below A₀ base outer h₁ → (Mine.hd.heap_39 w.params).In h₁ → Top Mine.view (looseW Mine.view Mine.looseN) mean mg mb h₁ → KtsDicts (outer.filterMap (·.frame)) h₁ → Fr h₁ L h' m → News h₁ L h' ((a, tupO #[v, .int p t3]) :: (nw ++ news)) → Q (.ref a) { s with heap := h', toks := tk' }) →
    wpAny (model PySem.Challenge.rw_xw0205_01.row.prog w) (ktrTop dp un gd cn cs L a ccd [] outer) (call (.ref 302) [.str text tt, .int at_ ta, .ref f]) Q E s := by
  k_with_none
  w_top off
  k_fill
  intro w mean mg mb dp un gd cn cs a ccd outer A₀ base h₀ L m s Q E news text at_ tt ta f Pf Pg B F X T hk XB TB D N hR hkp hd hu retF retG
  unfold Reads at hR
  refine wpAny_call ?_
  (k_dflt (refine' code_defS (binds := [(Str.ofString "text", .str text tt), (Str.ofString "at", .int at_ ta), (Str.ofString "call", .ref f)]) ?k1 ?k2 ?k3 ?k4 ?k5 ?XB ?TB ?D ?T0 ?kA ?k6 ?k7 ?k8 ?k9 ?kB ?_ ?cK ?c2 ?c3 ?c4 ?c5; (case kA => exact rfl); (case k2 => k_asm); (case k1 => k_asm); (case XB => assumption); (case TB => assumption); (case D => assumption); (case T0 => first | assumption | exact KtsTurn.refl); (case k3 => k_asm); (case k4 => k_asm); (case k5 => k_asm); (case k6 => k_is); (case k7 => k_is); (case k8 => ktr_room); (case k9 => first | exact binds_K (by k_in) rfl (by k_is) rfl rfl rfl | exact BindsTo.of_eq rfl); (case kB => exact locs rfl); (case cK => first | exact rfl | assumption); (case c2 => exact rfl); (case c3 => exact rfl); (case c4 => exact rfl); (case c5 => decide); k_whole; intro g' L' h' FG' F' N' B' X' T' D'; (try dsimp only)))
  k_with "noteFrame ref" => (k_here; (with_reducible show wpAny _ _ (noteFrame _ _) (fun _ s₂ => wpAny _ _ (setFlight _ none) (fun _ s₃ => wpAny _ _ (handleBy _ _ (ExceptHandler.ExceptHandler (some (PySem.Expr.Name (Str.ofString "SyntaxFault") _)) (some _) _ _ :: _)) _ _ s₃) _ s₂) _ _); k_dflt (refine' caught_M ?R ?F ?K ?U ?XB ?TB ?D ?T0 ?ex ?q ?_ ?c1 ?c2 ?c3 ?c4; (case R => assumption); (case F => assumption); (case K => assumption); (case U => assumption); (case XB => assumption); (case TB => assumption); (case D => assumption); (case T0 => first | assumption | exact KtsTurn.refl); (case ex => k_is); (case q => kts_isx); (case c1 => rfl); (case c2 => rfl); (case c3 => rfl); (case c4 => decide); k_whole); intro h' g' tk' vs' sl' T' F' N' K' X' P' D'; (try k_lift K'); (try k_sweep))
  k_with "getAttr ref" => (k_here; (with_reducible show wpAny _ _ (getAttr (Value.ref _) (Str.ofString "place") _) _ _ _); (with_reducible rename FaultDict _ _ => fD9); (obtain ⟨h19, h29, k19, k29, k39, k49, msg9, e9⟩ := fD9); (subst e9); k_dflt (refine' excget (Frag.In.keeps ?kx (Fr.keep ?kf)) (News.get ?kN ?km) (News.get ?kN2 ?km2) ?g1 ?g2 ?g3 ?g4 ?g5 ?_; (case kf => k_asm); (case kx => k_asm); (case kN => k_asm); (case kN2 => k_asm); (case km => exact List.Mem.head _); (case km2 => exact List.Mem.tail _ (List.Mem.head _)); (case g1 => k_is); (case g2 => k_is); (case g3 => k_is); (case g4 => with_unfolding_all rfl); (case g5 => rfl); k_whole); intro tk9; (try dsimp only))
  k_with "callWith ref" => (k_here; (with_reducible show wpAny _ _ (callWith _ (Value.ref f) _ _ _) _ _ _); (with_reducible rename Frag.In _ _ => kX9); k_dflt (refine callWith_K kX9 hkp ?_ (by rfl) (by rfl)))
  k_with "call ref" => (k_here; (with_reducible show wpAny _ _ (call (Value.ref f) _) _ _ _); k_dflt (refine' hR _ _ _ _ _ _ _ _ _ _ _ _ _ _ _ _ _ _ _ _ _ _ _ _ _ ?k1 ?k2 ?k3 ?k5 ?kK ?k4 ?p0 ?p1 ?kd ?ku ?_ ?_; (case k1 => k_asm); (case k2 => k_asm); (case k3 => k_asm); (case k5 => k_asm); (case kK => first | exact rfl | assumption); (case k4 => k_asm); (case p0 => k_all); (case p1 => k_ne); (case kd => ktr_room); (case ku => ktr_units)); intro v9 nw9 p9 tp9 h9 tk9 hpg9 F9 N9; (try dsimp only); rotate_left; intro g9 h9 e9 D9 od9 tk9 nw9 p9 hpf9 hnw9 F9 fd9 R9 U9; (try dsimp only))
  k_steps
  · (rename News _ _ _ _ => kN)
    (rename Fr _ _ _ _ => kF)
    (rename KtsTurn _ _ _ => kT)
    (rename Below _ _ _ _ => kB)
    (rename Frag.In _ _ => kX)
    (rename Top _ _ _ _ _ _ => kP)
    (rename KtsDicts _ _ => kD)
    exact retF _ _ _ _ _ _ _ hpf9 kT kB kX kP kD kF (fun p hp => kN p (led_mem (fun p hp => .tail _ (.tail _ (hnw9 p hp))) hp))
  · (rename News _ _ _ _ => kN)
    (rename Fr _ _ _ _ => kF)
    exact retG h₀ _ _ _ _ _ _ _ hpg9 KtsTurn.refl B X T D kF (fun p hp => kN p (led_mem (fun p hp => (List.mem_append.mp hp).elim (fun hp => List.mem_append_left _ hp) fun hp => List.mem_append_right _ (.tail _ (.tail _ hp))) hp))
end
section
open PySem.Calls
theorem mulL {x u b : Int} : IntMulOk ([x, u.fmod 2147483647].getD (Int.toNat 1) 0) b := by
  refine PySem.IntMulOk.of_left (PySem.intBits_le_64 ?_ ?_) <;> simp [Int.fmod_eq_emod_of_nonneg] <;> omega
theorem fm {a b : Int} (h : 0 ≤ b) : a.fmod b = a % b := Int.fmod_eq_emod_of_nonneg a h
theorem fd {a b : Int} (h : 0 ≤ b) : a.fdiv b = a / b := Int.fdiv_eq_ediv_of_nonneg a h
theorem take_a {x t : Int} (hx : 0 ≤ x) (ht : 1 < t) : 0 ≤ x.fdiv t ∧ x.fdiv t ≤ x := by
  rw [fd (by omega)]
  exact ⟨Int.ediv_nonneg hx (by omega), Int.ediv_le_self t hx⟩
theorem take_b {x t : Int} (ht : 1 < t) : 0 ≤ x.fmod t ∧ x.fmod t < t := by
  rw [fm (by omega)]
  exact ⟨Int.emod_nonneg x (by omega), Int.emod_lt_of_pos x (by omega)⟩

local macro_rules | `(tactic| mul_fits) => `(tactic| exact mulL)
set_option maxHeartbeats 4000000 in
theorem take_C : ∀ (w : World) (mean : ExcName → Option Value) (mg mb : Str → Option Value) (dp un : Nat) (gd : Option (List Code)) (cn : Str) (cs : Scope) (a : Addr) (ccd : Value) (cl : List (Str × Addr)) (outer : List Env) (A₀ : Around) (base h₀ : Heap) (L : Addr) (m : Str → Option Value) (s : Shared) (Q E : Value → Shared → Prop) (news : List (Addr × Obj))
    (src : Addr) (x y : Int) (tx ty : Tok) (n : Nat) (top : Int) (tt : Tok),
    Below A₀ base outer h₀ → Fr h₀ L s.heap m → (Mine.hd.heap_39 w.params).In h₀ → Top Mine.view (looseW Mine.view Mine.looseN) mean mg mb h₀ → cs.kind = .function → News h₀ L s.heap ((src, listOf #[.int x tx, .int y ty] n) :: news) → (∀ p ∈ news, p.1 ≠ src) →
    dp + 1 < recursionLimit → un + 8 < cLine → 0 ≤ x → 0 ≤ y → y < 2147483647 → 1 < top → top < 100 →
    (∀ (x' y' r : Int) (tx' ty' : Tok) (n' : Nat) (t : Tok) (h' : Heap) (tk' : Nat), 0 ≤ x' → 0 ≤ y' → y' < 2147483647 → 0 ≤ r → r < top → Fr h₀ L h' m → News h₀ L h' ((src, listOf #[.int x' tx', .int y' ty'] n') :: news) → Q (.int r t) { s with heap := h', toks := tk' }) →
    wpAny (model PySem.Challenge.rw_xw0205_01.row.prog w) (ktrTop dp un gd cn cs L a ccd cl outer) (call (.ref 288) [.ref src, .int top tt]) Q E s := by
  k_with_none
  w_top off
  k_fill
  intro w mean mg mb dp un gd cn cs a ccd cl outer A₀ base h₀ L m s Q E news src x y tx ty n top tt B F X T hk N hne hd hu hx hy hy2 htop htop2 ret
  refine wpAny_call ?_
  (k_dflt (refine' code_def (binds := [(Str.ofString "source", .ref src), (Str.ofString "top", .int top tt)]) ?k1 ?k2 ?k3 ?k4 ?k5 ?kA ?kF ?kK ?k6 ?k7 ?k8 ?k9 ?kB ?_ ?c2 ?c3 ?c4 ?c5; (case kA => exact rfl); (case kF => exact rfl); (case kK => assumption); (case k1 => k_asm); (case k2 => k_asm); (case k3 => k_asm); (case k4 => k_asm); (case k5 => k_asm); (case k6 => k_is); (case k7 => k_is); (case k8 => ktr_room); (case k9 => first | exact BindsTo.of_eq rfl | exact binds_K (by k_in) rfl (by k_is) rfl rfl rfl); (case c5 => decide); (case kB => exact locs rfl); (case c2 => exact rfl); (case c3 => exact rfl); (case c4 => exact rfl); k_whole; intro g' L' h' FG' F' N' B' X' T'; (try dsimp only); (try k_fold)))
  k_steps
  · (with_reducible rename News h₀ L _ _ => kN)
    (with_reducible rename Fr h₀ L _ _ => kF)
    have e1 := take_a hx htop
    have e2 := take_b (x := x) htop
    exact ret (x.fdiv top) y (x.fmod top) _ _ _ _ _ _ e1.1 hy hy2 e2.1 e2.2 kF kN
  · (with_reducible rename News h₀ L _ _ => kN)
    (with_reducible rename Fr h₀ L _ _ => kF)
    have e1 := take_b (x := (y * 39373 + 7)) (t := 2147483647) (by omega)
    have e2 := take_b (x := ((y * 39373 + 7).fmod 2147483647 * (y * 39373 + 7).fmod 2147483647).fmod 2147483629 |>.fdiv 32) htop
    exact ret x ((y * 39373 + 7).fmod 2147483647) _ _ _ _ _ _ _ hx e1.1 e1.2 e2.1 e2.2 kF kN
end
section
open PySem.Calls
theorem take_K : ∀ (w : World) (mean : ExcName → Option Value) (mg mb : Str → Option Value) (dp un : Nat) (gd : Option (List Code)) (cn : Str) (cs : Scope) (a : Addr) (ccd : Value) (cl : List (Str × Addr)) (outer : List Env) (A₀ : Around) (base h₀ : Heap) (L : Addr) (m : Str → Option Value) (s : Shared) (Q E : Value → Shared → Prop) (news : List (Addr × Obj))
    (src : Addr) (x y : Int) (tx ty : Tok) (n : Nat) (top : Int) (tt : Tok) (g : Obj → List (Addr × Obj)),
    Below A₀ base outer h₀ → Fr h₀ L s.heap m → (Mine.hd.heap_39 w.params).In h₀ → Top Mine.view (looseW Mine.view Mine.looseN) mean mg mb h₀ → cs.kind = .function → News h₀ L s.heap news → UpdF src (listOf #[.int x tx, .int y ty] n) news g →
    dp + 1 < recursionLimit → un + 8 < cLine → 0 ≤ x → 0 ≤ y → y < 2147483647 → 1 < top → top < 100 →
    (∀ (x' y' r : Int) (tx' ty' : Tok) (n' : Nat) (t : Tok) (h' : Heap) (tk' : Nat), 0 ≤ x' → 0 ≤ y' → y' < 2147483647 → 0 ≤ r → r < top → Fr h₀ L h' m → News h₀ L h' (g (listOf #[.int x' tx', .int y' ty'] n')) → Q (.int r t) { s with heap := h', toks := tk' }) →
    wpAny (model PySem.Challenge.rw_xw0205_01.row.prog w) (ktrTop dp un gd cn cs L a ccd cl outer) (call (.ref 288) [.ref src, .int top tt]) Q E s := by
  intro w mean mg mb dp un gd cn cs a ccd cl outer A₀ base h₀ L m s Q E news src x y tx ty n top tt g B F X T hk N U hd hu hx hy hy2 htop htop2 ret
  obtain ⟨pre, post, rfl, hg, a1, a2⟩ := U.split
  refine take_C w mean mg mb dp un gd cn cs a ccd cl outer A₀ base h₀ L m s Q E (pre ++ post) src x y tx ty n top tt B F X T hk ?_ ?_ hd hu hx hy hy2 htop htop2 ?_
  · intro p hp
    refine N p ?_
    simp only [List.mem_cons, List.mem_append] at hp ⊢
    rcases hp with h | h | h
    · exact .inr (.inl h)
    · exact .inl h
    · exact .inr (.inr h)
  · intro p hp
    rcases List.mem_append.mp hp with h | h
    · exact a1 p h
    · exact a2 p h
  · intro x' y' r tx' ty' n' t h' tk' h1 h2 h3 h4 h5 F' N'
    refine ret x' y' r tx' ty' n' t h' tk' h1 h2 h3 h4 h5 F' ?_
    rw [hg]
    intro p hp
    refine N' p ?_
    simp only [List.mem_cons, List.mem_append] at hp ⊢
    rcases hp with h | h | h
    · exact .inr (.inl h)
    · exact .inl h
    · exact .inr (.inr h)

theorem item_any {prog w A E s} {value slice : PySem.Expr} {l : Addr} {vs : List Value} {k : Int} {u : Tok} {Q : Value → Shared → Prop}
    (hl : s.heap.IsList l vs.toArray) (h0 : 0 ≤ k) (hhi : k < 2 ^ 63) (hlen : k < vs.length) (h : ∀ v, v ∈ vs → Q v s)
    (hs : subscripted slice false (.ref l) (.int k u) = operate [.ref l, .int k u] (getItem (.ref l) (.int k u)) := by with_unfolding_all rfl) :
    wpAny (model prog w) A (subscriptTail value slice (.ref l) (.int k u)) Q E s := by
  have hk : k.toNat < vs.length := by omega
  exact tail_any hl.typeIs slot_list_getitem.lookup (wpAny_getItem_list hl h0 hhi (by simp [List.getElem?_eq_getElem hk]) (h _ (List.getElem_mem hk))) hs

theorem len_any {prog w A E s} {l : Addr} {vs : List Value} {Q : Value → Shared → Prop} (hl : s.heap.IsList l vs.toArray) (hlen : (vs.length : Int) < 2 ^ 63)
    (h : Q (.int vs.length (s.toks + 1)) { s with toks := s.toks + 1 + 1 }) : wpAny (model prog w) A (call (.builtin "len") [.ref l]) Q E s := by
  have e : (List.toArray vs).size = vs.length := List.size_toArray ..
  exact call_len_list hl (by rw [e]; exact hlen) (by rw [e]; exact h)

theorem isl {h : Heap} {a : Addr} {vs : Array Value} {n : Nat} (e : h.get? a = some (listOf vs n)) : h.IsList a vs := ⟨_, e, rfl, n, rfl⟩
set_option maxHeartbeats 4000000 in
theorem one_C : ∀ (w : World) (mean : ExcName → Option Value) (mg mb : Str → Option Value) (dp un : Nat) (gd : Option (List Code)) (cn : Str) (cs : Scope) (a : Addr) (ccd : Value) (cl : List (Str × Addr)) (outer : List Env) (A₀ : Around) (base h₀ : Heap) (L : Addr) (m : Str → Option Value) (s : Shared) (Q E : Value → Shared → Prop) (news : List (Addr × Obj))
    (src th : Addr) (x y : Int) (tx ty : Tok) (n n2 : Nat) (vs : List Value),
    Below A₀ base outer h₀ → Fr h₀ L s.heap m → (Mine.hd.heap_39 w.params).In h₀ → Top Mine.view (looseW Mine.view Mine.looseN) mean mg mb h₀ → cs.kind = .function → News h₀ L s.heap ((th, listOf vs.toArray n2) :: (src, listOf #[.int x tx, .int y ty] n) :: news) → (∀ p ∈ news, p.1 ≠ src) → th ≠ src →
    dp + 2 < recursionLimit → un + 16 < cLine → 0 ≤ x → 0 ≤ y → y < 2147483647 → 1 < vs.length → vs.length < 100 →
    (∀ (v : Value) (x' y' : Int) (tx' ty' : Tok) (n' : Nat) (h' : Heap) (tk' : Nat), v ∈ vs → 0 ≤ x' → 0 ≤ y' → y' < 2147483647 → Fr h₀ L h' m → News h₀ L h' ((th, listOf vs.toArray n2) :: (src, listOf #[.int x' tx', .int y' ty'] n') :: news) → Q v { s with heap := h', toks := tk' }) →
    wpAny (model PySem.Challenge.rw_xw0205_01.row.prog w) (ktrTop dp un gd cn cs L a ccd cl outer) (call (.ref 295) [.ref src, .ref th]) Q E s := by
  k_with_none
  w_top off
  k_fill
  intro w mean mg mb dp un gd cn cs a ccd cl outer A₀ base h₀ L m s Q E news src th x y tx ty n n2 vs B F X T hk N hne hts hd hu hx hy hy2 htop htop2 ret
  refine wpAny_call ?_
  (k_dflt (refine' code_def (binds := [(Str.ofString "source", .ref src), (Str.ofString "things", .ref th)]) ?k1 ?k2 ?k3 ?k4 ?k5 ?kA ?kF ?kK ?k6 ?k7 ?k8 ?k9 ?kB ?_ ?c2 ?c3 ?c4 ?c5; (case kA => exact rfl); (case kF => exact rfl); (case kK => assumption); (case k1 => k_asm); (case k2 => k_asm); (case k3 => k_asm); (case k4 => k_asm); (case k5 => k_asm); (case k6 => k_is); (case k7 => k_is); (case k8 => ktr_room); (case k9 => first | exact BindsTo.of_eq rfl | exact binds_K (by k_in) rfl (by k_is) rfl rfl rfl); (case c5 => decide); (case kB => exact locs rfl); (case c2 => exact rfl); (case c3 => exact rfl); (case c4 => exact rfl); k_whole; intro g' L' h' FG' F' N' B' X' T'; (try dsimp only); (try k_fold)))
  k_with "call ref" => (k_here; (with_reducible show wpAny _ _ (call (Value.ref 288) _) _ _ _); k_dflt (refine' take_K _ _ _ _ _ _ _ _ _ _ _ _ _ _ _ _ _ _ _ _ _ _ _ _ _ _ _ _ _ _ _ ?k1 ?k2 ?k3 ?k5 ?kK ?k4 ?p0 ?kd ?ku ?q0 ?q1 ?q2 ?q3 ?q4 ?_; (case k1 => k_asm); (case k2 => k_asm); (case k3 => k_asm); (case k5 => k_asm); (case kK => first | exact rfl | assumption); (case k4 => k_asm); (case p0 => k_updF); (case kd => ktr_room); (case ku => ktr_units); (case q0 => assumption); (case q1 => assumption); (case q2 => assumption); (case q3 => omega); (case q4 => omega)); intro x9 y9 r9 tx9 ty9 n9 t9 h9 tk9 hx9 hy9 hz9 hr9 hs9 F9 N9; (try dsimp only))
  k_with "call builtin:len" => (k_here; (with_reducible show wpAny _ _ (call (Value.builtin "len") [Value.ref _]) _ _ _); k_dflt (refine' len_any (isl (News.get (by k_asm) (List.Mem.head _))) ?h1 ?_; (case h1 => omega)); (try dsimp only))
  k_with "subscriptTail" => (k_here; (with_reducible show wpAny _ _ (subscriptTail _ _ (Value.ref _) (Value.int _ _)) _ _ _); k_dflt (refine' item_any (isl (News.get (by k_asm) (List.Mem.head _))) ?h1 ?h2 ?h3 ?_; (case h1 => omega); (case h2 => omega); (case h3 => omega)); intro v9 hv9; (try dsimp only))
  k_steps
  (with_reducible rename News h₀ L _ _ => kN)
  (with_reducible rename Fr h₀ L _ _ => kF)
  exact ret _ _ _ _ _ _ _ _ (by assumption) (by assumption) (by assumption) (by assumption) kF kN

theorem mem_split {pre post : List (Addr × Obj)} {e : Addr × Obj} {p : Addr × Obj} : p ∈ pre ++ e :: post ↔ p = e ∨ p ∈ pre ++ post := by
  simp only [List.mem_append, List.mem_cons]
  constructor
  · rintro (h | h | h)
    · exact .inr (.inl h)
    · exact .inl h
    · exact .inr (.inr h)
  · rintro (h | h | h)
    · exact .inr (.inl h)
    · exact .inl h
    · exact .inr (.inr h)

theorem one_K : ∀ (w : World) (mean : ExcName → Option Value) (mg mb : Str → Option Value) (dp un : Nat) (gd : Option (List Code)) (cn : Str) (cs : Scope) (a : Addr) (ccd : Value) (cl : List (Str × Addr)) (outer : List Env) (A₀ : Around) (base h₀ : Heap) (L : Addr) (m : Str → Option Value) (s : Shared) (Q E : Value → Shared → Prop) (news : List (Addr × Obj))
    (src th : Addr) (x y : Int) (tx ty : Tok) (n n2 : Nat) (vs : List Value) (g : Obj → List (Addr × Obj)),
    Below A₀ base outer h₀ → Fr h₀ L s.heap m → (Mine.hd.heap_39 w.params).In h₀ → Top Mine.view (looseW Mine.view Mine.looseN) mean mg mb h₀ → cs.kind = .function → News h₀ L s.heap news → UpdF src (listOf #[.int x tx, .int y ty] n) news g → (th, listOf vs.toArray n2) ∈ news → @Ne Nat th src →
    dp + 2 < recursionLimit → un + 16 < cLine → 0 ≤ x → 0 ≤ y → y < 2147483647 → 1 < vs.length → vs.length < 100 →
    (∀ (v : Value) (x' y' : Int) (tx' ty' : Tok) (n' : Nat) (h' : Heap) (tk' : Nat), v ∈ vs → 0 ≤ x' → 0 ≤ y' → y' < 2147483647 → Fr h₀ L h' m → News h₀ L h' (g (listOf #[.int x' tx', .int y' ty'] n')) → Q v { s with heap := h', toks := tk' }) →
    wpAny (model PySem.Challenge.rw_xw0205_01.row.prog w) (ktrTop dp un gd cn cs L a ccd cl outer) (call (.ref 295) [.ref src, .ref th]) Q E s := by
  intro w mean mg mb dp un gd cn cs a ccd cl outer A₀ base h₀ L m s Q E news src th x y tx ty n n2 vs g B F X T hk N U hm hne hd hu hx hy hy2 htop htop2 ret
  obtain ⟨pre, post, rfl, hg, a1, a2⟩ := U.split
  refine one_C w mean mg mb dp un gd cn cs a ccd cl outer A₀ base h₀ L m s Q E (pre ++ post) src th x y tx ty n n2 vs B F X T hk ?_ ?_ hne hd hu hx hy hy2 htop htop2 ?_
  · intro p hp
    refine N p ?_
    rw [mem_split]
    rcases List.mem_cons.mp hp with rfl | h
    · exact mem_split.mp hm
    · exact List.mem_cons.mp h
  · intro p hp
    rcases List.mem_append.mp hp with h | h
    · exact a1 p h
    · exact a2 p h
  · intro v x' y' tx' ty' n' h' tk' h1 h2 h3 h4 F' N'
    refine ret v x' y' tx' ty' n' h' tk' h1 h2 h3 h4 F' ?_
    rw [hg]
    intro p hp
    refine N' p ?_
    rcases mem_split.mp hp with rfl | h
    · exact .tail _ (.head _)
    · exact .tail _ (.tail _ h)
end
section
open PySem.Calls
theorem five {r : Int} (h0 : 0 ≤ r) (h1 : r < 5) : r = 0 ∨ r = 1 ∨ r = 2 ∨ r = 3 ∨ r = 4 := by omega
def Strs (vs : List Value) (S : List Str) : Prop := ∀ v ∈ vs, ∃ z ∈ S, ∃ t, v = Value.str z t
theorem str_of {vs : List Value} {S : List Str} (h : Strs vs S) {v : Value} (hv : v ∈ vs) : ∃ z, z ∈ S ∧ ∃ t, v = Value.str z t := by
  obtain ⟨z, a, t, b⟩ := h v hv
  exact ⟨z, a, t, b⟩
theorem join_any {prog : Program} {w : World} {A : Around} {E : Value → Shared → Prop} {s : Shared} {t : Tok} {Q : Value → Shared → Prop} {D : Addr} {S : List Str} (l : List (Str × Tok)) (hl : s.heap.IsList D (strValues l).toArray)
    (hS : ∀ z ∈ S, z.length ≤ 16) (hm : ∀ z ∈ l.map (·.1), z ∈ S) (h4 : l.length ≤ 4)
    (hq : ∀ t' k, Q (.str (Txt.join (Str.ofString "") (l.map (·.1))) t') { s with toks := k }) : wpAny (model prog w) A (call (.builtin "str.join") [.str (Str.ofString "") t, .ref D]) Q E s := by
  refine SC.join hl rfl ?_ hq
  unfold JoinOk
  rw [StrLaws.joinFits (B := 16) (fun z hz => hS z (hm z hz)) ?_]
  · rfl
  rw [List.length_map]
  have : (Str.ofString "").length = 0 := by decide
  rw [this]
  omega
theorem all_nil {S : List Str} : ∀ z ∈ (List.nil : List (Str × Tok)).map (·.1), z ∈ S := fun _ h => nomatch h
theorem all_cons {S : List Str} {x : Str} {t : Tok} {l : List (Str × Tok)} (h : x ∈ S) (r : ∀ z ∈ l.map (·.1), z ∈ S) : ∀ z ∈ ((x, t) :: l).map (·.1), z ∈ S := by
  intro z hz
  rw [List.map_cons, List.mem_cons] at hz
  rcases hz with rfl | hz
  · exact h
  · exact r z hz
set_option maxHeartbeats 4000000 in
theorem pieces_C : ∀ (w : World) (mean : ExcName → Option Value) (mg mb : Str → Option Value) (dp un : Nat) (gd : Option (List Code)) (cn : Str) (cs : Scope) (a : Addr) (ccd : Value) (cl : List (Str × Addr)) (outer : List Env) (A₀ : Around) (base h₀ : Heap) (L : Addr) (m : Str → Option Value) (s : Shared) (Q E : Value → Shared → Prop) (news : List (Addr × Obj))
    (src th : Addr) (x y : Int) (tx ty : Tok) (n n2 : Nat) (vs : List Value) (S : List Str),
    Below A₀ base outer h₀ → Fr h₀ L s.heap m → (Mine.hd.heap_39 w.params).In h₀ → Top Mine.view (looseW Mine.view Mine.looseN) mean mg mb h₀ → cs.kind = .function → News h₀ L s.heap ((th, listOf vs.toArray n2) :: (src, listOf #[.int x tx, .int y ty] n) :: news) → (∀ p ∈ news, p.1 ≠ src) → th ≠ src →
    dp + 3 < recursionLimit → un + 24 < cLine → 0 ≤ x → 0 ≤ y → y < 2147483647 → 1 < vs.length → vs.length < 100 →
    Strs vs S → (∀ z ∈ S, z.length ≤ 16) →
    (∀ (l : List Str) (x' y' : Int) (tx' ty' t : Tok) (n' : Nat) (h' : Heap) (tk' : Nat), l.length ≤ 4 → (∀ z ∈ l, z ∈ S) → 0 ≤ x' → 0 ≤ y' → y' < 2147483647 → Fr h₀ L h' m → News h₀ L h' ((th, listOf vs.toArray n2) :: (src, listOf #[.int x' tx', .int y' ty'] n') :: news) →
      Q (.str (Txt.join (Str.ofString "") l) t) { s with heap := h', toks := tk' }) →
    wpAny (model PySem.Challenge.rw_xw0205_01.row.prog w) (ktrTop dp un gd cn cs L a ccd cl outer) (call (.ref 335) [.ref src, .ref th]) Q E s := by
  k_with_none
  w_top off
  k_fill
  intro w mean mg mb dp un gd cn cs a ccd cl outer A₀ base h₀ L m s Q E news src th x y tx ty n n2 vs S B F X T hk N hne hts hd hu hx hy hy2 htop htop2 hvs hS ret
  refine wpAny_call ?_
  (first | k_dflt (refine' code_defC ?k1 ?k2 ?k3 ?k4 ?k5 ?kA ?kF ?kK ?k6 ?k7 ?k8 ?k9 ?kB ?kD ?_ ?c2 ?c3 ?c4; (case kA => exact rfl); (case kF => exact rfl); (case kK => first | exact rfl | assumption); (case k1 => k_asm); (case k2 => k_asm); (case k3 => k_asm); (case k4 => k_asm); (case k5 => k_asm); (case k6 => k_is); (case k7 => k_is); (case k8 => ktr_room); (case k9 => first | exact BindsTo.of_eq rfl | exact binds_K (by k_in) rfl (by k_is) rfl rfl rfl); (case kB => exact rfl); (case kD => decide +kernel); (case c2 => exact rfl); (case c3 => exact rfl); (case c4 => exact rfl); k_whole; intro g' L' h' tk' cells' FG' F' N' Y' B' X' T' l1; k_cells Y'; (try simp only [List.cons_append, List.nil_append] at N'); (try dsimp only)) | fail "no entry")
  have l1a := ltN (l1 _ (List.Mem.head _))
  have l1b := ltN (l1 _ (List.Mem.tail _ (List.Mem.head _)))
  have l1c : ∀ p ∈ news, p.1 < L' := fun p hp => l1 p (.tail _ (.tail _ hp))
  dsimp only at l1a l1b
  k_with "call ref" => (k_here; (with_reducible show wpAny _ _ (call (Value.ref 295) _) _ _ _); k_dflt (refine' one_K _ _ _ _ _ _ _ _ _ _ _ _ _ _ _ _ _ _ _ _ _ _ _ _ _ _ _ _ _ _ _ _ ?k1 ?k2 ?k3 ?k5 ?kK ?k4 ?p0 ?p1 ?p2 ?kd ?ku ?q0 ?q1 ?q2 ?q3 ?q4 ?_; (case k1 => k_asm); (case k2 => k_asm); (case k3 => k_asm); (case k5 => k_asm); (case kK => first | exact rfl | assumption); (case k4 => k_asm); (case p0 => k_updF); (case p1 => k_mem); (case p2 => k_ne); (case kd => ktr_room); (case ku => ktr_units); (case q0 => assumption); (case q1 => assumption); (case q2 => assumption); (case q3 => omega); (case q4 => omega)); intro v9 x9 y9 tx9 ty9 n9 h9 tk9 hv9 hx9 hy9 hz9 F9 N9; (try dsimp only); (obtain ⟨w9, hw9, tw9, ew9⟩ := str_of (by assumption) hv9); (subst ew9))
  k_with "call ref" => (k_here; (with_reducible show wpAny _ _ (call (Value.ref 288) _) _ _ _); k_dflt (refine' take_K _ _ _ _ _ _ _ _ _ _ _ _ _ _ _ _ _ _ _ _ _ _ _ _ _ _ _ _ _ _ _ ?k1 ?k2 ?k3 ?k5 ?kK ?k4 ?p0 ?kd ?ku ?q0 ?q1 ?q2 ?q3 ?q4 ?_; (case k1 => k_asm); (case k2 => k_asm); (case k3 => k_asm); (case k5 => k_asm); (case kK => first | exact rfl | assumption); (case k4 => k_asm); (case p0 => k_updF); (case kd => ktr_room); (case ku => ktr_units); (case q0 => assumption); (case q1 => assumption); (case q2 => assumption); (case q3 => omega); (case q4 => omega)); intro x9 y9 r9 tx9 ty9 n9 t9 h9 tk9 hx9 hy9 hz9 hr9 hs9 F9 N9; (try dsimp only); (rcases five hr9 hs9 with e9 | e9 | e9 | e9 | e9) <;> subst e9)
  k_with "CompSrc" => (k_here; k_dflt (refine LCg.CompSrc.range (by rfl) (by k_asm) (by k_asm) (by assumption) (by first | decide | rfl) (by first | rfl | decide) (by first | size_fits | exact Nat.le_of_ble_eq_true rfl) ?_; intro g'; lcg_lit))
  k_with "CompEnd" => (refine LCg.CompEnd.intro (by assumption) (by assumption) _ (fun _ h => h) (by assumption) (by lcg_src) ?_)
  k_with "call builtin:str.join" => (k_here; (with_reducible show wpAny _ _ (call (Value.builtin "str.join") [Value.str _ _, Value.ref _]) _ _ _); k_dflt (first | refine' join_any [] (isl (News.get (by k_asm) (List.Mem.head _))) (by assumption) ?km (Nat.le_of_ble_eq_true rfl) ?_ | refine' join_any [(_, _)] (isl (News.get (by k_asm) (List.Mem.head _))) (by assumption) ?km (Nat.le_of_ble_eq_true rfl) ?_ | refine' join_any [(_, _), (_, _)] (isl (News.get (by k_asm) (List.Mem.head _))) (by assumption) ?km (Nat.le_of_ble_eq_true rfl) ?_ | refine' join_any [(_, _), (_, _), (_, _)] (isl (News.get (by k_asm) (List.Mem.head _))) (by assumption) ?km (Nat.le_of_ble_eq_true rfl) ?_ | refine' join_any [(_, _), (_, _), (_, _), (_, _)] (isl (News.get (by k_asm) (List.Mem.head _))) (by assumption) ?km (Nat.le_of_ble_eq_true rfl) ?_); (case km => (repeat (refine all_cons (by assumption) ?_)); exact all_nil); intro t9 k9; (try dsimp only))
  (refine wp_pack ?_; intro Q1 E1 hQ1 hE1)
  k_steps
  all_goals (refine hQ1 _ _ ?_; (try dsimp only); k_steps)
  all_goals (
    (with_reducible rename News h₀ L _ _ => kN)
    (with_reducible rename Fr h₀ L _ _ => kF)
    refine' ret _ _ _ _ _ _ _ _ _ ?a ?b ?c ?d ?e kF (fun p hp => kN p (.tail _ (.tail _ (.tail _ hp))))
    (case a => exact Nat.le_of_ble_eq_true rfl)
    (case b => (repeat (refine all_cons (by assumption) ?_)); exact all_nil)
    (case c => assumption)
    (case d => assumption)
    (case e => assumption))
end
section
open PySem.Calls
abbrev toldS : Scope := { kind := ScopeKind.function, names := [(Str.ofString "rows", NameKind.local), (Str.ofString "text", NameKind.local), (Str.ofString "call", NameKind.local), (Str.ofString "due", NameKind.local), (Str.ofString "_law_comment", NameKind.globalImplicit), (Str.ofString "_law_instruction", NameKind.globalImplicit), (Str.ofString "_law_part", NameKind.globalImplicit), (Str.ofString "_law_heard", NameKind.globalImplicit)], isGenerator := false, isCoroutine := false }
set_option maxHeartbeats 1000000 in
theorem row1_C : ∀ (w : World) (mean : ExcName → Option Value) (mg mb : Str → Option Value) (dp un : Nat) (gd : Option (List Code)) (cn : Str) (a : Addr) (ccd : Value) (outer : List Env) (A₀ : Around) (base h₀ : Heap) (L : Addr) (m : Str → Option Value) (s : Shared) (Q E : Value → Shared → Prop) (news : List (Addr × Obj)) (x y : Str) (p : Int) (q1 q2 q3 q4 q5 q6 : Pos),
    Below A₀ base outer h₀ → Fr h₀ L s.heap m → (Mine.hd.heap_39 w.params).In h₀ → Top Mine.view (looseW Mine.view Mine.looseN) mean mg mb h₀ → News h₀ L s.heap news →
    (∀ (D T : Addr) (t1 t2 t3 : Tok) (h' : Heap) (tk' : Nat), (∀ p ∈ news, p.1 < D) → @LT.lt Nat _ D T ∧ AllLt T news → Fr h₀ L h' m → News h₀ L h' ((T, tupO #[.str x t1, .ref 309, .ref D]) :: (D, tupO #[.str y t2, .int p t3]) :: news) → Q (.ref T) { s with heap := h', toks := tk' }) →
    wpAny (model PySem.Challenge.rw_xw0205_01.row.prog w) (ktrTop dp un gd cn toldS L a ccd [] outer) (eval (PySem.Expr.Tuple [.Constant (.str x) 0 q1, .Name (Str.ofString "_law_comment") q2, .Tuple [.Constant (.str y) 0 q3, .Constant (.int p) 0 q4] 0 q5] 0 q6) (envOf cn toldS L a ccd)) Q E s := by
  k_with_none
  w_top off
  k_fill
  intro w mean mg mb dp un gd cn a ccd outer A₀ base h₀ L m s Q E news x y p q1 q2 q3 q4 q5 q6 B F X T N ret
  k_steps
  all_goals (
    (rename News _ _ _ _ => kN)
    (rename Fr _ _ _ _ => kF)
    exact ret _ _ _ _ _ _ _ (by assumption) (by assumption) kF kN)
set_option maxHeartbeats 1000000 in
theorem row1_I : ∀ (w : World) (mean : ExcName → Option Value) (mg mb : Str → Option Value) (dp un : Nat) (gd : Option (List Code)) (cn : Str) (a : Addr) (ccd : Value) (outer : List Env) (A₀ : Around) (base h₀ : Heap) (L : Addr) (m : Str → Option Value) (s : Shared) (Q E : Value → Shared → Prop) (news : List (Addr × Obj)) (x y : Str) (p : Int) (q1 q2 q3 q4 q5 q6 : Pos),
    Below A₀ base outer h₀ → Fr h₀ L s.heap m → (Mine.hd.heap_39 w.params).In h₀ → Top Mine.view (looseW Mine.view Mine.looseN) mean mg mb h₀ → News h₀ L s.heap news →
    (∀ (D T : Addr) (t1 t2 t3 : Tok) (h' : Heap) (tk' : Nat), (∀ p ∈ news, p.1 < D) → @LT.lt Nat _ D T ∧ AllLt T news → Fr h₀ L h' m → News h₀ L h' ((T, tupO #[.str x t1, .ref 316, .ref D]) :: (D, tupO #[.str y t2, .int p t3]) :: news) → Q (.ref T) { s with heap := h', toks := tk' }) →
    wpAny (model PySem.Challenge.rw_xw0205_01.row.prog w) (ktrTop dp un gd cn toldS L a ccd [] outer) (eval (PySem.Expr.Tuple [.Constant (.str x) 0 q1, .Name (Str.ofString "_law_instruction") q2, .Tuple [.Constant (.str y) 0 q3, .Constant (.int p) 0 q4] 0 q5] 0 q6) (envOf cn toldS L a ccd)) Q E s := by
  w_top off
  k_fill
  intro w mean mg mb dp un gd cn a ccd outer A₀ base h₀ L m s Q E news x y p q1 q2 q3 q4 q5 q6 B F X T N ret
  k_steps
  all_goals (
    (rename News _ _ _ _ => kN)
    (rename Fr _ _ _ _ => kF)
    exact ret _ _ _ _ _ _ _ (by assumption) (by assumption) kF kN)
set_option maxHeartbeats 1000000 in
theorem row1_P : ∀ (w : World) (mean : ExcName → Option Value) (mg mb : Str → Option Value) (dp un : Nat) (gd : Option (List Code)) (cn : Str) (a : Addr) (ccd : Value) (outer : List Env) (A₀ : Around) (base h₀ : Heap) (L : Addr) (m : Str → Option Value) (s : Shared) (Q E : Value → Shared → Prop) (news : List (Addr × Obj)) (x y : Str) (p : Int) (q1 q2 q3 q4 q5 q6 : Pos),
    Below A₀ base outer h₀ → Fr h₀ L s.heap m → (Mine.hd.heap_39 w.params).In h₀ → Top Mine.view (looseW Mine.view Mine.looseN) mean mg mb h₀ → News h₀ L s.heap news →
    (∀ (D T : Addr) (t1 t2 t3 : Tok) (h' : Heap) (tk' : Nat), (∀ p ∈ news, p.1 < D) → @LT.lt Nat _ D T ∧ AllLt T news → Fr h₀ L h' m → News h₀ L h' ((T, tupO #[.str x t1, .ref 323, .ref D]) :: (D, tupO #[.str y t2, .int p t3]) :: news) → Q (.ref T) { s with heap := h', toks := tk' }) →
    wpAny (model PySem.Challenge.rw_xw0205_01.row.prog w) (ktrTop dp un gd cn toldS L a ccd [] outer) (eval (PySem.Expr.Tuple [.Constant (.str x) 0 q1, .Name (Str.ofString "_law_part") q2, .Tuple [.Constant (.str y) 0 q3, .Constant (.int p) 0 q4] 0 q5] 0 q6) (envOf cn toldS L a ccd)) Q E s := by
  w_top off
  k_fill
  intro w mean mg mb dp un gd cn a ccd outer A₀ base h₀ L m s Q E news x y p q1 q2 q3 q4 q5 q6 B F X T N ret
  k_steps
  all_goals (
    (rename News _ _ _ _ => kN)
    (rename Fr _ _ _ _ => kF)
    exact ret _ _ _ _ _ _ _ (by assumption) (by assumption) kF kN)
set_option maxHeartbeats 1000000 in
theorem row2_C : ∀ (w : World) (mean : ExcName → Option Value) (mg mb : Str → Option Value) (dp un : Nat) (gd : Option (List Code)) (cn : Str) (a : Addr) (ccd : Value) (outer : List Env) (A₀ : Around) (base h₀ : Heap) (L : Addr) (m : Str → Option Value) (s : Shared) (Q E : Value → Shared → Prop) (news : List (Addr × Obj)) (x y z : Str) (p : Int) (q1 q2 q3 q4 q5 q6 q7 q8 : Pos),
    Below A₀ base outer h₀ → Fr h₀ L s.heap m → (Mine.hd.heap_39 w.params).In h₀ → Top Mine.view (looseW Mine.view Mine.looseN) mean mg mb h₀ → News h₀ L s.heap news →
    (∀ (R D T : Addr) (t1 t3 u0 u1 : Tok) (h' : Heap) (tk' : Nat), (∀ p ∈ news, p.1 < R) → @LT.lt Nat _ R D ∧ AllLt D news → @LT.lt Nat _ D T ∧ @LT.lt Nat _ R T ∧ AllLt T news → Fr h₀ L h' m → News h₀ L h' ((T, tupO #[.str x t1, .ref 309, .ref D]) :: (D, tupO #[.ref R, .int p t3]) :: (R, tupO #[.str y u0, .str z u1]) :: news) → Q (.ref T) { s with heap := h', toks := tk' }) →
    wpAny (model PySem.Challenge.rw_xw0205_01.row.prog w) (ktrTop dp un gd cn toldS L a ccd [] outer) (eval (PySem.Expr.Tuple [.Constant (.str x) 0 q1, .Name (Str.ofString "_law_comment") q2, .Tuple [.Tuple [.Constant (.str y) 0 q7, .Constant (.str z) 0 q8] 0 q3, .Constant (.int p) 0 q4] 0 q5] 0 q6) (envOf cn toldS L a ccd)) Q E s := by
  w_top off
  k_fill
  intro w mean mg mb dp un gd cn a ccd outer A₀ base h₀ L m s Q E news x y z p q1 q2 q3 q4 q5 q6 q7 q8 B F X T N ret
  k_steps
  all_goals (
    (rename News _ _ _ _ => kN)
    (rename Fr _ _ _ _ => kF)
    exact ret _ _ _ _ _ _ _ _ _ (by assumption) (by assumption) (by assumption) kF kN)
set_option maxHeartbeats 1000000 in
theorem row2_I : ∀ (w : World) (mean : ExcName → Option Value) (mg mb : Str → Option Value) (dp un : Nat) (gd : Option (List Code)) (cn : Str) (a : Addr) (ccd : Value) (outer : List Env) (A₀ : Around) (base h₀ : Heap) (L : Addr) (m : Str → Option Value) (s : Shared) (Q E : Value → Shared → Prop) (news : List (Addr × Obj)) (x y z v : Str) (p : Int) (q1 q2 q3 q4 q5 q6 q7 q8 q9 : Pos),
    Below A₀ base outer h₀ → Fr h₀ L s.heap m → (Mine.hd.heap_39 w.params).In h₀ → Top Mine.view (looseW Mine.view Mine.looseN) mean mg mb h₀ → News h₀ L s.heap news →
    (∀ (R D T : Addr) (t1 t3 u0 u1 u2 : Tok) (h' : Heap) (tk' : Nat), (∀ p ∈ news, p.1 < R) → @LT.lt Nat _ R D ∧ AllLt D news → @LT.lt Nat _ D T ∧ @LT.lt Nat _ R T ∧ AllLt T news → Fr h₀ L h' m → News h₀ L h' ((T, tupO #[.str x t1, .ref 316, .ref D]) :: (D, tupO #[.ref R, .int p t3]) :: (R, tupO #[.str y u0, .str z u1, .str v u2]) :: news) → Q (.ref T) { s with heap := h', toks := tk' }) →
    wpAny (model PySem.Challenge.rw_xw0205_01.row.prog w) (ktrTop dp un gd cn toldS L a ccd [] outer) (eval (PySem.Expr.Tuple [.Constant (.str x) 0 q1, .Name (Str.ofString "_law_instruction") q2, .Tuple [.Tuple [.Constant (.str y) 0 q7, .Constant (.str z) 0 q8, .Constant (.str v) 0 q9] 0 q3, .Constant (.int p) 0 q4] 0 q5] 0 q6) (envOf cn toldS L a ccd)) Q E s := by
  w_top off
  k_fill
  intro w mean mg mb dp un gd cn a ccd outer A₀ base h₀ L m s Q E news x y z v p q1 q2 q3 q4 q5 q6 q7 q8 q9 B F X T N ret
  k_steps
  all_goals (
    (rename News _ _ _ _ => kN)
    (rename Fr _ _ _ _ => kF)
    exact ret _ _ _ _ _ _ _ _ _ _ (by assumption) (by assumption) (by assumption) kF kN)
end
section
open PySem.Calls
section
open PySem.StrLaws
theorem len_l (x : Str) : x.length = x.cps.toList.length := by simp [Str.length]
theorem from_nat (n a : Nat) : PySem.fromIndex n (a : Int) = a := by
  unfold PySem.fromIndex
  rw [if_neg (by omega)]
  omega
theorem at_iff {x y : Str} {i : Nat} (hy : 0 < y.length) : At x y x.length i ↔ (x.cps.toList.drop i).take y.length = y.cps.toList := by
  unfold At
  rw [subAt_eq, beq_iff_eq]
  constructor
  · exact fun h => h.2
  · intro h
    refine ⟨?_, h⟩
    have e := congrArg List.length h
    rw [List.length_take, List.length_drop, ← len_l, ← len_l] at e
    omega
theorem sw_iff {x y : Str} {i : Nat} (hy : 0 < y.length) : Txt.startswith3 x y i = true ↔ (x.cps.toList.drop i).take y.length = y.cps.toList := by
  unfold Txt.startswith3
  rw [from_nat, Bool.and_eq_true, decide_eq_true_eq, ← at_iff hy]
  rfl
theorem sw_true {x y : Str} {p r : List Nat} {i : Nat} (hy : 0 < y.length) (h : x.cps.toList = p ++ (y.cps.toList ++ r)) (hi : i = p.length) : Txt.startswith3 x y i = true := by
  rw [sw_iff hy, h, hi, List.drop_left, len_l y, List.take_left]
theorem sw_false {x y : Str} {p r s : List Nat} {i a b : Nat} (hy : y.cps.toList = b :: s) (h : x.cps.toList = p ++ a :: r) (hi : i = p.length) (hab : a ≠ b) : Txt.startswith3 x y i = false := by
  have hl : y.length = s.length + 1 := by rw [len_l, hy]; rfl
  rw [← Bool.not_eq_true, sw_iff (by omega), h, hi, List.drop_left, hy, hl]
  intro e
  rw [List.take_succ_cons] at e
  exact hab (List.cons.inj e).1
theorem find_at {x y : Str} {p t r : List Nat} {i : Nat} (hy : 0 < y.length) (h : x.cps.toList = p ++ (t ++ (y.cps.toList ++ r))) (hi : i = p.length)
    (hn : ∀ j, j < t.length → ((t ++ (y.cps.toList ++ r)).drop j).take y.length ≠ y.cps.toList) : Txt.find3 x y i = ((i + t.length : Nat) : Int) := by
  unfold Txt.find3
  rw [from_nat]
  have hat : At x y x.length (i + t.length) := by
    rw [at_iff hy, h, hi, ← List.drop_drop, List.drop_left, List.drop_left, len_l y, List.take_left]
  have hno : ∀ k, i ≤ k → k < i + t.length → ¬ At x y x.length k := by
    intro k h1 h2
    obtain ⟨j, rfl⟩ := Nat.exists_eq_add_of_le h1
    rw [at_iff hy, h, hi, ← List.drop_drop, List.drop_left]
    exact hn j (by omega)
  rcases occ_head_from x y i 1 (Nat.le_refl 1) with ⟨_, e⟩ | ⟨k, q, e, e1, e2, e3⟩
  · exact absurd hat (e _ (by omega))
  · rw [e]
    show ((k : Nat) : Int) = _
    rcases Nat.lt_trichotomy k (i + t.length) with c | c | c
    · exact absurd e2 (hno k e1 c)
    · rw [c]
    · exact absurd hat (e3 _ (by omega) c)
theorem slice_at {x : Str} {p t r : List Nat} {i j : Nat} (h : x.cps.toList = p ++ (t ++ r)) (hi : i = p.length) (hj : j = p.length + t.length) : Txt.slice x (some (i : Int)) (some (j : Int)) = ⟨t.toArray⟩ := by
  have hl : x.length = p.length + (t.length + r.length) := by rw [len_l, h]; simp
  have e := sliceText_nat x (a := i) (b := j) (by omega) (by omega)
  have e2 : Txt.slice x (some (i : Int)) (some (j : Int)) = sliceText x (some (i : Int)) (some (j : Int)) := rfl
  rw [e2, e, h, hi, hj, List.drop_left, Nat.add_sub_cancel_left, List.take_left]
theorem str_l {x : Str} {t : List Nat} (h : x.cps.toList = t) : (⟨t.toArray⟩ : Str) = x := by
  rw [← h]
theorem app_l (a b : Str) : (a ++ b).cps.toList = a.cps.toList ++ b.cps.toList := by simp [Str.cps_append]
/-- the joined text's signs, piece by piece -/
theorem join_l : ∀ (l : List Str), (Str.join (Str.ofString "") l).cps.toList = (l.map fun z => z.cps.toList).flatten
  | [] => rfl
  | [x] => by simp [Str.join]
  | x :: y :: r => by
    have ih := join_l (y :: r)
    have e : (Str.ofString "").cps.toList = [] := by decide
    show (x ++ Str.ofString "" ++ Str.join (Str.ofString "") (y :: r)).cps.toList = _
    rw [app_l, app_l, ih, e]
    simp
theorem tjoin_l (l : List Str) : (Txt.join (Str.ofString "") l).cps.toList = (l.map fun z => z.cps.toList).flatten := by
  rw [← join_l]
  exact congrArg (fun z : Str => z.cps.toList) (StrLaws.glued_eq_join _ _)
/-- no two neighbours a b in l, and the last is not a -/
def No2 (a b : Nat) (l : List Nat) : Prop := (∀ j : Nat, l[j]? = some a → l[j + 1]? ≠ some b) ∧ l.getLast? ≠ some a
theorem no2_nil (a b : Nat) : No2 a b [] := by simp [No2]
theorem no2_app {a b : Nat} {l r : List Nat} (h : No2 a b l) (h' : No2 a b r) : No2 a b (l ++ r) := by
  refine ⟨fun j e1 e2 => ?_, ?_⟩
  · by_cases c : j + 1 < l.length
    · rw [List.getElem?_append_left (by omega)] at e1 e2
      exact h.1 j e1 e2
    · by_cases c2 : j < l.length
      · rw [List.getElem?_append_left c2] at e1
        refine h.2 ?_
        rw [List.getLast?_eq_getElem?, show l.length - 1 = j by omega]
        exact e1
      · rw [List.getElem?_append_right (by omega)] at e1 e2
        rw [show j + 1 - l.length = (j - l.length) + 1 by omega] at e2
        exact h'.1 _ e1 e2
  · rw [List.getLast?_append]
    cases e : r.getLast? with
    | none => simpa using h.2
    | some c => simpa [e] using h'.2
theorem no2_flat {a b : Nat} : ∀ {l : List (List Nat)}, (∀ z ∈ l, No2 a b z) → No2 a b l.flatten
  | [], _ => no2_nil a b
  | z :: r, h => by
    rw [List.flatten_cons]
    exact no2_app (h z (.head _)) (no2_flat fun u hu => h u (.tail _ hu))
theorem no2_find {a b : Nat} {t r s : List Nat} (h : No2 a b t) : ∀ j, j < t.length → ((t ++ r).drop j).take (s.length + 2) ≠ a :: b :: s := by
  intro j hj e
  have e1 : (t ++ r)[j]? = some a := by
    have := congrArg (fun l => l[0]?) e
    simpa [List.getElem?_take, List.getElem?_drop] using this
  have e2 : (t ++ r)[j + 1]? = some b := by
    have := congrArg (fun l => l[1]?) e
    simpa [List.getElem?_take, List.getElem?_drop] using this
  rw [List.getElem?_append_left hj] at e1
  by_cases c : j + 1 < t.length
  · rw [List.getElem?_append_left c] at e2
    exact h.1 j e1 e2
  · refine h.2 ?_
    rw [List.getLast?_eq_getElem?, show t.length - 1 = j by omega]
    exact e1
/-- a sign that is not the word's first is no place of the word -/
theorem free_find {a : Nat} {t r s : List Nat} {n : Nat} (h : a ∉ t) : ∀ j, j < t.length → ((t ++ r).drop j).take (n + 1) ≠ a :: s := by
  intro j hj e
  have e1 : (t ++ r)[j]? = some a := by
    have := congrArg (fun l => l[0]?) e
    simpa [List.getElem?_take, List.getElem?_drop] using this
  rw [List.getElem?_append_left hj] at e1
  exact h (List.mem_of_getElem? e1)
/-- a b c in l at j -/
def Occ3 (a b c : Nat) (l : List Nat) (j : Nat) : Prop := l[j]? = some a ∧ l[j + 1]? = some b ∧ l[j + 2]? = some c
theorem occ3_of {a b c : Nat} {l : List Nat} {j : Nat} (e : (l.drop j).take 3 = [a, b, c]) : Occ3 a b c l j := by
  refine ⟨?_, ?_, ?_⟩
  · have := congrArg (fun l => l[0]?) e
    simpa [List.getElem?_take, List.getElem?_drop] using this
  · have := congrArg (fun l => l[1]?) e
    simpa [List.getElem?_take, List.getElem?_drop] using this
  · have := congrArg (fun l => l[2]?) e
    simpa [List.getElem?_take, List.getElem?_drop] using this
theorem occ3_to {a b c : Nat} {l : List Nat} {j : Nat} (h : Occ3 a b c l j) : (l.drop j).take 3 = [a, b, c] := by
  obtain ⟨h1, h2, h3⟩ := h
  apply List.ext_getElem?
  intro i
  match i with
  | 0 => simpa [List.getElem?_take, List.getElem?_drop] using h1
  | 1 => simpa [List.getElem?_take, List.getElem?_drop] using h2
  | 2 => simpa [List.getElem?_take, List.getElem?_drop] using h3
  | i + 3 => simp [List.getElem?_take]; omega
end
end
section
open PySem.Calls
section
open PySem.StrLaws PySem.Builtin.Str
theorem get_part {p q : List Nat} {j : Nat} : (p ++ q)[j]? = if j < p.length then p[j]? else q[j - p.length]? := by
  rw [List.getElem?_append]
theorem occ3_mid {p q : List Nat} (hp : ∀ j, ¬ Occ3 93 93 62 p j) (hq : ∀ j, ¬ Occ3 93 93 62 q j) : ∀ j, ¬ Occ3 93 93 62 (p ++ ([93, 93, 32, 62] ++ q)) j := by
  intro j ⟨h1, h2, h3⟩
  rw [get_part] at h1 h2 h3
  by_cases c : j + 2 < p.length
  · rw [if_pos (by omega)] at h1 h2 h3
    exact hp j ⟨h1, h2, h3⟩
  · rw [if_neg c] at h3
    by_cases c2 : j < p.length
    · rcases (show j + 2 - p.length = 0 ∨ j + 2 - p.length = 1 by omega) with e | e
      · rw [e] at h3; exact absurd h3 (by simp)
      · rw [e] at h3; exact absurd h3 (by simp)
    · rw [if_neg (by omega)] at h1 h2
      obtain ⟨k, rfl⟩ := Nat.exists_eq_add_of_le (Nat.le_of_not_lt c2)
      rw [show p.length + k - p.length = k by omega] at h1
      rw [show p.length + k + 1 - p.length = k + 1 by omega] at h2
      rw [show p.length + k + 2 - p.length = k + 2 by omega] at h3
      match k, h1, h2, h3 with
      | 0, h1, h2, h3 => exact absurd h3 (by simp)
      | 1, h1, h2, h3 => exact absurd h2 (by simp)
      | 2, h1, h2, h3 => exact absurd h1 (by simp)
      | 3, h1, h2, h3 => exact absurd h1 (by simp)
      | k + 4, h1, h2, h3 => exact hq k ⟨h1, h2, h3⟩
theorem occ3_end {p q : List Nat} (hp : ∀ j, ¬ Occ3 93 93 62 p j) : ∀ j, j < p.length → ¬ Occ3 93 93 62 (p ++ ([93, 93, 62] ++ q)) j := by
  intro j hj ⟨h1, h2, h3⟩
  rw [get_part] at h1 h2 h3
  by_cases c : j + 2 < p.length
  · rw [if_pos (by omega)] at h1 h2 h3
    exact hp j ⟨h1, h2, h3⟩
  · rw [if_neg c] at h3
    rcases (show j + 2 - p.length = 0 ∨ j + 2 - p.length = 1 by omega) with e | e
    · rw [e] at h3; exact absurd h3 (by simp)
    · rw [e] at h3; exact absurd h3 (by simp)
theorem sub_no {x y : Str} {a b : Nat} (hy : y.cps.toList = [93, 93, 62]) (h : ∀ k, a ≤ k → k < b → ¬ At x y x.length k) : ∀ j, ¬ Occ3 93 93 62 (strSub x a b).cps.toList j := by
  intro j ho
  have hyl : y.length = 3 := by rw [len_l, hy]; rfl
  obtain ⟨h1, h2, h3⟩ := ho
  rw [strSub_toList] at h1 h2 h3
  have hlt : j < b - a := by
    have := (List.getElem?_eq_some_iff.mp h1).1
    rw [List.length_take] at this
    omega
  have hlt2 : j + 1 < b - a := by
    have := (List.getElem?_eq_some_iff.mp h2).1
    rw [List.length_take] at this
    omega
  have hlt3 : j + 2 < b - a := by
    have := (List.getElem?_eq_some_iff.mp h3).1
    rw [List.length_take] at this
    omega
  rw [List.getElem?_take_of_lt hlt, List.getElem?_drop] at h1
  rw [List.getElem?_take_of_lt hlt2, List.getElem?_drop] at h2
  rw [List.getElem?_take_of_lt hlt3, List.getElem?_drop] at h3
  refine h (a + j) (by omega) (by omega) ?_
  rw [at_iff (by omega), hy, hyl]
  exact occ3_to ⟨h1, h2, h3⟩
theorem sub_mem {x : Str} {a b c : Nat} (h : c ∈ (strSub x a b).cps.toList) : c ∈ x.cps.toList := by
  rw [strSub_toList] at h
  exact List.mem_of_mem_drop (List.mem_of_mem_take h)
theorem rep_no {x y z : Str} (hy : y.cps.toList = [93, 93, 62]) (hz : z.cps.toList = [93, 93, 32, 62]) : ∀ (cuts : List Nat) (a f : Nat), ChainG x y x.length a cuts f → (∀ k, f ≤ k → ¬ At x y x.length k) →
    (∀ j, ¬ Occ3 93 93 62 (Str.join z (partsFrom x y.length a cuts)).cps.toList j) ∧ (∀ c ∈ (Str.join z (partsFrom x y.length a cuts)).cps.toList, c ∈ x.cps.toList ∨ c ∈ z.cps.toList)
  | [], a, f, h, hn => by
    have e : f = a := h
    subst e
    exact ⟨sub_no hy fun k h1 _ => hn k h1, fun c hc => .inl (sub_mem hc)⟩
  | d :: r, a, f, h, hn => by
    have ih := rep_no hy hz r (d + y.length) f h.2.2.2 hn
    obtain ⟨p, q, e⟩ := partsFrom_ne x y.length (d + y.length) r
    have e2 : (Str.join z (partsFrom x y.length a (d :: r))).cps.toList = (strSub x a d).cps.toList ++ (z.cps.toList ++ (Str.join z (partsFrom x y.length (d + y.length) r)).cps.toList) := by
      show (Str.join z (strSub x a d :: partsFrom x y.length (d + y.length) r)).cps.toList = _
      rw [e]
      show (strSub x a d ++ z ++ Str.join z (p :: q)).cps.toList = _
      rw [app_l, app_l, List.append_assoc]
    rw [e2]
    refine ⟨?_, fun c hc => ?_⟩
    · rw [hz]
      exact occ3_mid (sub_no hy h.2.2.1) ih.1
    · rcases List.mem_append.mp hc with hc | hc
      · exact .inl (sub_mem hc)
      · rcases List.mem_append.mp hc with hc | hc
        · exact .inr hc
        · exact ih.2 c hc
theorem replace_no {x y z : Str} (hy : y.cps.toList = [93, 93, 62]) (hz : z.cps.toList = [93, 93, 32, 62]) :
    (∀ j, ¬ Occ3 93 93 62 (Txt.replace x y z).cps.toList j) ∧ (∀ c ∈ (Txt.replace x y z).cps.toList, c ∈ x.cps.toList ∨ c ∈ z.cps.toList) := by
  have hyl : y.length = 3 := by rw [len_l, hy]; rfl
  obtain ⟨f, hG, hn⟩ := occ_tight x y (by omega)
  unfold Txt.replace
  split
  · rename_i hc
    rw [Bool.or_eq_true] at hc
    rcases hc with hc | hc
    · have e0 : occurrences x y 0 x.length (x.length + 1) = [] := List.isEmpty_iff.mp hc
      rw [e0] at hG
      have ef : f = 0 := hG
      subst ef
      have hs := sub_no (a := 0) (b := x.length) hy fun k h1 _ => hn k h1
      rw [sub_whole] at hs
      exact ⟨hs, fun c hc => .inl hc⟩
    · rw [hyl] at hc
      exact absurd hc (by simp)
  · rw [glued_eq_join, partsBetween_eq]
    exact rep_no hy hz _ 0 f hG hn
theorem replace_len {x y z : Str} (hx : x.length ≤ 64) (hz : z.length = 4) : (Txt.replace x y z).length ≤ 400 := by
  unfold Txt.replace
  split
  · omega
  · have h1 := StrLaws.occ_length_le x y 0 x.length (x.length + 1)
    have hy : (glued y (partsBetween x (occurrences x y 0 x.length (x.length + 1)) y.length)).length = x.length := by rw [StrLaws.glued_between_self]
    rw [size_glued, length_partsBetween, Nat.add_sub_cancel] at hy
    rw [size_glued, length_partsBetween, Nat.add_sub_cancel, hz]
    omega
end
end
section
open PySem.Calls
def AllOk (l : List Nat) : Prop := ∀ c ∈ l, okChar c = true
theorem allOk_app {a b : List Nat} (h : AllOk a) (h' : AllOk b) : AllOk (a ++ b) := fun c hc => (List.mem_append.mp hc).elim (h c) (h' c)
theorem allOk_flat {l : List (List Nat)} (h : ∀ z ∈ l, AllOk z) : AllOk l.flatten := fun c hc => by
  obtain ⟨z, hz, hc⟩ := List.mem_flatten.mp hc
  exact h z hz c hc
theorem notin_flat {a : Nat} {l : List (List Nat)} (h : ∀ z ∈ l, a ∉ z) : a ∉ l.flatten := fun hc => by
  obtain ⟨z, hz, hc⟩ := List.mem_flatten.mp hc
  exact h z hz hc
theorem firstBad_ok {t : Str} (h : AllOk t.cps.toList) : firstBad t = none := by
  unfold firstBad
  rw [List.findIdx?_eq_none_iff]
  intro c hc
  rw [h c hc]
  rfl
theorem firstBad_at {t : Str} {p r : List Nat} {c : Nat} (h : t.cps.toList = p ++ c :: r) (hp : AllOk p) (hc : okChar c = false) : firstBad t = some p.length := by
  unfold firstBad
  rw [h, List.findIdx?_append, List.findIdx?_eq_none_iff.mpr (fun z hz => by rw [hp z hz]; rfl), List.findIdx?_cons, hc]
  simp
theorem behind_ok {x y : Str} {p t r : List Nat} {i : Nat} {done : Str → Res} (hy : 0 < y.length) (h : x.cps.toList = p ++ (t ++ (y.cps.toList ++ r))) (hi : i = p.length)
    (hn : ∀ j, j < t.length → ((t ++ (y.cps.toList ++ r)).drop j).take y.length ≠ y.cps.toList) (ho : AllOk t) : behind x (i : Int) (Txt.find3 x y (i : Int)) done = done ⟨t.toArray⟩ := by
  rw [find_at hy h hi hn]
  unfold behind
  rw [if_neg (by omega), slice_at h hi (by omega), firstBad_ok ho]
theorem behind_bad {x y : Str} {p t r a b : List Nat} {c i : Nat} {done : Str → Res} (hy : 0 < y.length) (h : x.cps.toList = p ++ (t ++ (y.cps.toList ++ r))) (hi : i = p.length)
    (hn : ∀ j, j < t.length → ((t ++ (y.cps.toList ++ r)).drop j).take y.length ≠ y.cps.toList) (ht : t = a ++ c :: b) (ho : AllOk a) (hc : okChar c = false) :
    behind x (i : Int) (Txt.find3 x y (i : Int)) done = .fault ((i + a.length : Nat) : Int) := by
  rw [find_at hy h hi hn]
  unfold behind
  rw [if_neg (by omega), slice_at h hi (by omega), firstBad_at (t := ⟨t.toArray⟩) ht ho hc]
  rfl
theorem l_cb : (Str.ofString "<!--").cps.toList = [60, 33, 45, 45] := by decide +kernel
theorem l_ce : (Str.ofString "-->").cps.toList = [45, 45, 62] := by decide +kernel
theorem l_dd : (Str.ofString "--").cps.toList = [45, 45] := by decide +kernel
theorem l_gt : (Str.ofString ">").cps.toList = [62] := by decide +kernel
theorem l_ib : (Str.ofString "<?").cps.toList = [60, 63] := by decide +kernel
theorem l_ie : (Str.ofString "?>").cps.toList = [63, 62] := by decide +kernel
theorem l_d : (Str.ofString "d").cps.toList = [100] := by decide +kernel
theorem l_pb : (Str.ofString "<![CDATA[").cps.toList = [60, 33, 91, 67, 68, 65, 84, 65, 91] := by decide +kernel
theorem l_pe : (Str.ofString "]]>").cps.toList = [93, 93, 62] := by decide +kernel
theorem l_pz : (Str.ofString "]] >").cps.toList = [93, 93, 32, 62] := by decide +kernel
theorem l_gd : (Str.ofString "<?go d").cps.toList = [60, 63, 103, 111, 32, 100] := by decide +kernel
theorem len_of {x : Str} {l : List Nat} (h : x.cps.toList = l) : x.length = l.length := by rw [len_l, h]
theorem str_of_l {t : Str} : (⟨t.cps.toList.toArray⟩ : Str) = t := rfl

theorem wl_gt : wl ">" = 1 := by unfold wl; rw [k_w3]; rfl
theorem wl_pe : wl "]]>" = 3 := by unfold wl; rw [k_w5]; rfl
theorem wl_ie : wl "?>" = 2 := by unfold wl; rw [k_w7]; rfl
theorem comment_found {x T : Str} {A B : List Nat} {i : Nat} (hx : x.cps.toList = A ++ ([60, 33, 45, 45] ++ (T.cps.toList ++ ([45, 45, 62] ++ B)))) (hi : i = A.length) (hn : No2 45 45 T.cps.toList) (ho : AllOk T.cps.toList) :
    comment x (i : Int) = .found T ((i + T.length + 7 : Nat) : Int) := by
  unfold comment
  rw [if_pos (sw_true (by rw [len_of l_cb]; decide) (by rw [hx, l_cb]) hi)]
  have h4 : (i : Int) + wl "<!--" = ((i + 4 : Nat) : Int) := by unfold wl; rw [k_w1]; rfl
  have hx2 : x.cps.toList = (A ++ [60, 33, 45, 45]) ++ (T.cps.toList ++ ((Str.ofString "--").cps.toList ++ ([62] ++ B))) := by rw [hx, l_dd]; simp
  have hy : 0 < (Str.ofString "--").length := by rw [len_of l_dd]; decide
  have hi2 : i + 4 = (A ++ [60, 33, 45, 45]).length := by simp [hi]
  have hf : ∀ j, j < T.cps.toList.length → ((T.cps.toList ++ ((Str.ofString "--").cps.toList ++ ([62] ++ B))).drop j).take (Str.ofString "--").length ≠ (Str.ofString "--").cps.toList := by
    rw [len_of l_dd, l_dd]
    exact no2_find (s := []) hn
  rw [h4, behind_ok hy hx2 hi2 hf ho, find_at hy hx2 hi2 hf]
  have h6 : (((i + 4 + T.cps.toList.length : Nat) : Int)) + wl "--" = ((i + 4 + T.cps.toList.length + 2 : Nat) : Int) := by unfold wl; rw [k_w2]; rfl
  rw [h6, if_pos (sw_true (p := A ++ [60, 33, 45, 45] ++ T.cps.toList ++ [45, 45]) (r := B) (by rw [len_of l_gt]; decide) (by rw [hx, l_gt]; simp) (by simp [hi]; omega))]
  rw [str_of_l, len_l T]
  congr 1
  have := wl_gt
  omega
theorem comment_bad {x : Str} {A T B : List Nat} {c i : Nat} (hx : x.cps.toList = A ++ ([60, 33, 45, 45] ++ (T ++ c :: 97 :: ([45, 45, 62] ++ B)))) (hi : i = A.length) (hn : 45 ∉ T) (hc : c ≠ 45) (ho : AllOk T) (hb : okChar c = false) :
    comment x (i : Int) = .fault ((i + 4 + T.length : Nat) : Int) := by
  unfold comment
  rw [if_pos (sw_true (by rw [len_of l_cb]; decide) (by rw [hx, l_cb]) hi)]
  have h4 : (i : Int) + wl "<!--" = ((i + 4 : Nat) : Int) := by unfold wl; rw [k_w1]; rfl
  have hx2 : x.cps.toList = (A ++ [60, 33, 45, 45]) ++ ((T ++ c :: [97]) ++ ((Str.ofString "--").cps.toList ++ ([62] ++ B))) := by rw [hx, l_dd]; simp
  have hy : 0 < (Str.ofString "--").length := by rw [len_of l_dd]; decide
  have hf : ∀ j, j < (T ++ c :: [97]).length → (((T ++ c :: [97]) ++ ((Str.ofString "--").cps.toList ++ ([62] ++ B))).drop j).take (Str.ofString "--").length ≠ (Str.ofString "--").cps.toList := by
    rw [len_of l_dd, l_dd]
    exact free_find (s := [45]) (by simp [hn, Ne.symm hc])
  rw [h4, behind_bad hy hx2 (by simp [hi]) hf rfl ho hb]
theorem cdata_found {x T : Str} {A B : List Nat} {i : Nat} (hx : x.cps.toList = A ++ ([60, 33, 91, 67, 68, 65, 84, 65, 91] ++ (T.cps.toList ++ ([93, 93, 62] ++ B)))) (hi : i = A.length) (hn : ∀ j, ¬ Occ3 93 93 62 T.cps.toList j) (ho : AllOk T.cps.toList) :
    cdata x (i : Int) = .found T ((i + T.length + 12 : Nat) : Int) := by
  unfold cdata
  rw [if_pos (sw_true (by rw [len_of l_pb]; decide) (by rw [hx, l_pb]) hi)]
  have h4 : (i : Int) + wl "<![CDATA[" = ((i + 9 : Nat) : Int) := by unfold wl; rw [k_w4]; rfl
  have hx2 : x.cps.toList = (A ++ [60, 33, 91, 67, 68, 65, 84, 65, 91]) ++ (T.cps.toList ++ ((Str.ofString "]]>").cps.toList ++ B)) := by rw [hx, l_pe]; simp
  have hy : 0 < (Str.ofString "]]>").length := by rw [len_of l_pe]; decide
  have hi2 : i + 9 = (A ++ [60, 33, 91, 67, 68, 65, 84, 65, 91]).length := by simp [hi]
  have hf : ∀ j, j < T.cps.toList.length → ((T.cps.toList ++ ((Str.ofString "]]>").cps.toList ++ B)).drop j).take (Str.ofString "]]>").length ≠ (Str.ofString "]]>").cps.toList := by
    rw [len_of l_pe, l_pe]
    exact fun j hj e => occ3_end hn j hj (occ3_of e)
  rw [h4, behind_ok hy hx2 hi2 hf ho, find_at hy hx2 hi2 hf, str_of_l, len_l T]
  congr 1
  have := wl_pe
  omega
theorem cdata_bad {x : Str} {A T B : List Nat} {c i : Nat} (hx : x.cps.toList = A ++ ([60, 33, 91, 67, 68, 65, 84, 65, 91] ++ (T ++ c :: 97 :: ([93, 93, 62] ++ B)))) (hi : i = A.length) (hn : 93 ∉ T) (hc : c ≠ 93) (ho : AllOk T) (hb : okChar c = false) :
    cdata x (i : Int) = .fault ((i + 9 + T.length : Nat) : Int) := by
  unfold cdata
  rw [if_pos (sw_true (by rw [len_of l_pb]; decide) (by rw [hx, l_pb]) hi)]
  have h4 : (i : Int) + wl "<![CDATA[" = ((i + 9 : Nat) : Int) := by unfold wl; rw [k_w4]; rfl
  have hx2 : x.cps.toList = (A ++ [60, 33, 91, 67, 68, 65, 84, 65, 91]) ++ ((T ++ c :: [97]) ++ ((Str.ofString "]]>").cps.toList ++ B)) := by rw [hx, l_pe]; simp
  have hy : 0 < (Str.ofString "]]>").length := by rw [len_of l_pe]; decide
  have hf : ∀ j, j < (T ++ c :: [97]).length → (((T ++ c :: [97]) ++ ((Str.ofString "]]>").cps.toList ++ B)).drop j).take (Str.ofString "]]>").length ≠ (Str.ofString "]]>").cps.toList := by
    rw [len_of l_pe, l_pe]
    exact free_find (s := [93, 62]) (by simp [hn, Ne.symm hc])
  rw [h4, behind_bad hy hx2 (by simp [hi]) hf rfl ho hb]
theorem scan_at {f : Nat → Bool} {x : Str} {p n r : List Nat} {c i : Nat} (hx : x.cps.toList = p ++ (n ++ c :: r)) (hi : i = p.length) (hn : ∀ d ∈ n, f d = true) (hc : f c = false) : scan f x (i : Int) = ((i + n.length : Nat) : Int) := by
  unfold scan
  rw [hx, hi]
  show ((p.length : Nat) : Int) + ((((p ++ (n ++ c :: r)).drop ((p.length : Nat) : Int).toNat).takeWhile f).length : Int) = _
  rw [Int.toNat_natCast, List.drop_left, List.takeWhile_append_of_pos hn, List.takeWhile_cons, hc]
  simp
theorem getD_at {x : Str} {p r : List Nat} {c i : Nat} (hx : x.cps.toList = p ++ c :: r) (hi : i = p.length) : i < x.length ∧ x.cps.getD i 0 = c := by
  have e : x.cps.toList[i]? = some c := by rw [hx, hi]; simp
  have hl : i < x.length := by
    rw [len_l]
    exact (List.getElem?_eq_some_iff.mp e).1
  exact ⟨hl, StrLaws.getD_of_getElem? e⟩
/-- the reading of an instruction up to its data: a name n0 n, spaces, then d -/
theorem instr_to {x : Str} {A n sp R : List Nat} {n0 d i : Nat} (hx : x.cps.toList = A ++ ([60, 63] ++ (n0 :: n ++ (sp ++ d :: R)))) (hi : i = A.length) (h0 : isNs n0 = true) (hn : ∀ c ∈ n, isNc c = true) {s0 : Nat} {s1 : List Nat} (hsp : sp = s0 :: s1)
    (hs0 : isNc s0 = false) (hsq : s0 ≠ 63) (hs : ∀ c ∈ sp, isSp c = true) (hd : isSp d = false) (hl : (Txt.lower ⟨(n0 :: n).toArray⟩ == Str.ofString "xml") = false) :
    instruction x (i : Int) = match behind x ((i + 3 + n.length + sp.length : Nat) : Int) (Txt.find3 x (Str.ofString "?>") ((i + 3 + n.length + sp.length : Nat) : Int)) fun t => .found t (Txt.find3 x (Str.ofString "?>") ((i + 3 + n.length + sp.length : Nat) : Int) + wl "?>") with
      | .fault p => .fault p
      | .found t p => .found ⟨(n0 :: n).toArray⟩ t p := by
  have e2 : (i : Int) + wl "<?" = ((i + 2 : Nat) : Int) := by unfold wl; rw [k_w6]; rfl
  have e3 : ((i + 2 : Nat) : Int) + 1 = ((i + 3 : Nat) : Int) := by omega
  have g := getD_at (x := x) (p := A ++ [60, 63]) (r := n ++ (sp ++ d :: R)) (c := n0) (i := i + 2) (by rw [hx]; simp) (by simp [hi])
  have sc1 := scan_at (f := isNc) (x := x) (p := A ++ [60, 63, n0]) (n := n) (c := s0) (r := s1 ++ d :: R) (i := i + 3) (by rw [hx, hsp]; simp) (by simp [hi]) hn hs0
  have sc2 := scan_at (f := isSp) (x := x) (p := A ++ [60, 63, n0] ++ n) (n := sp) (c := d) (r := R) (i := i + 3 + n.length) (by rw [hx]; simp) (by simp [hi]; omega) hs hd
  have sl := slice_at (x := x) (p := A ++ [60, 63]) (t := n0 :: n) (r := sp ++ d :: R) (i := i + 2) (j := i + 3 + n.length) (by rw [hx]; simp) (by simp [hi]) (by simp [hi]; omega)
  have sq := sw_false (x := x) (y := Str.ofString "?>") (p := A ++ [60, 63, n0] ++ n) (r := s1 ++ d :: R) (s := [62]) (i := i + 3 + n.length) (a := s0) (b := 63) l_ie (by rw [hx, hsp]; simp) (by simp [hi]; omega) hsq
  unfold instruction
  rw [if_pos (sw_true (by rw [len_of l_ib]; decide) (by rw [hx, l_ib]) hi), e2, e3, sc1, sc2, sl]
  rw [if_pos ⟨by omega, by rw [Int.toNat_natCast, g.2]; exact h0⟩, if_neg (by rw [hl]; decide), if_neg (by rw [sq]; decide), if_neg (by rw [hsp, List.length_cons]; omega)]
  all_goals rfl
theorem instr_found {x T : Str} {A n sp R B : List Nat} {n0 d i : Nat} (hx : x.cps.toList = A ++ ([60, 63] ++ (n0 :: n ++ (sp ++ (T.cps.toList ++ ([63, 62] ++ B)))))) (hT : T.cps.toList = d :: R) (hi : i = A.length) (h0 : isNs n0 = true) (hn : ∀ c ∈ n, isNc c = true) {s0 : Nat} {s1 : List Nat} (hsp : sp = s0 :: s1)
    (hs0 : isNc s0 = false) (hsq : s0 ≠ 63) (hs : ∀ c ∈ sp, isSp c = true) (hd : isSp d = false) (hl : (Txt.lower ⟨(n0 :: n).toArray⟩ == Str.ofString "xml") = false) (hno : No2 63 62 T.cps.toList) (ho : AllOk T.cps.toList) :
    instruction x (i : Int) = .found ⟨(n0 :: n).toArray⟩ T ((i + 5 + n.length + sp.length + T.length : Nat) : Int) := by
  have hy : 0 < (Str.ofString "?>").length := by rw [len_of l_ie]; decide
  have hx2 : x.cps.toList = (A ++ [60, 63, n0] ++ n ++ sp) ++ (T.cps.toList ++ ((Str.ofString "?>").cps.toList ++ B)) := by rw [hx, l_ie]; simp
  have hi2 : i + 3 + n.length + sp.length = (A ++ [60, 63, n0] ++ n ++ sp).length := by simp [hi]; omega
  have hf : ∀ j, j < T.cps.toList.length → ((T.cps.toList ++ ((Str.ofString "?>").cps.toList ++ B)).drop j).take (Str.ofString "?>").length ≠ (Str.ofString "?>").cps.toList := by
    rw [len_of l_ie, l_ie]
    exact no2_find (s := []) hno
  rw [instr_to (A := A) (n := n) (sp := sp) (R := R ++ ([63, 62] ++ B)) (n0 := n0) (d := d) (by rw [hx, hT]; simp) hi h0 hn hsp hs0 hsq hs hd hl]
  rw [behind_ok hy hx2 hi2 hf ho, find_at hy hx2 hi2 hf, str_of_l, len_l T]
  show ResI.found _ _ _ = _
  congr 1
  have := wl_ie
  omega
theorem instr_bad {x : Str} {A T B : List Nat} {c i : Nat} (hx : x.cps.toList = A ++ ([60, 63, 103, 111, 32, 100] ++ (T ++ c :: 97 :: ([63, 62] ++ B)))) (hi : i = A.length) (hn : 63 ∉ T) (hc : c ≠ 63) (ho : AllOk T) (hb : okChar c = false) :
    instruction x (i : Int) = .fault ((i + 6 + T.length : Nat) : Int) := by
  have hy : 0 < (Str.ofString "?>").length := by rw [len_of l_ie]; decide
  have hx2 : x.cps.toList = (A ++ [60, 63, 103, 111, 32]) ++ ((100 :: T ++ c :: [97]) ++ ((Str.ofString "?>").cps.toList ++ B)) := by rw [hx, l_ie]; simp
  have hf : ∀ j, j < (100 :: T ++ c :: [97]).length → (((100 :: T ++ c :: [97]) ++ ((Str.ofString "?>").cps.toList ++ B)).drop j).take (Str.ofString "?>").length ≠ (Str.ofString "?>").cps.toList := by
    rw [len_of l_ie, l_ie]
    exact free_find (s := [62]) (by simp [hn, Ne.symm hc])
  rw [instr_to (A := A) (n := [111]) (sp := [32]) (R := T ++ c :: 97 :: ([63, 62] ++ B)) (n0 := 103) (d := 100) (by rw [hx]; simp) hi (by decide) (by decide) rfl (by decide) (by decide) (by decide) (by decide) (by decide +kernel)]
  have hi2 : i + 3 + [111].length + [32].length = (A ++ [60, 63, 103, 111, 32]).length := by simp [hi]
  rw [behind_bad (a := 100 :: T) hy hx2 hi2 hf rfl (by intro z hz; rcases List.mem_cons.mp hz with rfl | hz; (decide); exact ho z hz) hb]
  show ResI.fault _ = _
  congr 1
  simp
  omega
end
section
open PySem.Calls
def no2b (a b : Nat) : List Nat → Bool
  | [] => true
  | [x] => decide (x ≠ a)
  | x :: y :: r => (decide (x ≠ a) || decide (y ≠ b)) && no2b a b (y :: r)
theorem no2_of {a b : Nat} : ∀ {l : List Nat}, no2b a b l = true → No2 a b l
  | [], _ => no2_nil a b
  | [x], h => by
    have h' : x ≠ a := of_decide_eq_true h
    exact ⟨fun j _ e2 => by simp at e2, fun e => h' (Option.some.inj e)⟩
  | x :: y :: r, h => by
    have h' : ((decide (x ≠ a) || decide (y ≠ b)) && no2b a b (y :: r)) = true := h
    rw [Bool.and_eq_true, Bool.or_eq_true, decide_eq_true_eq, decide_eq_true_eq] at h'
    have ih := no2_of h'.2
    refine ⟨fun j e1 e2 => ?_, fun e => ih.2 (by rw [List.getLast?_cons_cons] at e; exact e)⟩
    cases j with
    | zero =>
      have e1' : some x = some a := e1
      have e2' : some y = some b := e2
      rcases h'.1 with c | c
      · exact c (Option.some.inj e1')
      · exact c (Option.some.inj e2')
    | succ j => exact ih.1 j e1 e2
def allOkb (l : List Nat) : Bool := l.all okChar
theorem allOk_of {l : List Nat} (h : allOkb l = true) : AllOk l := List.all_eq_true.mp h
theorem chars_of {S : List Str} {f : List Nat → Bool} {l : List Str} (h : ∀ z ∈ l, z ∈ S) (hf : S.all (fun z => f z.cps.toList) = true) : ∀ u ∈ l.map (fun z => z.cps.toList), f u = true := by
  intro u hu
  obtain ⟨z, hz, rfl⟩ := List.mem_map.mp hu
  exact List.all_eq_true.mp hf z (h z hz)
def SC1 : List Str := [Str.ofString "a", Str.ofString "-b", Str.ofString "<", Str.ofString ">", Str.ofString "&", Str.ofString " ", Str.ofString "\n"]
def SC2 : List Str := [Str.ofString "a", Str.ofString "? ", Str.ofString ">", Str.ofString "<? ", Str.ofString "-->", Str.ofString "\n"]
def SC3 : List Str := [Str.ofString "a", Str.ofString "]", Str.ofString "] ", Str.ofString "<b>", Str.ofString "&c;", Str.ofString ">", Str.ofString "\n"]
def SC4 : List Str := [Str.ofString "a", Str.ofString " ", Str.ofString "bc"]
def SN : List Str := [Str.ofString "go", Str.ofString "p:q", Str.ofString "xml-x", Str.ofString "_"]
def SS : List Str := [Str.ofString " ", Str.ofString "\n\t"]
theorem right_c {A B : Str} {l : List Str} (h : ∀ z ∈ l, z ∈ SC1) :
    comment (A ++ Str.ofString "<!--" ++ Txt.join (Str.ofString "") l ++ Str.ofString "-->" ++ B) (A.length : Int) = .found (Txt.join (Str.ofString "") l) (((A ++ Str.ofString "<!--" ++ Txt.join (Str.ofString "") l ++ Str.ofString "-->").length : Nat) : Int) := by
  have e1 : No2 45 45 (Txt.join (Str.ofString "") l).cps.toList := by
    rw [tjoin_l]
    exact no2_flat fun z hz => no2_of (chars_of (f := no2b 45 45) h (by decide +kernel) z hz)
  have e2 : AllOk (Txt.join (Str.ofString "") l).cps.toList := by
    rw [tjoin_l]
    exact allOk_flat fun z hz => allOk_of (chars_of (f := allOkb) h (by decide +kernel) z hz)
  generalize Txt.join (Str.ofString "") l = T at e1 e2
  rw [comment_found (T := T) (A := A.cps.toList) (B := B.cps.toList) (by simp only [app_l, l_cb, l_ce, List.append_assoc]) (len_l A) e1 e2]
  congr 1
  simp only [Str.length_append, len_of l_cb, len_of l_ce, List.length_cons, List.length_nil]
  omega
theorem right_p {A B : Str} {l : List Str} (h : ∀ z ∈ l, z ∈ SC3) :
    cdata (A ++ Str.ofString "<![CDATA[" ++ Txt.replace (Txt.join (Str.ofString "") l) (Str.ofString "]]>") (Str.ofString "]] >") ++ Str.ofString "]]>" ++ B) (A.length : Int) =
      .found (Txt.replace (Txt.join (Str.ofString "") l) (Str.ofString "]]>") (Str.ofString "]] >")) (((A ++ Str.ofString "<![CDATA[" ++ Txt.replace (Txt.join (Str.ofString "") l) (Str.ofString "]]>") (Str.ofString "]] >") ++ Str.ofString "]]>").length : Nat) : Int) := by
  have e2 : AllOk (Txt.join (Str.ofString "") l).cps.toList := by
    rw [tjoin_l]
    exact allOk_flat fun z hz => allOk_of (chars_of (f := allOkb) h (by decide +kernel) z hz)
  generalize Txt.join (Str.ofString "") l = T0 at e2
  have e3 := replace_no (x := T0) l_pe l_pz
  have e4 : AllOk (Txt.replace T0 (Str.ofString "]]>") (Str.ofString "]] >")).cps.toList := fun c hc => by
    rcases e3.2 c hc with q | q
    · exact e2 c q
    · rw [l_pz] at q
      exact allOk_of (l := [93, 93, 32, 62]) (by decide +kernel) c q
  have e5 := e3.1
  generalize Txt.replace T0 (Str.ofString "]]>") (Str.ofString "]] >") = T at e4 e5
  rw [cdata_found (T := T) (A := A.cps.toList) (B := B.cps.toList) (by simp only [app_l, l_pb, l_pe, List.append_assoc]) (len_l A) e5 e4]
  congr 1
  simp only [Str.length_append, len_of l_pb, len_of l_pe, List.length_cons, List.length_nil]
  omega
theorem l_go : (Str.ofString "go").cps.toList = 103 :: [111] := by decide +kernel
theorem l_pq : (Str.ofString "p:q").cps.toList = 112 :: [58, 113] := by decide +kernel
theorem l_xm : (Str.ofString "xml-x").cps.toList = 120 :: [109, 108, 45, 120] := by decide +kernel
theorem l_un : (Str.ofString "_").cps.toList = 95 :: [] := by decide +kernel
theorem l_s1 : (Str.ofString " ").cps.toList = 32 :: [] := by decide +kernel
theorem l_s2 : (Str.ofString "\n\t").cps.toList = 10 :: [9] := by decide +kernel
/-- what is asked of a name and of the spaces behind it -/
theorem name_facts {N : Str} (h : N ∈ SN) : ∃ n0 n, N.cps.toList = n0 :: n ∧ isNs n0 = true ∧ (∀ c ∈ n, isNc c = true) ∧ (Txt.lower ⟨(n0 :: n).toArray⟩ == Str.ofString "xml") = false ∧ (∀ c ∈ n0 :: n, c < 128) := by
  simp only [SN, List.mem_cons, List.not_mem_nil, or_false] at h
  rcases h with rfl | rfl | rfl | rfl
  · exact ⟨_, _, l_go, by decide, by decide, by decide +kernel, by decide⟩
  · exact ⟨_, _, l_pq, by decide, by decide, by decide +kernel, by decide⟩
  · exact ⟨_, _, l_xm, by decide, by decide, by decide +kernel, by decide⟩
  · exact ⟨_, _, l_un, by decide, by decide, by decide +kernel, by decide⟩
theorem space_facts {N : Str} (h : N ∈ SS) : ∃ s0 s1, N.cps.toList = s0 :: s1 ∧ isNc s0 = false ∧ s0 ≠ 63 ∧ (∀ c ∈ s0 :: s1, isSp c = true) ∧ (∀ c ∈ s0 :: s1, c < 128) := by
  simp only [SS, List.mem_cons, List.not_mem_nil, or_false] at h
  rcases h with rfl | rfl
  · exact ⟨_, _, l_s1, by decide, by decide, by decide, by decide⟩
  · exact ⟨_, _, l_s2, by decide, by decide, by decide, by decide⟩
theorem right_i {A B N P : Str} {l : List Str} (hN : N ∈ SN) (hP : P ∈ SS) (h : ∀ z ∈ l, z ∈ SC2) :
    instruction (A ++ Str.ofString "<?" ++ N ++ P ++ Str.ofString "d" ++ Txt.join (Str.ofString "") l ++ Str.ofString "?>" ++ B) (A.length : Int) =
      .found N (Str.ofString "d" ++ Txt.join (Str.ofString "") l) (((A ++ Str.ofString "<?" ++ N ++ P ++ Str.ofString "d" ++ Txt.join (Str.ofString "") l ++ Str.ofString "?>").length : Nat) : Int) := by
  obtain ⟨n0, n, eN, hn0, hn, hlow, _⟩ := name_facts hN
  obtain ⟨s0, s1, eP, hs0, hsq, hs, _⟩ := space_facts hP
  have e1 : No2 63 62 (Str.ofString "d" ++ Txt.join (Str.ofString "") l).cps.toList := by
    rw [app_l, tjoin_l, l_d]
    exact no2_app (no2_of (by decide)) (no2_flat fun z hz => no2_of (chars_of (f := no2b 63 62) h (by decide +kernel) z hz))
  have e2 : AllOk (Str.ofString "d" ++ Txt.join (Str.ofString "") l).cps.toList := by
    rw [app_l, tjoin_l, l_d]
    exact allOk_app (allOk_of (by decide +kernel)) (allOk_flat fun z hz => allOk_of (chars_of (f := allOkb) h (by decide +kernel) z hz))
  generalize Txt.join (Str.ofString "") l = T at e1 e2
  rw [instr_found (x := A ++ Str.ofString "<?" ++ N ++ P ++ Str.ofString "d" ++ T ++ Str.ofString "?>" ++ B) (T := Str.ofString "d" ++ T) (A := A.cps.toList) (B := B.cps.toList) (n0 := n0) (n := n) (sp := s0 :: s1) (R := T.cps.toList) (d := 100)
    (by simp only [app_l, l_ib, l_ie, l_d, eN, eP, List.append_assoc, List.cons_append, List.nil_append]) (by rw [app_l, l_d]; rfl) (len_l A) hn0 hn rfl hs0 hsq hs (by decide) hlow e1 e2]
  congr 1
  · exact str_l eN
  · simp only [Str.length_append, len_of l_ib, len_of l_ie, len_of l_d, len_of eN, len_of eP, List.length_cons, List.length_nil]
    omega
theorem strok_of {t : Str} (h : AllOk t.cps.toList) : PyData.strOk t = true := by
  unfold PyData.strOk
  rw [← Array.all_toList, List.all_eq_true]
  intro c hc
  have := h c hc
  unfold okChar at this
  rw [decide_eq_true_eq] at this ⊢
  omega
theorem ok_join {S l : List Str} (h : ∀ z ∈ l, z ∈ S) (hf : S.all (fun z => allOkb z.cps.toList) = true) : AllOk (Txt.join (Str.ofString "") l).cps.toList := by
  rw [tjoin_l]
  exact allOk_flat fun z hz => allOk_of (chars_of (f := allOkb) h hf z hz)
theorem strok_c {l : List Str} (h : ∀ z ∈ l, z ∈ SC1) : PyData.strOk (Txt.join (Str.ofString "") l) = true := strok_of (ok_join h (by decide +kernel))
theorem strok_i {l : List Str} (h : ∀ z ∈ l, z ∈ SC2) : PyData.strOk (Str.ofString "d" ++ Txt.join (Str.ofString "") l) = true := strok_of (by
  rw [app_l, l_d]
  exact allOk_app (allOk_of (by decide +kernel)) (ok_join h (by decide +kernel)))
theorem strok_n {N : Str} (h : N ∈ SN) : PyData.strOk N = true := by
  simp only [SN, List.mem_cons, List.not_mem_nil, or_false] at h
  rcases h with rfl | rfl | rfl | rfl <;> decide +kernel
theorem strok_p {l : List Str} (h : ∀ z ∈ l, z ∈ SC3) : PyData.strOk (Txt.replace (Txt.join (Str.ofString "") l) (Str.ofString "]]>") (Str.ofString "]] >")) = true := strok_of fun c hc => by
  rcases (replace_no (x := Txt.join (Str.ofString "") l) l_pe l_pz).2 c hc with q | q
  · exact ok_join h (by decide +kernel) c q
  · rw [l_pz] at q
    exact allOk_of (l := [93, 93, 32, 62]) (by decide +kernel) c q
def SA : List Str := [Str.ofString "", Str.ofString "x", Str.ofString "-->"]
def SB : List Str := [Str.ofString "", Str.ofString "-->", Str.ofString "y", Str.ofString "?>", Str.ofString "]]>"]
def SZ : List Str := [Str.ofString "", Str.ofString "z"]
def ascb (l : List Nat) : Bool := l.all (· < 128)
theorem asc_in {S : List Str} {z : Str} (h : z ∈ S) (hf : S.all (fun z => ascb z.cps.toList) = true) : ∀ c ∈ z.cps.toList, c < 128 := fun c hc => of_decide_eq_true (List.all_eq_true.mp (List.all_eq_true.mp hf z h) c hc)
theorem asc_join {S l : List Str} (h : ∀ z ∈ l, z ∈ S) (hf : S.all (fun z => ascb z.cps.toList) = true) : ∀ c ∈ (Txt.join (Str.ofString "") l).cps.toList, c < 128 := by
  rw [tjoin_l]
  intro c hc
  obtain ⟨u, hu, hc⟩ := List.mem_flatten.mp hc
  obtain ⟨z, hz, rfl⟩ := List.mem_map.mp hu
  exact asc_in (h z hz) hf c hc
theorem asc_i {A B N P : Str} {l : List Str} (hA : A ∈ SA) (hB : B ∈ SB) (hN : N ∈ SN) (hP : P ∈ SS) (h : ∀ z ∈ l, z ∈ SC2) :
    (A ++ Str.ofString "<?" ++ N ++ P ++ Str.ofString "d" ++ Txt.join (Str.ofString "") l ++ Str.ofString "?>" ++ B).cps.toList.all (· < 128) = true := by
  rw [List.all_eq_true]
  intro c hc
  rw [decide_eq_true_eq]
  simp only [app_l, List.mem_append, l_ib, l_ie, l_d, or_assoc] at hc
  rcases hc with q | q | q | q | q | q | q | q
  · exact asc_in hA (by decide +kernel) c q
  · revert c; decide
  · exact asc_in hN (by decide +kernel) c q
  · exact asc_in hP (by decide +kernel) c q
  · revert c; decide
  · exact asc_join h (by decide +kernel) c q
  · revert c; decide
  · exact asc_in hB (by decide +kernel) c q
theorem wl_ib : wl "<?" = 2 := by unfold wl; rw [k_w6]; rfl
theorem asc_w {x : Str} {A T : List Nat} {i : Nat} (hx : x.cps.toList = A ++ ([60, 63, 103, 111, 32, 100] ++ T)) (hi : i = A.length) :
    x.cps.getD ((i : Int) + wl "<?").toNat 0 < 128 ∧ ∀ c : Int, To isNc x ((i : Int) + wl "<?" + 1) c → x.cps.getD c.toNat 0 < 128 := by
  have hwl := wl_ib
  have g2 := getD_at (x := x) (p := A ++ [60, 63]) (c := 103) (r := 111 :: 32 :: 100 :: T) (i := i + 2) (by rw [hx]; simp) (by simp [hi])
  have g3 := getD_at (x := x) (p := A ++ [60, 63, 103]) (c := 111) (r := 32 :: 100 :: T) (i := i + 3) (by rw [hx]; simp) (by simp [hi])
  have g4 := getD_at (x := x) (p := A ++ [60, 63, 103, 111]) (c := 32) (r := 100 :: T) (i := i + 4) (by rw [hx]; simp) (by simp [hi])
  refine ⟨?_, fun c hc => ?_⟩
  · rw [show ((i : Int) + wl "<?").toNat = i + 2 by omega, g2.2]
    decide
  · obtain ⟨a, b, d⟩ := hc
    have hle : c ≤ ((i + 4 : Nat) : Int) := by
      refine Int.not_lt.mp fun hlt => ?_
      have := d (i + 4) (by omega) hlt
      rw [g4.2] at this
      exact absurd this (by decide)
    rcases (show c.toNat = i + 3 ∨ c.toNat = i + 4 by omega) with e | e
    · rw [e, g3.2]; decide
    · rw [e, g4.2]; decide
def badSign (c : Nat) : Prop := okChar c = false ∧ c ≠ 45 ∧ c ≠ 63 ∧ c ≠ 93
theorem wrong_facts {l : List Str} (h : ∀ z ∈ l, z ∈ SC4) : AllOk (Txt.join (Str.ofString "") l).cps.toList ∧ 45 ∉ (Txt.join (Str.ofString "") l).cps.toList ∧ 63 ∉ (Txt.join (Str.ofString "") l).cps.toList ∧ 93 ∉ (Txt.join (Str.ofString "") l).cps.toList := by
  refine ⟨ok_join h (by decide +kernel), ?_, ?_, ?_⟩
  all_goals
    rw [tjoin_l]
    refine notin_flat fun u hu hc => ?_
    first
      | (have q := chars_of (f := fun l => decide (45 ∉ l)) h (by decide +kernel) u hu; exact of_decide_eq_true q hc)
      | (have q := chars_of (f := fun l => decide (63 ∉ l)) h (by decide +kernel) u hu; exact of_decide_eq_true q hc)
      | (have q := chars_of (f := fun l => decide (93 ∉ l)) h (by decide +kernel) u hu; exact of_decide_eq_true q hc)
theorem wrong_c {A : Str} {c : Nat} {l : List Str} (h : ∀ z ∈ l, z ∈ SC4) (hc : badSign c) :
    comment (A ++ Str.ofString "<!--" ++ Txt.join (Str.ofString "") l ++ ⟨#[c]⟩ ++ Str.ofString "a" ++ Str.ofString "-->") (A.length : Int) = .fault (((A ++ Str.ofString "<!--" ++ Txt.join (Str.ofString "") l).length : Nat) : Int) := by
  obtain ⟨w1, w2, w3, w4⟩ := wrong_facts h
  generalize Txt.join (Str.ofString "") l = T at w1 w2 w3 w4
  rw [comment_bad (A := A.cps.toList) (T := T.cps.toList) (c := c) (B := []) (by simp only [app_l, l_cb, l_ce, l_a, List.append_assoc, List.cons_append, List.nil_append, List.append_nil]) (len_l A) w2 hc.2.1 w1 hc.1]
  congr 1
  simp only [Str.length_append, len_of l_cb, len_l T, List.length_cons, List.length_nil]
theorem wrong_p {A : Str} {c : Nat} {l : List Str} (h : ∀ z ∈ l, z ∈ SC4) (hc : badSign c) :
    cdata (A ++ Str.ofString "<![CDATA[" ++ Txt.join (Str.ofString "") l ++ ⟨#[c]⟩ ++ Str.ofString "a" ++ Str.ofString "]]>") (A.length : Int) = .fault (((A ++ Str.ofString "<![CDATA[" ++ Txt.join (Str.ofString "") l).length : Nat) : Int) := by
  obtain ⟨w1, w2, w3, w4⟩ := wrong_facts h
  generalize Txt.join (Str.ofString "") l = T at w1 w2 w3 w4
  rw [cdata_bad (A := A.cps.toList) (T := T.cps.toList) (c := c) (B := []) (by simp only [app_l, l_pb, l_pe, l_a, List.append_assoc, List.cons_append, List.nil_append, List.append_nil]) (len_l A) w4 hc.2.2.2 w1 hc.1]
  congr 1
  simp only [Str.length_append, len_of l_pb, len_l T, List.length_cons, List.length_nil]
theorem wrong_i {A : Str} {c : Nat} {l : List Str} (h : ∀ z ∈ l, z ∈ SC4) (hc : badSign c) :
    instruction (A ++ Str.ofString "<?go d" ++ Txt.join (Str.ofString "") l ++ ⟨#[c]⟩ ++ Str.ofString "a" ++ Str.ofString "?>") (A.length : Int) = .fault (((A ++ Str.ofString "<?go d" ++ Txt.join (Str.ofString "") l).length : Nat) : Int) := by
  obtain ⟨w1, w2, w3, w4⟩ := wrong_facts h
  generalize Txt.join (Str.ofString "") l = T at w1 w2 w3 w4
  rw [instr_bad (A := A.cps.toList) (T := T.cps.toList) (c := c) (B := []) (by simp only [app_l, l_gd, l_ie, l_a, List.append_assoc, List.cons_append, List.nil_append, List.append_nil]) (len_l A) w3 hc.2.2.1 w1 hc.1]
  congr 1
  simp only [Str.length_append, len_of l_gd, len_l T, List.length_cons, List.length_nil]
theorem asc_wi {A T : Str} {R : Str} : (A ++ Str.ofString "<?go d" ++ T ++ R ++ Str.ofString "a" ++ Str.ofString "?>").cps.getD (((A.length : Nat) : Int) + wl "<?").toNat 0 < 128 ∧ ∀ c : Int, To isNc (A ++ Str.ofString "<?go d" ++ T ++ R ++ Str.ofString "a" ++ Str.ofString "?>") (((A.length : Nat) : Int) + wl "<?" + 1) c → (A ++ Str.ofString "<?go d" ++ T ++ R ++ Str.ofString "a" ++ Str.ofString "?>").cps.getD c.toNat 0 < 128 :=
  asc_w (A := A.cps.toList) (T := T.cps.toList ++ (R.cps.toList ++ ([97] ++ [63, 62]))) (by simp only [app_l, l_gd, l_ie, l_a, List.append_assoc]) (len_l A)
theorem shaped_c {t : Str} {p : Int} (h : PyData.strOk t = true) : SeqAt.shaped (PyData.tuple [PyData.tuple [PyData.str (Str.ofString "comment"), PyData.str t], PyData.int p]) = true := by
  have h1 : PyData.strOk (Str.ofString "comment") = true := by decide +kernel
  simp [SeqAt.shaped, PyData.canLay0, PyData.canLayAll0, PyData.depth, PyData.depthAll, h, h1]
theorem shaped_p {t : Str} {p : Int} (h : PyData.strOk t = true) : SeqAt.shaped (PyData.tuple [PyData.str t, PyData.int p]) = true := by
  simp [SeqAt.shaped, PyData.canLay0, PyData.canLayAll0, PyData.depth, PyData.depthAll, h]
theorem shaped_i {t d : Str} {p : Int} (h : PyData.strOk t = true) (h' : PyData.strOk d = true) : SeqAt.shaped (PyData.tuple [PyData.tuple [PyData.str (Str.ofString "instruction"), PyData.str t, PyData.str d], PyData.int p]) = true := by
  have h1 : PyData.strOk (Str.ofString "instruction") = true := by decide +kernel
  simp [SeqAt.shaped, PyData.canLay0, PyData.canLayAll0, PyData.depth, PyData.depthAll, h, h', h1]
theorem asc_all {x : Str} (h : x.cps.toList.all (· < 128) = true) (j : Nat) : x.cps.getD j 0 < 128 := by
  by_cases hj : j < x.cps.size
  · have e : x.cps.getD j 0 = x.cps.toList[j]'(by rw [Array.length_toList]; exact hj) := by simp [Array.getD, hj]
    rw [e]
    have := List.all_eq_true.mp h _ (List.getElem_mem (by rw [Array.length_toList]; exact hj) : x.cps.toList[j]'_ ∈ _)
    exact of_decide_eq_true this
  · simp [Array.getD, hj]
end
section
open PySem.Calls
inductive RowOk (news : List (Addr × Obj)) : Value → Prop
  | cF {T D : Addr} {x : Str} {tx t1 t2 : Tok} {p : Int} : (T, tupO #[.str x tx, .ref 309, .ref D]) ∈ news → (D, tupO #[.str (Str.ofString "fault") t1, .int p t2]) ∈ news → comment x 0 = .fault p → x.length ≤ 1000 → RowOk news (.ref T)
  | cG {T D R : Addr} {x t : Str} {tx t1 t2 t3 : Tok} {p : Int} : (T, tupO #[.str x tx, .ref 309, .ref D]) ∈ news → (D, tupO #[.ref R, .int p t2]) ∈ news → (R, tupO #[.str (Str.ofString "comment") t1, .str t t3]) ∈ news → PyData.strOk t = true → comment x 0 = .found t p → x.length ≤ 1000 → RowOk news (.ref T)
  | pF {T D : Addr} {x : Str} {tx t1 t2 : Tok} {p : Int} : (T, tupO #[.str x tx, .ref 323, .ref D]) ∈ news → (D, tupO #[.str (Str.ofString "fault") t1, .int p t2]) ∈ news → cdata x 0 = .fault p → x.length ≤ 1000 → RowOk news (.ref T)
  | pG {T D : Addr} {x t : Str} {tx t1 t2 : Tok} {p : Int} : (T, tupO #[.str x tx, .ref 323, .ref D]) ∈ news → (D, tupO #[.str t t1, .int p t2]) ∈ news → PyData.strOk t = true → cdata x 0 = .found t p → x.length ≤ 1000 → RowOk news (.ref T)
  | iF {T D : Addr} {x : Str} {tx t1 t2 : Tok} {p : Int} : (T, tupO #[.str x tx, .ref 316, .ref D]) ∈ news → (D, tupO #[.str (Str.ofString "fault") t1, .int p t2]) ∈ news → instruction x 0 = .fault p → x.length ≤ 1000 → (x.cps.toList.all (· < 128)) = true → RowOk news (.ref T)
  | iG {T D R : Addr} {x t d : Str} {tx t1 t2 t3 t4 : Tok} {p : Int} : (T, tupO #[.str x tx, .ref 316, .ref D]) ∈ news → (D, tupO #[.ref R, .int p t2]) ∈ news → (R, tupO #[.str (Str.ofString "instruction") t1, .str t t3, .str d t4]) ∈ news → PyData.strOk t = true → PyData.strOk d = true → instruction x 0 = .found t d p → x.length ≤ 1000 → (x.cps.toList.all (· < 128)) = true → RowOk news (.ref T)
theorem news_more {g h : Heap} {L : Addr} {l : List (Addr × Obj)} {q : Addr × Obj} (N : News g L h l) (hq : q ∈ l) : News g L h (q :: l) := fun p hp => by
  rcases List.mem_cons.mp hp with rfl | hp
  · exact N _ hq
  · exact N p hp
def InvG (w : World) (mean : ExcName → Option Value) (mg mb : Str → Option Value) (A₀ : Around) (base : Heap) (outer : List Env) (g₀ g : Heap) : Prop :=
  KtsTurn (outer.filterMap (·.frame)) g₀ g ∧ Below A₀ base outer g ∧ (Mine.hd.heap_39 w.params).In g ∧ Top Mine.view (looseW Mine.view Mine.looseN) mean mg mb g ∧ KtsDicts (outer.filterMap (·.frame)) g

set_option maxHeartbeats 4000000 in
theorem told_C : ∀ (w : World) (mean : ExcName → Option Value) (mg mb : Str → Option Value) (dp un : Nat) (gd : Option (List Code)) (cn : Str) (cs : Scope) (a : Addr) (ccd : Value) (outer : List Env) (A₀ : Around) (base h₀ : Heap) (L : Addr) (m : Str → Option Value) (s : Shared) (Q E : Value → Shared → Prop) (news : List (Addr × Obj))
    , Below A₀ base outer h₀ → Fr h₀ L s.heap m → (Mine.hd.heap_39 w.params).In h₀ → Top Mine.view (looseW Mine.view Mine.looseN) mean mg mb h₀ → cs.kind = .function → (Mine.hd.heap_39 w.params).In base → Top Mine.view (looseW Mine.view Mine.looseN) mean mg mb base → KtsDicts (outer.filterMap (·.frame)) h₀ → News h₀ L s.heap news → 
    dp + 40 < 850 → un + 600 < 8600 →
    (∀ (h₁ h' : Heap) (tk' : Nat), KtsTurn (outer.filterMap (·.frame)) h₀ h₁ → Below A₀ base outer h₁ → (Mine.hd.heap_39 w.params).In h₁ → Top Mine.view (looseW Mine.view Mine.looseN) mean mg mb h₁ → KtsDicts (outer.filterMap (·.frame)) h₁ → Fr h₁ L h' m → News h₁ L h' news → Q (.bool true) { s with heap := h', toks := tk' }) →
    wpAny (model PySem.Challenge.rw_xw0205_01.row.prog w) (ktrTop dp un gd cn cs L a ccd [] outer) (call (.ref 330) []) Q E s := by
  k_with_none
  w_top off
  k_fill
  intro w mean mg mb dp un gd cn cs a ccd outer A₀ base h₀ L m s Q E news B F X T hk XB TB D N hd hu ret
  refine wpAny_call ?_
  (k_dflt (refine' code_defS (binds := []) ?k1 ?k2 ?k3 ?k4 ?k5 ?XB ?TB ?D ?T0 ?kA ?k6 ?k7 ?k8 ?k9 ?kB ?_ ?cK ?c2 ?c3 ?c4 ?c5; (case kA => exact rfl); (case k2 => k_asm); (case k1 => k_asm); (case XB => assumption); (case TB => assumption); (case D => assumption); (case T0 => first | assumption | exact KtsTurn.refl); (case k3 => k_asm); (case k4 => k_asm); (case k5 => k_asm); (case k6 => k_is); (case k7 => k_is); (case k8 => ktr_room); (case k9 => first | exact binds_K (by k_in) rfl (by k_is) rfl rfl rfl | exact BindsTo.of_eq rfl); (case kB => exact locs rfl); (case cK => first | exact rfl | assumption); (case c2 => exact rfl); (case c3 => exact rfl); (case c4 => exact rfl); (case c5 => decide); k_whole; intro g' L' h' FG' F' N' B' X' T' D'; (try dsimp only)))
  k_with "eval Tuple" => (k_here; (with_reducible show wpAny _ _ (eval (PySem.Expr.Tuple [.Constant _ _ _, .Name (Str.ofString "_law_comment") _, .Tuple [.Constant _ _ _, .Constant _ _ _] _ _] _ _) _) _ _ _); k_dflt (refine' row1_C _ _ _ _ _ _ _ _ _ _ _ _ _ _ _ _ _ _ _ _ _ _ _ _ _ _ _ _ _ ?k1 ?k2 ?k3 ?k5 ?k4 ?_; (case k1 => k_asm); (case k2 => k_asm); (case k3 => k_asm); (case k5 => k_asm); (case k4 => k_asm)); intro D9 T9 t19 t29 t39 h9 tk9 l09 l19 F9 N9; (try k_lt l09); (try simp only [AllLt, and_true] at l19); (try dsimp only))
  k_with "eval Tuple" => (k_here; (with_reducible show wpAny _ _ (eval (PySem.Expr.Tuple [.Constant _ _ _, .Name (Str.ofString "_law_instruction") _, .Tuple [.Constant _ _ _, .Constant _ _ _] _ _] _ _) _) _ _ _); k_dflt (refine' row1_I _ _ _ _ _ _ _ _ _ _ _ _ _ _ _ _ _ _ _ _ _ _ _ _ _ _ _ _ _ ?k1 ?k2 ?k3 ?k5 ?k4 ?_; (case k1 => k_asm); (case k2 => k_asm); (case k3 => k_asm); (case k5 => k_asm); (case k4 => k_asm)); intro D9 T9 t19 t29 t39 h9 tk9 l09 l19 F9 N9; (try k_lt l09); (try simp only [AllLt, and_true] at l19); (try dsimp only))
  k_with "eval Tuple" => (k_here; (with_reducible show wpAny _ _ (eval (PySem.Expr.Tuple [.Constant _ _ _, .Name (Str.ofString "_law_part") _, .Tuple [.Constant _ _ _, .Constant _ _ _] _ _] _ _) _) _ _ _); k_dflt (refine' row1_P _ _ _ _ _ _ _ _ _ _ _ _ _ _ _ _ _ _ _ _ _ _ _ _ _ _ _ _ _ ?k1 ?k2 ?k3 ?k5 ?k4 ?_; (case k1 => k_asm); (case k2 => k_asm); (case k3 => k_asm); (case k5 => k_asm); (case k4 => k_asm)); intro D9 T9 t19 t29 t39 h9 tk9 l09 l19 F9 N9; (try k_lt l09); (try simp only [AllLt, and_true] at l19); (try dsimp only))
  k_with "eval Tuple" => (k_here; (with_reducible show wpAny _ _ (eval (PySem.Expr.Tuple [.Constant _ _ _, .Name (Str.ofString "_law_comment") _, .Tuple [.Tuple _ _ _, .Constant _ _ _] _ _] _ _) _) _ _ _); k_dflt (refine' row2_C _ _ _ _ _ _ _ _ _ _ _ _ _ _ _ _ _ _ _ _ _ _ _ _ _ _ _ _ _ _ _ _ ?k1 ?k2 ?k3 ?k5 ?k4 ?_; (case k1 => k_asm); (case k2 => k_asm); (case k3 => k_asm); (case k5 => k_asm); (case k4 => k_asm)); intro R9 D9 T9 t19 t39 u09 u19 h9 tk9 l09 l19 l29 F9 N9; (try k_lt l09); (try simp only [AllLt, and_true] at l19); (try simp only [AllLt, and_true] at l29); (try dsimp only))
  k_with "eval Tuple" => (k_here; (with_reducible show wpAny _ _ (eval (PySem.Expr.Tuple [.Constant _ _ _, .Name (Str.ofString "_law_instruction") _, .Tuple [.Tuple _ _ _, .Constant _ _ _] _ _] _ _) _) _ _ _); k_dflt (refine' row2_I _ _ _ _ _ _ _ _ _ _ _ _ _ _ _ _ _ _ _ _ _ _ _ _ _ _ _ _ _ _ _ _ _ _ ?k1 ?k2 ?k3 ?k5 ?k4 ?_; (case k1 => k_asm); (case k2 => k_asm); (case k3 => k_asm); (case k5 => k_asm); (case k4 => k_asm)); intro R9 D9 T9 t19 t39 u09 u19 u29 h9 tk9 l09 l19 l29 F9 N9; (try k_lt l09); (try simp only [AllLt, and_true] at l19); (try simp only [AllLt, and_true] at l29); (try dsimp only))
  k_with "compareOp NotEq ref ref" => (k_here; (with_reducible show wpAny _ _ (compareOp CmpOp.NotEq (Value.ref _) (Value.ref _)) _ _ _); k_dflt (refine' ne_dataH ?r1 ?r2 ?s1 ?s2 ?u ?_; (case r1 => ke_read); (case r2 => ke_read); (case s1 => first | ke_shaped | k_extra "shaped"); (case s2 => first | ke_shaped | k_extra "shaped"); (case u => first | ke_room | ktr_units)); ke_norm)
  k_with "row_one" => first | exact RowOk.cF (by k_mem) (by k_mem) (by kernel_rfl) (by decide +kernel) | exact RowOk.pF (by k_mem) (by k_mem) (by kernel_rfl) (by decide +kernel) | exact RowOk.iF (by k_mem) (by k_mem) (by kernel_rfl) (by decide +kernel) (by decide +kernel) | exact RowOk.cG (by k_mem) (by k_mem) (by k_mem) (by decide +kernel) (by kernel_rfl) (by decide +kernel) | exact RowOk.pG (by k_mem) (by k_mem) (by decide +kernel) (by kernel_rfl) (by decide +kernel) | exact RowOk.iG (by k_mem) (by k_mem) (by k_mem) (by decide +kernel) (by decide +kernel) (by kernel_rfl) (by decide +kernel) (by decide +kernel)
  k_with "row_all" => ((repeat' (first | exact rows_nil | refine rows_cons ?_ ?_)); all_goals k_extra "row_one")
  k_with "exec For Tuple BinOp cons nil" => (k_here; refine wpAny_For ?_)
  k_with "pyIter ref" => (k_here; (with_reducible show wpAny _ _ (pyIter _) (fun it s₂ => codeAny _ _ _ _ _) _ _); k_extra "loop")
  k_with "call ref" => (k_here; (with_reducible show wpAny _ _ (call (Value.ref 302) [Value.str _ _, Value.int _ _, Value.ref 309]) _ _ _); k_dflt (refine' heard_C _ _ _ _ _ _ _ _ _ _ _ _ _ _ _ _ _ _ _ _ _ _ _ _ _ _ _ _ ?k1 ?k2 ?k3 ?k5 ?kK ?XB ?TB ?D ?k4 ?p0 ?p1 ?kd ?ku ?_ ?_; (case k1 => k_asm); (case k2 => k_asm); (case k3 => k_asm); (case k5 => k_asm); (case kK => first | exact rfl | assumption); (case XB => assumption); (case TB => assumption); (case D => assumption); (case k4 => k_asm); (case p0 => refine comment_R _ _ _ _ _ _ ?_ ?_ ?_ <;> first | omega | k_extra "side2" | k_extra "asc1" | k_extra "asc2"); (case p1 => k_is); (case kd => ktr_room); (case ku => ktr_units)); intro h19 h9 tk9 p9 a9 t19 t29 hres9 T9 B9 X9 P9 D9 F9 N9; (try dsimp only); k_extra "row"; rotate_left; intro h19 h9 tk9 v9 nw9 p9 a9 t99 hpg9 T9 B9 X9 P9 D9 F9 N9; k_dflt (obtain ⟨t9, b9, t19, t29, hv9, hn9, hres9⟩ := hpg9); (subst hv9 hn9); (try simp only [List.cons_append, List.nil_append] at N9); (try dsimp only); k_extra "row")
  k_with "call ref" => (k_here; (with_reducible show wpAny _ _ (call (Value.ref 302) [Value.str _ _, Value.int _ _, Value.ref 323]) _ _ _); k_dflt (refine' heard_C _ _ _ _ _ _ _ _ _ _ _ _ _ _ _ _ _ _ _ _ _ _ _ _ _ _ _ _ ?k1 ?k2 ?k3 ?k5 ?kK ?XB ?TB ?D ?k4 ?p0 ?p1 ?kd ?ku ?_ ?_; (case k1 => k_asm); (case k2 => k_asm); (case k3 => k_asm); (case k5 => k_asm); (case kK => first | exact rfl | assumption); (case XB => assumption); (case TB => assumption); (case D => assumption); (case k4 => k_asm); (case p0 => refine cdata_R _ _ _ _ _ _ ?_ ?_ ?_ <;> first | omega | k_extra "side2" | k_extra "asc1" | k_extra "asc2"); (case p1 => k_is); (case kd => ktr_room); (case ku => ktr_units)); intro h19 h9 tk9 p9 a9 t19 t29 hres9 T9 B9 X9 P9 D9 F9 N9; (try dsimp only); k_extra "row"; rotate_left; intro h19 h9 tk9 v9 nw9 p9 a9 t99 hpg9 T9 B9 X9 P9 D9 F9 N9; k_dflt (obtain ⟨t9, t19, hv9, hn9, hres9⟩ := hpg9); (subst hv9 hn9); (try simp only [List.cons_append, List.nil_append] at N9); (try dsimp only); k_extra "row")
  k_with "call ref" => (k_here; (with_reducible show wpAny _ _ (call (Value.ref 302) [Value.str _ _, Value.int _ _, Value.ref 316]) _ _ _); k_dflt (refine' heard_C _ _ _ _ _ _ _ _ _ _ _ _ _ _ _ _ _ _ _ _ _ _ _ _ _ _ _ _ ?k1 ?k2 ?k3 ?k5 ?kK ?XB ?TB ?D ?k4 ?p0 ?p1 ?kd ?ku ?_ ?_; (case k1 => k_asm); (case k2 => k_asm); (case k3 => k_asm); (case k5 => k_asm); (case kK => first | exact rfl | assumption); (case XB => assumption); (case TB => assumption); (case D => assumption); (case k4 => k_asm); (case p0 => refine instruction_R _ _ _ _ _ _ ?_ ?_ ?_ ?_ ?_ <;> first | omega | k_extra "side2" | k_extra "asc1" | k_extra "asc2"); (case p1 => k_is); (case kd => ktr_room); (case ku => ktr_units)); intro h19 h9 tk9 p9 a9 t19 t29 hres9 T9 B9 X9 P9 D9 F9 N9; (try dsimp only); k_extra "row"; rotate_left; intro h19 h9 tk9 v9 nw9 p9 a9 t99 hpg9 T9 B9 X9 P9 D9 F9 N9; k_dflt (obtain ⟨t9, d9, b9, t19, t29, t39, hv9, hn9, hres9⟩ := hpg9); (subst hv9 hn9); (try simp only [List.cons_append, List.nil_append] at N9); (try dsimp only); k_extra "row")
  k_with "loop" =>
    (rename Fr _ _ _ _ => lF')
    (rename News _ _ _ _ => lN')
    (rename KtsDicts _ _ => lD')
    (rename Below _ _ _ _ => lB')
    (rename Frag.In _ _ => lX')
    (rename Top _ _ _ _ _ _ => lT')
    (k_dflt (refine' forG_rows RowOk (InvG w mean mg mb ?a ?b ?o ?g) ?hh ?hn ⟨KtsTurn.refl, lB', lX', lT', lD'⟩ lF' lN' ?hm ?hrows ?_ ?_; (case hh => rfl); (case hn => exact fun g hg b e => hg.1.none_ b e); (case hm => exact List.Mem.head _)))
    (case hrows => k_extra "row_all")
    (clear lF' lN' lD' lB' lX' lT')
    (rotate_left)
    (intro g8 h8 tk8 m8 hg8 F8 N8)
    (obtain ⟨T8, B8, X8, P8, D8⟩ := hg8)
    (rotate_left)
    (intro v8 nw8 g8 h8 m8 tk8 I8 o8 hr8 hg8 hl8 F8 N8)
    (obtain ⟨T8, B8, X8, P8, D8⟩ := hg8)
    (rcases hr8 with ⟨hT8, hD8, hrow8, hlen8⟩ | ⟨hT8, hD8, hR8, hok8, hrow8, hlen8⟩ | ⟨hT8, hD8, hrow8, hlen8⟩ | ⟨hT8, hD8, hok8, hrow8, hlen8⟩ | ⟨hT8, hD8, hrow8, hlen8, has8⟩ | ⟨hT8, hD8, hR8, hok8, hok9, hrow8, hlen8, has8⟩)
    (all_goals (try (have N8b := news_more N8 (List.Mem.tail _ hR8); clear N8; have N8 := N8b; clear N8b)))
    (all_goals (try (have N8b := news_more (news_more N8 (by first | exact List.Mem.tail _ hD8 | exact List.Mem.tail _ (List.Mem.tail _ hD8))) (by first | exact List.Mem.tail _ (List.Mem.tail _ hT8) | exact List.Mem.tail _ (List.Mem.tail _ (List.Mem.tail _ hT8))); clear N8)))
  k_with "row" => (k_dflt (have e9 := hrow8.symm.trans hres9); cases e9)
  k_with "shaped" => first
    | exact shaped_i hok8 hok9
    | exact shaped_p hok8
    | exact shaped_c hok8
  k_with "asc1" => exact fun _ => asc_all has8 _
  k_with "asc2" => exact fun _ _ _ => asc_all has8 _
  k_steps
  (all_goals first
    | (with_reducible rename Fr _ _ _ _ => kF
       with_reducible rename News _ _ _ _ => kN
       exact ⟨_, _, _, _, rfl, ⟨T8.trans (by assumption), by assumption, by assumption, by assumption, by assumption⟩, kF, fun p hp => kN p (by first | exact List.Mem.tail _ (List.Mem.tail _ (List.Mem.tail _ hp)) | exact List.Mem.tail _ (List.Mem.tail _ (List.Mem.tail _ (List.Mem.tail _ hp))) | exact List.Mem.tail _ (List.Mem.tail _ (List.Mem.tail _ (List.Mem.tail _ (List.Mem.tail _ hp)))))⟩)
    | skip)
  (rename News _ _ _ _ => kN)
  (rename Fr _ _ _ _ => kF)
  (rename KtsTurn _ _ _ => kT)
  (rename Below _ _ _ _ => kB)
  (rename Frag.In _ _ => kX)
  (rename Top _ _ _ _ _ _ => kP)
  (rename KtsDicts _ _ => kD)
  refine ret _ _ _ kT kB kX kP kD kF (fun p hp => kN p ?_)
  repeat (first | exact hp | refine List.Mem.tail _ ?_)
end
section
open PySem.Calls
/-- no run lowers the number of tokens given out -/
theorem runs_toks {M : Model} {Γ : Ctx} {p : Pos} {t : Sem Fin} {fs : List Frame} {s s' : Shared} {e : End} (h : Runs M Γ p t fs s e s') : s.toks ≤ s'.toks := by
  induction h with
  | done | raise | yield => exact Nat.le_refl _
  | again _ _ ih | rule _ ih | «at» _ ih | load _ _ ih | update _ _ ih | loadIfAlive _ ih | point _ ih | alloc _ ih | ask _ ih | choose _ _ ih | os _ ih | handled _ ih | genState _ _ ih | stack _ ih | thread _ ih | newGen _ ih | callSusp _ ih | resumeJustStarted _ _ _ ih | resumeThrowFresh _ _ ih | resumeRunning _ _ ih | resumeFinished _ _ ih | segSuspOut _ _ ih => exact ih
  | fresh _ ih => exact Nat.le_trans (Nat.le_succ _) ih
  | call _ _ i1 i2 | resumeFresh _ _ _ _ i1 i2 | resumeSuspended _ _ _ _ i1 i2 | segRet _ _ i1 i2 | segGen _ _ i1 i2 | segSuspGen _ _ _ _ i1 i2 => exact Nat.le_trans i1 i2
theorem wakes_toks {M : Model} {Γ : Ctx} {p : Pos} {g : Nat} {r : Resume} {s s' : Shared} {res : GenResult} (h : Wakes M Γ p g r s res s') : s.toks ≤ s'.toks := by
  unfold Wakes at h
  split at h
  · exact h.elim
  · split at h
    · obtain ⟨_, _, a, _, _, b⟩ := h
      subst b
      have q := runs_toks a
      exact q
    · rw [h.2]; exact Nat.le_refl _
    · rw [h.2]; exact Nat.le_refl _
  · obtain ⟨_, _, a, _, _, b⟩ := h
    subst b
    have q := runs_toks a
    exact q
  · rw [h.2]; exact Nat.le_refl _
  · rw [h.2]; exact Nat.le_refl _
theorem wp_toks {α : Type} {M : Model} {Γ : Ctx} (t : Sem α) {Q : α → Pos → Shared → Prop} {E : Value → Pos → Shared → Prop} {n : Nat} : ∀ (p : Pos) (s : Shared), n ≤ s.toks →
    Sem.wp M Γ t (fun a p' s' => n ≤ s'.toks → Q a p' s') (fun e p' s' => n ≤ s'.toks → E e p' s') p s → Sem.wp M Γ t Q E p s := by
  induction t with
  | pure x => exact fun _ _ h k => k h
  | raise v => exact fun _ _ h k => k h
  | unsupported | finish | yield | fork | await | register => exact fun _ _ _ => id
  | rule _ k ih | «at» _ k ih | alloc _ k ih | loadIfAlive _ k ih | point _ k ih | ask k ih | os _ _ k ih | handled _ k ih | newGen _ k ih | stack k ih | thread k ih => exact fun _ _ h k => ih _ _ _ h k
  | fresh k ih => exact fun _ _ h k => ih _ _ _ (Nat.le_succ_of_le h) k
  | load a _ k ih | genState a k ih => exact fun _ _ h ⟨o, ho, k⟩ => ⟨o, ho, ih _ _ _ h k⟩
  | update a _ f k ih | choose _ _ k ih => exact fun _ _ h ⟨ha, k⟩ => ⟨ha, ih _ _ _ h k⟩
  | call c hh g l k ih => exact fun _ _ h ⟨r, s', hr, k⟩ => ⟨r, s', hr, ih _ _ _ (Nat.le_trans h (runs_toks hr)) k⟩
  | resume g r l k ih => exact fun _ _ h ⟨res, s', hw, k⟩ => ⟨res, s', hw, ih _ _ _ (Nat.le_trans h (wakes_toks hw)) k⟩
theorem wpAny_toks {α : Type} {M : Model} {A : Around} {t : Sem α} {Q : α → Shared → Prop} {E : Value → Shared → Prop} {s : Shared} {n : Nat} (h : n ≤ s.toks)
    (k : wpAny M A t (fun a s' => n ≤ s'.toks → Q a s') (fun e s' => n ≤ s'.toks → E e s') s) : wpAny M A t Q E s := fun Γ p hΓ => wp_toks t p s h (k Γ p hΓ)
theorem toks_gen {α : Type} {M : Model} {A : Around} {t : Sem α} {Q : α → Shared → Prop} {E : Value → Shared → Prop} {s : Shared} {n : Nat} (h : n ≤ s.toks)
    (k : ∀ tk, n ≤ tk → wpAny M A t Q E { s with toks := tk }) : wpAny M A t Q E s := k _ h
end
section
open PySem.Calls
theorem q_true {Q : Value → Shared → Prop} {b : Bool} {s : Shared} (e : b = true) (h : Q (.bool true) s) : Q (.bool b) s := by
  rw [e]
  exact h
theorem strs_nil : Strs [] [] := fun _ h => nomatch h
theorem strs_cons {z : Str} {t : Tok} {vs : List Value} {S : List Str} (h : Strs vs S) : Strs (.str z t :: vs) (z :: S) := fun v hv => by
  rcases List.mem_cons.mp hv with rfl | hv
  · exact ⟨z, .head _, t, rfl⟩
  · obtain ⟨z', a, t', b⟩ := h v hv
    exact ⟨z', .tail _ a, t', b⟩
theorem join_len {l : List Str} (h : l.length ≤ 4) (hS : ∀ z ∈ l, z.length ≤ 16) : (Txt.join (Str.ofString "") l).length ≤ 64 := by
  have h1 := StrLaws.join_length_le (Str.ofString "") l
  have h2 : (Str.ofString "").length = 0 := by decide
  rw [h2, Nat.mul_zero, Nat.add_zero] at h1
  rw [show Txt.join (Str.ofString "") l = Str.join (Str.ofString "") l from StrLaws.glued_eq_join _ _]
  refine Nat.le_trans h1 ?_
  have h3 : ∀ (k : List Str), (∀ z ∈ k, z.length ≤ 16) → (k.map (·.length)).sum ≤ 16 * k.length := by
    intro k
    induction k with
    | nil => intro _; simp
    | cons a k ih =>
      intro hk
      have e1 := hk a (.head _)
      have e2 := ih fun z hz => hk z (.tail _ hz)
      simp only [List.map_cons, List.sum_cons, List.length_cons]
      omega
  have := h3 l hS
  omega
theorem pieces_K : ∀ (w : World) (mean : ExcName → Option Value) (mg mb : Str → Option Value) (dp un : Nat) (gd : Option (List Code)) (cn : Str) (cs : Scope) (a : Addr) (ccd : Value) (cl : List (Str × Addr)) (outer : List Env) (A₀ : Around) (base h₀ : Heap) (L : Addr) (m : Str → Option Value) (s : Shared) (Q E : Value → Shared → Prop) (news : List (Addr × Obj))
    (src th : Addr) (x y : Int) (tx ty : Tok) (n n2 : Nat) (vs : List Value) (S : List Str) (g : Obj → List (Addr × Obj)),
    Below A₀ base outer h₀ → Fr h₀ L s.heap m → (Mine.hd.heap_39 w.params).In h₀ → Top Mine.view (looseW Mine.view Mine.looseN) mean mg mb h₀ → cs.kind = .function → News h₀ L s.heap news → UpdF src (listOf #[.int x tx, .int y ty] n) news g → (th, listOf vs.toArray n2) ∈ news → @Ne Nat th src →
    dp + 3 < recursionLimit → un + 24 < cLine → 0 ≤ x → 0 ≤ y → y < 2147483647 → 1 < vs.length → vs.length < 100 →
    Strs vs S → (∀ z ∈ S, z.length ≤ 16) →
    (∀ (l : List Str) (x' y' : Int) (tx' ty' t : Tok) (n' : Nat) (h' : Heap) (tk' : Nat), l.length ≤ 4 → (∀ z ∈ l, z ∈ S) → (Txt.join (Str.ofString "") l).length ≤ 64 → 0 ≤ x' → 0 ≤ y' → y' < 2147483647 → Fr h₀ L h' m → News h₀ L h' (g (listOf #[.int x' tx', .int y' ty'] n')) →
      Q (.str (Txt.join (Str.ofString "") l) t) { s with heap := h', toks := tk' }) →
    wpAny (model PySem.Challenge.rw_xw0205_01.row.prog w) (ktrTop dp un gd cn cs L a ccd cl outer) (call (.ref 335) [.ref src, .ref th]) Q E s := by
  intro w mean mg mb dp un gd cn cs a ccd cl outer A₀ base h₀ L m s Q E news src th x y tx ty n n2 vs S g B F X T hk N U hm hne hd hu hx hy hy2 htop htop2 hvs hS ret
  obtain ⟨pre, post, rfl, hg, a1, a2⟩ := U.split
  refine pieces_C w mean mg mb dp un gd cn cs a ccd cl outer A₀ base h₀ L m s Q E (pre ++ post) src th x y tx ty n n2 vs S B F X T hk ?_ ?_ hne hd hu hx hy hy2 htop htop2 hvs hS ?_
  · intro p hp
    refine N p ?_
    rw [mem_split]
    rcases List.mem_cons.mp hp with rfl | h
    · exact mem_split.mp hm
    · exact List.mem_cons.mp h
  · intro p hp
    rcases List.mem_append.mp hp with h | h
    · exact a1 p h
    · exact a2 p h
  · intro l x' y' tx' ty' t n' h' tk' h0 h1 h2 h3 h4 F' N'
    refine ret l x' y' tx' ty' t n' h' tk' h0 h1 (join_len h0 fun z hz => hS z (h1 z hz)) h2 h3 h4 F' ?_
    rw [hg]
    intro p hp
    refine N' p ?_
    rcases mem_split.mp hp with rfl | h
    · exact .tail _ (.head _)
    · exact .tail _ (.tail _ h)
theorem pieces_T : ∀ (w : World) (mean : ExcName → Option Value) (mg mb : Str → Option Value) (dp un : Nat) (gd : Option (List Code)) (cn : Str) (cs : Scope) (a : Addr) (ccd : Value) (cl : List (Str × Addr)) (outer : List Env) (A₀ : Around) (base h₀ : Heap) (L : Addr) (m : Str → Option Value) (s : Shared) (Q E : Value → Shared → Prop) (news : List (Addr × Obj))
    (src th : Addr) (x y : Int) (tx ty : Tok) (n n2 : Nat) (vs : List Value) (S : List Str) (g : Obj → List (Addr × Obj)),
    Below A₀ base outer h₀ → Fr h₀ L s.heap m → (Mine.hd.heap_39 w.params).In h₀ → Top Mine.view (looseW Mine.view Mine.looseN) mean mg mb h₀ → cs.kind = .function → News h₀ L s.heap news → UpdF src (listOf #[.int x tx, .int y ty] n) news g → (th, listOf vs.toArray n2) ∈ news → @Ne Nat th src →
    dp + 3 < recursionLimit → un + 24 < cLine → 0 ≤ x → 0 ≤ y → y < 2147483647 → 1 < vs.length → vs.length < 100 →
    Strs vs S → (∀ z ∈ S, z.length ≤ 16) → 1 ≤ s.toks →
    (∀ (l : List Str) (x' y' : Int) (tx' ty' t : Tok) (n' : Nat) (h' : Heap) (tk' : Nat), 1 ≤ tk' → l.length ≤ 4 → (∀ z ∈ l, z ∈ S) → (Txt.join (Str.ofString "") l).length ≤ 64 → 0 ≤ x' → 0 ≤ y' → y' < 2147483647 → Fr h₀ L h' m → News h₀ L h' (g (listOf #[.int x' tx', .int y' ty'] n')) →
      Q (.str (Txt.join (Str.ofString "") l) t) { s with heap := h', toks := tk' }) →
    wpAny (model PySem.Challenge.rw_xw0205_01.row.prog w) (ktrTop dp un gd cn cs L a ccd cl outer) (call (.ref 335) [.ref src, .ref th]) Q E s := by
  intro w mean mg mb dp un gd cn cs a ccd cl outer A₀ base h₀ L m s Q E news src th x y tx ty n n2 vs S g B F X T hk N U hm hne hd hu hx hy hy2 htop htop2 hvs hS ht ret
  exact wpAny_toks ht (pieces_K w mean mg mb dp un gd cn cs a ccd cl outer A₀ base h₀ L m s _ _ news src th x y tx ty n n2 vs S g B F X T hk N U hm hne hd hu hx hy hy2 htop htop2 hvs hS
    fun l x' y' tx' ty' t n' h' tk' h0 h1 h2 h3 h4 h5 F' N' hp => ret l x' y' tx' ty' t n' h' tk' hp h0 h1 h2 h3 h4 h5 F' N')
theorem oneS_K : ∀ (w : World) (mean : ExcName → Option Value) (mg mb : Str → Option Value) (dp un : Nat) (gd : Option (List Code)) (cn : Str) (cs : Scope) (a : Addr) (ccd : Value) (cl : List (Str × Addr)) (outer : List Env) (A₀ : Around) (base h₀ : Heap) (L : Addr) (m : Str → Option Value) (s : Shared) (Q E : Value → Shared → Prop) (news : List (Addr × Obj))
    (src th : Addr) (x y : Int) (tx ty : Tok) (n n2 : Nat) (vs : List Value) (S : List Str) (g : Obj → List (Addr × Obj)),
    Below A₀ base outer h₀ → Fr h₀ L s.heap m → (Mine.hd.heap_39 w.params).In h₀ → Top Mine.view (looseW Mine.view Mine.looseN) mean mg mb h₀ → cs.kind = .function → News h₀ L s.heap news → UpdF src (listOf #[.int x tx, .int y ty] n) news g → (th, listOf vs.toArray n2) ∈ news → @Ne Nat th src →
    dp + 2 < recursionLimit → un + 16 < cLine → 0 ≤ x → 0 ≤ y → y < 2147483647 → 1 < vs.length → vs.length < 100 → Strs vs S → (∀ z ∈ S, z.length ≤ 16) →
    (∀ (z : Str) (t : Tok) (x' y' : Int) (tx' ty' : Tok) (n' : Nat) (h' : Heap) (tk' : Nat), z ∈ S → z.length ≤ 16 → 0 ≤ x' → 0 ≤ y' → y' < 2147483647 → Fr h₀ L h' m → News h₀ L h' (g (listOf #[.int x' tx', .int y' ty'] n')) → Q (.str z t) { s with heap := h', toks := tk' }) →
    wpAny (model PySem.Challenge.rw_xw0205_01.row.prog w) (ktrTop dp un gd cn cs L a ccd cl outer) (call (.ref 295) [.ref src, .ref th]) Q E s := by
  intro w mean mg mb dp un gd cn cs a ccd cl outer A₀ base h₀ L m s Q E news src th x y tx ty n n2 vs S g B F X T hk N U hm hne hd hu hx hy hy2 htop htop2 hvs hS ret
  refine one_K w mean mg mb dp un gd cn cs a ccd cl outer A₀ base h₀ L m s Q E news src th x y tx ty n n2 vs g B F X T hk N U hm hne hd hu hx hy hy2 htop htop2 ?_
  intro v x' y' tx' ty' n' h' tk' hv h1 h2 h3 F' N'
  obtain ⟨z, hz, t, rfl⟩ := hvs v hv
  exact ret z t x' y' tx' ty' n' h' tk' hz (hS z hz) h1 h2 h3 F' N'
end
section
open PySem.Calls
set_option maxHeartbeats 1000000 in
theorem right_C : ∀ (w : World) (mean : ExcName → Option Value) (mg mb : Str → Option Value) (dp un : Nat) (gd : Option (List Code)) (cn : Str) (cs : Scope) (a : Addr) (ccd : Value) (outer : List Env) (A₀ : Around) (base h₀ : Heap) (L : Addr) (m : Str → Option Value) (s : Shared) (Q E : Value → Shared → Prop) (news : List (Addr × Obj))
    (src : Addr) (x y : Int) (tx ty : Tok) (n : Nat),
    Below A₀ base outer h₀ → Fr h₀ L s.heap m → (Mine.hd.heap_39 w.params).In h₀ → Top Mine.view (looseW Mine.view Mine.looseN) mean mg mb h₀ → cs.kind = .function → (Mine.hd.heap_39 w.params).In base → Top Mine.view (looseW Mine.view Mine.looseN) mean mg mb base → KtsDicts (outer.filterMap (·.frame)) h₀ → News h₀ L s.heap ((src, listOf #[.int x tx, .int y ty] n) :: news) → (∀ p ∈ news, p.1 ≠ src) →
    dp + 40 < 850 → un + 600 < 8600 → 0 ≤ x → 0 ≤ y → y < 2147483647 →
    (∀ (h₁ h' : Heap) (tk' : Nat) (x' y' : Int) (tx' ty' : Tok) (n' : Nat), 0 ≤ x' → 0 ≤ y' → y' < 2147483647 → KtsTurn (outer.filterMap (·.frame)) h₀ h₁ → Below A₀ base outer h₁ → (Mine.hd.heap_39 w.params).In h₁ → Top Mine.view (looseW Mine.view Mine.looseN) mean mg mb h₁ → KtsDicts (outer.filterMap (·.frame)) h₁ → Fr h₁ L h' m → News h₁ L h' ((src, listOf #[.int x' tx', .int y' ty'] n') :: news) → Q (.bool true) { s with heap := h', toks := tk' }) →
    wpAny (model PySem.Challenge.rw_xw0205_01.row.prog w) (ktrTop dp un gd cn cs L a ccd [] outer) (call (.ref 342) [.ref src]) Q E s := by
  k_with_none
  w_top off
  k_fill
  intro w mean mg mb dp un gd cn cs a ccd outer A₀ base h₀ L m s Q E news src x y tx ty n B F X T hk XB TB D N hsrc hd hu hx hy hy2 ret
  refine wpAny_call ?_
  (k_dflt (refine' code_defS (binds := [(Str.ofString "source", .ref src)]) ?k1 ?k2 ?k3 ?k4 ?k5 ?XB ?TB ?D ?T0 ?kA ?k6 ?k7 ?k8 ?k9 ?kB ?_ ?cK ?c2 ?c3 ?c4 ?c5; (case kA => exact rfl); (case k2 => k_asm); (case k1 => k_asm); (case XB => assumption); (case TB => assumption); (case D => assumption); (case T0 => first | assumption | exact KtsTurn.refl); (case k3 => k_asm); (case k4 => k_asm); (case k5 => k_asm); (case k6 => k_is); (case k7 => k_is); (case k8 => ktr_room); (case k9 => first | exact binds_K (by k_in) rfl (by k_is) rfl rfl rfl | exact BindsTo.of_eq rfl); (case kB => exact locs rfl); (case cK => first | exact rfl | assumption); (case c2 => exact rfl); (case c3 => exact rfl); (case c4 => exact rfl); (case c5 => decide); k_whole; intro g' L' h' FG' F' N' B' X' T' D'; (try dsimp only)))
  k_with "call ref" => (k_here; (with_reducible show wpAny _ _ (call (Value.ref 302) [Value.str _ _, Value.int _ _, Value.ref 309]) _ _ _); k_dflt (refine' heard_C _ _ _ _ _ _ _ _ _ _ _ _ _ _ _ _ _ _ _ _ _ _ _ _ _ _ _ _ ?k1 ?k2 ?k3 ?k5 ?kK ?XB ?TB ?D ?k4 ?p0 ?p1 ?kd ?ku ?_ ?_; (case k1 => k_asm); (case k2 => k_asm); (case k3 => k_asm); (case k5 => k_asm); (case kK => first | exact rfl | assumption); (case XB => assumption); (case TB => assumption); (case D => assumption); (case k4 => k_asm); (case p0 => refine comment_R _ _ _ _ _ _ ?_ ?_ ?_ <;> first | omega | k_extra "side2" | k_extra "asc1" | k_extra "asc2"); (case p1 => k_is); (case kd => ktr_room); (case ku => ktr_units)); intro h19 h9 tk9 p9 a9 t19 t29 hres9 T9 B9 X9 P9 D9 F9 N9; (try dsimp only); k_extra "row"; rotate_left; intro h19 h9 tk9 v9 nw9 p9 a9 t99 hpg9 T9 B9 X9 P9 D9 F9 N9; k_dflt (obtain ⟨t9, b9, t19, t29, hv9, hn9, hres9⟩ := hpg9); (subst hv9 hn9); (try simp only [List.cons_append, List.nil_append] at N9); (try dsimp only); k_extra "row")
  k_with "call ref" => (k_here; (with_reducible show wpAny _ _ (call (Value.ref 302) [Value.str _ _, Value.int _ _, Value.ref 323]) _ _ _); k_dflt (refine' heard_C _ _ _ _ _ _ _ _ _ _ _ _ _ _ _ _ _ _ _ _ _ _ _ _ _ _ _ _ ?k1 ?k2 ?k3 ?k5 ?kK ?XB ?TB ?D ?k4 ?p0 ?p1 ?kd ?ku ?_ ?_; (case k1 => k_asm); (case k2 => k_asm); (case k3 => k_asm); (case k5 => k_asm); (case kK => first | exact rfl | assumption); (case XB => assumption); (case TB => assumption); (case D => assumption); (case k4 => k_asm); (case p0 => refine cdata_R _ _ _ _ _ _ ?_ ?_ ?_ <;> first | omega | k_extra "side2" | k_extra "asc1" | k_extra "asc2"); (case p1 => k_is); (case kd => ktr_room); (case ku => ktr_units)); intro h19 h9 tk9 p9 a9 t19 t29 hres9 T9 B9 X9 P9 D9 F9 N9; (try dsimp only); k_extra "row"; rotate_left; intro h19 h9 tk9 v9 nw9 p9 a9 t99 hpg9 T9 B9 X9 P9 D9 F9 N9; k_dflt (obtain ⟨t9, t19, hv9, hn9, hres9⟩ := hpg9); (subst hv9 hn9); (try simp only [List.cons_append, List.nil_append] at N9); (try dsimp only); k_extra "row")
  k_with "call ref" => (k_here; (with_reducible show wpAny _ _ (call (Value.ref 302) [Value.str _ _, Value.int _ _, Value.ref 316]) _ _ _); k_dflt (refine' heard_C _ _ _ _ _ _ _ _ _ _ _ _ _ _ _ _ _ _ _ _ _ _ _ _ _ _ _ _ ?k1 ?k2 ?k3 ?k5 ?kK ?XB ?TB ?D ?k4 ?p0 ?p1 ?kd ?ku ?_ ?_; (case k1 => k_asm); (case k2 => k_asm); (case k3 => k_asm); (case k5 => k_asm); (case kK => first | exact rfl | assumption); (case XB => assumption); (case TB => assumption); (case D => assumption); (case k4 => k_asm); (case p0 => refine instruction_R _ _ _ _ _ _ ?_ ?_ ?_ ?_ ?_ <;> first | omega | k_extra "side2" | k_extra "asc1" | k_extra "asc2"); (case p1 => k_is); (case kd => ktr_room); (case ku => ktr_units)); intro h19 h9 tk9 p9 a9 t19 t29 hres9 T9 B9 X9 P9 D9 F9 N9; (try dsimp only); k_extra "row"; rotate_left; intro h19 h9 tk9 v9 nw9 p9 a9 t99 hpg9 T9 B9 X9 P9 D9 F9 N9; k_dflt (obtain ⟨t9, d9, b9, t19, t29, t39, hv9, hn9, hres9⟩ := hpg9); (subst hv9 hn9); (try simp only [List.cons_append, List.nil_append] at N9); (try dsimp only); k_extra "row")
  k_with "call ref" => (k_here; (with_reducible show wpAny _ _ (call (Value.ref 288) _) _ _ _); k_dflt (refine' take_K _ _ _ _ _ _ _ _ _ _ _ _ _ _ _ _ _ _ _ _ _ _ _ _ _ _ _ _ _ _ _ ?k1 ?k2 ?k3 ?k5 ?kK ?k4 ?p0 ?kd ?ku ?q0 ?q1 ?q2 ?q3 ?q4 ?_; (case k1 => k_asm); (case k2 => k_asm); (case k3 => k_asm); (case k5 => k_asm); (case kK => first | exact rfl | assumption); (case k4 => k_asm); (case p0 => k_updF); (case kd => ktr_room); (case ku => ktr_units); (case q0 => assumption); (case q1 => assumption); (case q2 => assumption); (case q3 => omega); (case q4 => omega)); intro x9 y9 r9 tx9 ty9 n9 t9 h9 tk9 hx9 hy9 hz9 hr9 hs9 F9 N9; (try dsimp only))
  k_with "call ref" => (k_here; (with_reducible show wpAny _ _ (call (Value.ref 295) _) _ _ _); k_dflt (refine' oneS_K _ _ _ _ _ _ _ _ _ _ _ _ _ _ _ _ _ _ _ _ _ _ _ _ _ _ _ _ _ _ _ _ _ ?k1 ?k2 ?k3 ?k5 ?kK ?k4 ?p0 ?p1 ?p2 ?kd ?ku ?q0 ?q1 ?q2 ?q3 ?q4 ?q5 ?q6 ?_; (case k1 => k_asm); (case k2 => k_asm); (case k3 => k_asm); (case k5 => k_asm); (case kK => first | exact rfl | assumption); (case k4 => k_asm); (case p0 => k_updF); (case p1 => k_mem); (case p2 => k_ne); (case kd => ktr_room); (case ku => ktr_units); (case q0 => assumption); (case q1 => assumption); (case q2 => assumption); (case q3 => first | decide | (simp only [List.length_cons, List.length_nil]; omega)); (case q4 => first | decide | (simp only [List.length_cons, List.length_nil]; omega)); (case q5 => first | exact (strs_cons (strs_cons strs_nil)) | exact (strs_cons (strs_cons (strs_cons strs_nil))) | exact (strs_cons (strs_cons (strs_cons (strs_cons strs_nil)))) | exact (strs_cons (strs_cons (strs_cons (strs_cons (strs_cons strs_nil))))) | exact (strs_cons (strs_cons (strs_cons (strs_cons (strs_cons (strs_cons strs_nil)))))) | exact (strs_cons (strs_cons (strs_cons (strs_cons (strs_cons (strs_cons (strs_cons strs_nil))))))) | exact (strs_cons (strs_cons (strs_cons (strs_cons (strs_cons (strs_cons (strs_cons (strs_cons strs_nil))))))))); (case q6 => decide +kernel)); intro w9 tw9 x9 y9 tx9 ty9 n9 h9 tk9 hw9 hwl9 hx9 hy9 hz9 F9 N9; (try dsimp only))
  k_with "call ref" => (k_here; (with_reducible show wpAny _ _ (call (Value.ref 335) _) _ _ _); k_dflt (refine' pieces_T _ _ _ _ _ _ _ _ _ _ _ _ _ _ _ _ _ _ _ _ _ _ _ _ _ _ _ _ _ _ _ _ _ ?k1 ?k2 ?k3 ?k5 ?kK ?k4 ?p0 ?p1 ?p2 ?kd ?ku ?q0 ?q1 ?q2 ?q3 ?q4 ?q5 ?q6 ?q7 ?_; (case k1 => k_asm); (case k2 => k_asm); (case k3 => k_asm); (case k5 => k_asm); (case kK => first | exact rfl | assumption); (case k4 => k_asm); (case p0 => k_updF); (case p1 => k_mem); (case p2 => k_ne); (case kd => ktr_room); (case ku => ktr_units); (case q0 => assumption); (case q1 => assumption); (case q2 => assumption); (case q3 => first | decide | (simp only [List.length_cons, List.length_nil]; omega)); (case q4 => first | decide | (simp only [List.length_cons, List.length_nil]; omega)); (case q5 => first | exact (strs_cons (strs_cons strs_nil)) | exact (strs_cons (strs_cons (strs_cons strs_nil))) | exact (strs_cons (strs_cons (strs_cons (strs_cons strs_nil)))) | exact (strs_cons (strs_cons (strs_cons (strs_cons (strs_cons strs_nil))))) | exact (strs_cons (strs_cons (strs_cons (strs_cons (strs_cons (strs_cons strs_nil)))))) | exact (strs_cons (strs_cons (strs_cons (strs_cons (strs_cons (strs_cons (strs_cons strs_nil))))))) | exact (strs_cons (strs_cons (strs_cons (strs_cons (strs_cons (strs_cons (strs_cons (strs_cons strs_nil))))))))); (case q6 => decide +kernel); (case q7 => exact Nat.le_add_left _ _)); intro l9 x9 y9 tx9 ty9 t9 n9 h9 tk9 htk9 hll9 hls9 hjl9 hx9 hy9 hz9 F9 N9; (try dsimp only))
  k_with "call builtin:len" => (k_here; (with_reducible show wpAny _ _ (call (Value.builtin "len") [Value.str _ _]) _ _ _); refine SBL.len (by omega) ?_)
  k_with "binaryOp Add str str" => (k_here; (with_reducible show wpAny _ _ (binaryOp Operator.Add (Value.str _ _) (Value.str _ _)) _ _ _); (refine KXadd.add (K := 4096) (L := 4096) (by first | (refine Nat.le_of_ble_eq_true ?_; rfl) | omega | decide) (by first | (refine Nat.le_of_ble_eq_true ?_; rfl) | omega | decide) (by decide) ?_); intro t7 k7 hln7; (try dsimp only))
  k_with "side2" => (simp only [PySem.Str.length_append, len_of l_cb, len_of l_ce, len_of l_ib, len_of l_ie, len_of l_d, len_of l_pb, len_of l_pe, List.length_cons, List.length_nil]; omega)
  k_with "asc1" => exact fun _ => asc_all (by first | exact asc_i (by assumption) (by assumption) (by assumption) (by assumption) (by assumption)) _
  k_with "asc2" => exact fun _ _ _ => asc_all (by first | exact asc_i (by assumption) (by assumption) (by assumption) (by assumption) (by assumption)) _
  have hpz : (Str.ofString "]] >").length = 4 := by rw [len_of l_pz]; rfl
  k_with "call builtin:str.replace" => (k_here; (with_reducible show wpAny _ _ (call (Value.builtin "str.replace") [Value.str _ _, Value.str _ _, Value.str _ _]) _ _ _); (refine SC.replaceW (by (show @Ne Nat _ _); omega) (by (show @Ne Nat _ _); omega) (by (show @Ne Nat _ _); omega) (by decide +kernel) (by omega) (by rw [hpz]; decide) ?_); intro t6 k6; (try dsimp only); k_dflt (have hrl6 := replace_len (x := Txt.join (Str.ofString "") l9) (y := Str.ofString "]]>") hjl9 hpz))
  k_with "execs cons" => (k_here; (with_reducible show wpAny _ _ (execs (Stmt.Assign _ (PySem.Expr.Call (PySem.Expr.Attribute (PySem.Expr.Name (Str.ofString "text") _) _ _) _ _ _) _ :: _) _) _ _ _); (k_dflt (refine toks_gen (n := 1) (by first | exact Nat.le_add_left _ _ | assumption) ?_)); intro tkp htkp; (try dsimp only); (refine wpAny_execs_cons ?_); (try dsimp only))
  k_with "compareOp Eq ref ref" => (k_here; (with_reducible show wpAny _ _ (compareOp CmpOp.Eq (Value.ref _) (Value.ref _)) _ _ _); k_dflt (refine' eq_dataH ?r1 ?r2 ?s1 ?s2 ?u ?_; (case r1 => ke_read); (case r2 => ke_read); (case s1 => k_extra "shaped"); (case s2 => k_extra "shaped"); (case u => first | ke_room | ktr_units)); ke_norm)
  k_with "shaped" => first
    | with_reducible exact shaped_c (strok_c (by k_dflt assumption))
    | with_reducible exact shaped_p (strok_p (by k_dflt assumption))
    | with_reducible exact shaped_i (strok_n (by k_dflt assumption)) (strok_i (by k_dflt assumption))
  k_with "row" => first
    | ((first | (with_reducible have q9 : CommentF _ _ _ := hres9) | (with_reducible have q9 : comment _ _ = _ := hres9)); k_dflt (have e9 := (right_c (by assumption)).symm.trans hres9; cases e9))
    | ((first | (with_reducible have q9 : CdataF _ _ _ := hres9) | (with_reducible have q9 : cdata _ _ = _ := hres9)); k_dflt (have e9 := (right_p (by assumption)).symm.trans hres9; cases e9))
    | k_dflt (have e9 := (right_i (by assumption) (by assumption) (by assumption)).symm.trans hres9; cases e9)
  k_steps
  all_goals (
    refine q_true (by simp only [PySem.Str.length_append, beq_self_eq_true]) ?_
    (rename News _ _ _ _ => kN)
    (rename Fr _ _ _ _ => kF)
    (rename KtsTurn _ _ _ => kT)
    (rename Below _ _ _ _ => kB)
    (rename Frag.In _ _ => kX)
    (rename Top _ _ _ _ _ _ => kP)
    (rename KtsDicts _ _ => kD)
    refine ret _ _ _ x9 y9 tx9 ty9 n9 (by assumption) (by assumption) (by assumption) kT kB kX kP kD kF (fun p hp => kN p ?_)
    repeat (first | exact hp | refine List.Mem.tail _ ?_))
end
section
open PySem.Calls
def BadI (i : Int) : Prop := 0 ≤ i ∧ i ≤ 65535 ∧ badSign i.toNat
theorem bad_menu {v : Value} {t0 t1 t2 t3 t4 t5 t6 : Tok} (h : v ∈ [Value.int 0 t0, .int 1 t1, .int 8 t2, .int 11 t3, .int 31 t4, .int 65534 t5, .int 65535 t6]) : ∃ i t, BadI i ∧ v = .int i t := by
  simp only [List.mem_cons, List.not_mem_nil, or_false] at h
  rcases h with rfl | rfl | rfl | rfl | rfl | rfl | rfl <;> exact ⟨_, _, by unfold BadI badSign; decide +kernel, rfl⟩
theorem oneI_K : ∀ (w : World) (mean : ExcName → Option Value) (mg mb : Str → Option Value) (dp un : Nat) (gd : Option (List Code)) (cn : Str) (cs : Scope) (a : Addr) (ccd : Value) (cl : List (Str × Addr)) (outer : List Env) (A₀ : Around) (base h₀ : Heap) (L : Addr) (m : Str → Option Value) (s : Shared) (Q E : Value → Shared → Prop) (news : List (Addr × Obj))
    (src th : Addr) (x y : Int) (tx ty : Tok) (n n2 : Nat) (vs : List Value) (g : Obj → List (Addr × Obj)),
    Below A₀ base outer h₀ → Fr h₀ L s.heap m → (Mine.hd.heap_39 w.params).In h₀ → Top Mine.view (looseW Mine.view Mine.looseN) mean mg mb h₀ → cs.kind = .function → News h₀ L s.heap news → UpdF src (listOf #[.int x tx, .int y ty] n) news g → (th, listOf vs.toArray n2) ∈ news → @Ne Nat th src →
    dp + 2 < recursionLimit → un + 16 < cLine → 0 ≤ x → 0 ≤ y → y < 2147483647 → 1 < vs.length → vs.length < 100 → (∀ v, v ∈ vs → ∃ i t, BadI i ∧ v = .int i t) →
    (∀ (i : Int) (t : Tok) (x' y' : Int) (tx' ty' : Tok) (n' : Nat) (h' : Heap) (tk' : Nat), BadI i → 0 ≤ x' → 0 ≤ y' → y' < 2147483647 → Fr h₀ L h' m → News h₀ L h' (g (listOf #[.int x' tx', .int y' ty'] n')) → Q (.int i t) { s with heap := h', toks := tk' }) →
    wpAny (model PySem.Challenge.rw_xw0205_01.row.prog w) (ktrTop dp un gd cn cs L a ccd cl outer) (call (.ref 295) [.ref src, .ref th]) Q E s := by
  intro w mean mg mb dp un gd cn cs a ccd cl outer A₀ base h₀ L m s Q E news src th x y tx ty n n2 vs g B F X T hk N U hm hne hd hu hx hy hy2 htop htop2 hvs ret
  refine one_K w mean mg mb dp un gd cn cs a ccd cl outer A₀ base h₀ L m s Q E news src th x y tx ty n n2 vs g B F X T hk N U hm hne hd hu hx hy hy2 htop htop2 ?_
  intro v x' y' tx' ty' n' h' tk' hv h1 h2 h3 F' N'
  obtain ⟨i, t, hi, rfl⟩ := hvs v hv
  exact ret i t x' y' tx' ty' n' h' tk' hi h1 h2 h3 F' N'
theorem oneT_K : ∀ (w : World) (mean : ExcName → Option Value) (mg mb : Str → Option Value) (dp un : Nat) (gd : Option (List Code)) (cn : Str) (cs : Scope) (a : Addr) (ccd : Value) (cl : List (Str × Addr)) (outer : List Env) (A₀ : Around) (base h₀ : Heap) (L : Addr) (m : Str → Option Value) (s : Shared) (Q E : Value → Shared → Prop) (news : List (Addr × Obj))
    (src th : Addr) (x y : Int) (tx ty : Tok) (n n2 : Nat) (c1 c2 c3 : Addr) (g : Obj → List (Addr × Obj)),
    Below A₀ base outer h₀ → Fr h₀ L s.heap m → (Mine.hd.heap_39 w.params).In h₀ → Top Mine.view (looseW Mine.view Mine.looseN) mean mg mb h₀ → cs.kind = .function → News h₀ L s.heap news → UpdF src (listOf #[.int x tx, .int y ty] n) news g → (th, listOf #[.ref c1, .ref c2, .ref c3] n2) ∈ news → @Ne Nat th src →
    dp + 2 < recursionLimit → un + 16 < cLine → 0 ≤ x → 0 ≤ y → y < 2147483647 →
    (∀ (x' y' : Int) (tx' ty' : Tok) (n' : Nat) (h' : Heap) (tk' : Nat), 0 ≤ x' → 0 ≤ y' → y' < 2147483647 → Fr h₀ L h' m → News h₀ L h' (g (listOf #[.int x' tx', .int y' ty'] n')) → Q (.ref c1) { s with heap := h', toks := tk' }) →
    (∀ (x' y' : Int) (tx' ty' : Tok) (n' : Nat) (h' : Heap) (tk' : Nat), 0 ≤ x' → 0 ≤ y' → y' < 2147483647 → Fr h₀ L h' m → News h₀ L h' (g (listOf #[.int x' tx', .int y' ty'] n')) → Q (.ref c2) { s with heap := h', toks := tk' }) →
    (∀ (x' y' : Int) (tx' ty' : Tok) (n' : Nat) (h' : Heap) (tk' : Nat), 0 ≤ x' → 0 ≤ y' → y' < 2147483647 → Fr h₀ L h' m → News h₀ L h' (g (listOf #[.int x' tx', .int y' ty'] n')) → Q (.ref c3) { s with heap := h', toks := tk' }) →
    wpAny (model PySem.Challenge.rw_xw0205_01.row.prog w) (ktrTop dp un gd cn cs L a ccd cl outer) (call (.ref 295) [.ref src, .ref th]) Q E s := by
  intro w mean mg mb dp un gd cn cs a ccd cl outer A₀ base h₀ L m s Q E news src th x y tx ty n n2 c1 c2 c3 g B F X T hk N U hm hne hd hu hx hy hy2 ret1 ret2 ret3
  refine one_K w mean mg mb dp un gd cn cs a ccd cl outer A₀ base h₀ L m s Q E news src th x y tx ty n n2 [.ref c1, .ref c2, .ref c3] g B F X T hk N U hm hne hd hu hx hy hy2 (by simp only [List.length_cons, List.length_nil]; decide) (by simp only [List.length_cons, List.length_nil]; decide) ?_
  intro v x' y' tx' ty' n' h' tk' hv h1 h2 h3 F' N'
  simp only [List.mem_cons, List.not_mem_nil, or_false] at hv
  rcases hv with rfl | rfl | rfl
  · exact ret1 x' y' tx' ty' n' h' tk' h1 h2 h3 F' N'
  · exact ret2 x' y' tx' ty' n' h' tk' h1 h2 h3 F' N'
  · exact ret3 x' y' tx' ty' n' h' tk' h1 h2 h3 F' N'
theorem len_one {c : Nat} : (⟨#[c]⟩ : Str).length = 1 := rfl
theorem shaped_f {p : Int} : SeqAt.shaped (PyData.tuple [PyData.str (Str.ofString "fault"), PyData.int p]) = true := shaped_p (by decide +kernel)
set_option maxHeartbeats 1000000 in
theorem wrong_C : ∀ (w : World) (mean : ExcName → Option Value) (mg mb : Str → Option Value) (dp un : Nat) (gd : Option (List Code)) (cn : Str) (cs : Scope) (a : Addr) (ccd : Value) (outer : List Env) (A₀ : Around) (base h₀ : Heap) (L : Addr) (m : Str → Option Value) (s : Shared) (Q E : Value → Shared → Prop) (news : List (Addr × Obj))
    (src : Addr) (x y : Int) (tx ty : Tok) (n : Nat),
    Below A₀ base outer h₀ → Fr h₀ L s.heap m → (Mine.hd.heap_39 w.params).In h₀ → Top Mine.view (looseW Mine.view Mine.looseN) mean mg mb h₀ → cs.kind = .function → (Mine.hd.heap_39 w.params).In base → Top Mine.view (looseW Mine.view Mine.looseN) mean mg mb base → KtsDicts (outer.filterMap (·.frame)) h₀ → News h₀ L s.heap ((src, listOf #[.int x tx, .int y ty] n) :: news) → (∀ p ∈ news, p.1 ≠ src) →
    dp + 40 < 850 → un + 600 < 8600 → 0 ≤ x → 0 ≤ y → y < 2147483647 →
    (∀ (h₁ h' : Heap) (tk' : Nat) (x' y' : Int) (tx' ty' : Tok) (n' : Nat), 0 ≤ x' → 0 ≤ y' → y' < 2147483647 → KtsTurn (outer.filterMap (·.frame)) h₀ h₁ → Below A₀ base outer h₁ → (Mine.hd.heap_39 w.params).In h₁ → Top Mine.view (looseW Mine.view Mine.looseN) mean mg mb h₁ → KtsDicts (outer.filterMap (·.frame)) h₁ → Fr h₁ L h' m → News h₁ L h' ((src, listOf #[.int x' tx', .int y' ty'] n') :: news) → Q (.bool true) { s with heap := h', toks := tk' }) →
    wpAny (model PySem.Challenge.rw_xw0205_01.row.prog w) (ktrTop dp un gd cn cs L a ccd [] outer) (call (.ref 349) [.ref src]) Q E s := by
  k_with_none
  w_top off
  k_fill
  intro w mean mg mb dp un gd cn cs a ccd outer A₀ base h₀ L m s Q E news src x y tx ty n B F X T hk XB TB D N hsrc hd hu hx hy hy2 ret
  refine wpAny_call ?_
  (k_dflt (refine' code_defS (binds := [(Str.ofString "source", .ref src)]) ?k1 ?k2 ?k3 ?k4 ?k5 ?XB ?TB ?D ?T0 ?kA ?k6 ?k7 ?k8 ?k9 ?kB ?_ ?cK ?c2 ?c3 ?c4 ?c5; (case kA => exact rfl); (case k2 => k_asm); (case k1 => k_asm); (case XB => assumption); (case TB => assumption); (case D => assumption); (case T0 => first | assumption | exact KtsTurn.refl); (case k3 => k_asm); (case k4 => k_asm); (case k5 => k_asm); (case k6 => k_is); (case k7 => k_is); (case k8 => ktr_room); (case k9 => first | exact binds_K (by k_in) rfl (by k_is) rfl rfl rfl | exact BindsTo.of_eq rfl); (case kB => exact locs rfl); (case cK => first | exact rfl | assumption); (case c2 => exact rfl); (case c3 => exact rfl); (case c4 => exact rfl); (case c5 => decide); k_whole; intro g' L' h' FG' F' N' B' X' T' D'; (try dsimp only)))
  k_with "call ref" => (k_here; (with_reducible show wpAny _ _ (call (Value.ref 302) [Value.str _ _, Value.int _ _, Value.ref 309]) _ _ _); k_dflt (refine' heard_C _ _ _ _ _ _ _ _ _ _ _ _ _ _ _ _ _ _ _ _ _ _ _ _ _ _ _ _ ?k1 ?k2 ?k3 ?k5 ?kK ?XB ?TB ?D ?k4 ?p0 ?p1 ?kd ?ku ?_ ?_; (case k1 => k_asm); (case k2 => k_asm); (case k3 => k_asm); (case k5 => k_asm); (case kK => first | exact rfl | assumption); (case XB => assumption); (case TB => assumption); (case D => assumption); (case k4 => k_asm); (case p0 => refine comment_R _ _ _ _ _ _ ?_ ?_ ?_ <;> first | omega | k_extra "side2" | k_extra "asc1" | k_extra "asc2"); (case p1 => k_is); (case kd => ktr_room); (case ku => ktr_units)); intro h19 h9 tk9 p9 a9 t19 t29 hres9 T9 B9 X9 P9 D9 F9 N9; (try dsimp only); k_extra "row"; rotate_left; intro h19 h9 tk9 v9 nw9 p9 a9 t99 hpg9 T9 B9 X9 P9 D9 F9 N9; k_dflt (obtain ⟨t9, b9, t19, t29, hv9, hn9, hres9⟩ := hpg9); (subst hv9 hn9); (try simp only [List.cons_append, List.nil_append] at N9); (try dsimp only); k_extra "row")
  k_with "call ref" => (k_here; (with_reducible show wpAny _ _ (call (Value.ref 302) [Value.str _ _, Value.int _ _, Value.ref 323]) _ _ _); k_dflt (refine' heard_C _ _ _ _ _ _ _ _ _ _ _ _ _ _ _ _ _ _ _ _ _ _ _ _ _ _ _ _ ?k1 ?k2 ?k3 ?k5 ?kK ?XB ?TB ?D ?k4 ?p0 ?p1 ?kd ?ku ?_ ?_; (case k1 => k_asm); (case k2 => k_asm); (case k3 => k_asm); (case k5 => k_asm); (case kK => first | exact rfl | assumption); (case XB => assumption); (case TB => assumption); (case D => assumption); (case k4 => k_asm); (case p0 => refine cdata_R _ _ _ _ _ _ ?_ ?_ ?_ <;> first | omega | k_extra "side2" | k_extra "asc1" | k_extra "asc2"); (case p1 => k_is); (case kd => ktr_room); (case ku => ktr_units)); intro h19 h9 tk9 p9 a9 t19 t29 hres9 T9 B9 X9 P9 D9 F9 N9; (try dsimp only); k_extra "row"; rotate_left; intro h19 h9 tk9 v9 nw9 p9 a9 t99 hpg9 T9 B9 X9 P9 D9 F9 N9; k_dflt (obtain ⟨t9, t19, hv9, hn9, hres9⟩ := hpg9); (subst hv9 hn9); (try simp only [List.cons_append, List.nil_append] at N9); (try dsimp only); k_extra "row")
  k_with "call ref" => (k_here; (with_reducible show wpAny _ _ (call (Value.ref 302) [Value.str _ _, Value.int _ _, Value.ref 316]) _ _ _); k_dflt (refine' heard_C _ _ _ _ _ _ _ _ _ _ _ _ _ _ _ _ _ _ _ _ _ _ _ _ _ _ _ _ ?k1 ?k2 ?k3 ?k5 ?kK ?XB ?TB ?D ?k4 ?p0 ?p1 ?kd ?ku ?_ ?_; (case k1 => k_asm); (case k2 => k_asm); (case k3 => k_asm); (case k5 => k_asm); (case kK => first | exact rfl | assumption); (case XB => assumption); (case TB => assumption); (case D => assumption); (case k4 => k_asm); (case p0 => refine instruction_R _ _ _ _ _ _ ?_ ?_ ?_ ?_ ?_ <;> first | omega | k_extra "side2" | k_extra "asc1" | k_extra "asc2"); (case p1 => k_is); (case kd => ktr_room); (case ku => ktr_units)); intro h19 h9 tk9 p9 a9 t19 t29 hres9 T9 B9 X9 P9 D9 F9 N9; (try dsimp only); k_extra "row"; rotate_left; intro h19 h9 tk9 v9 nw9 p9 a9 t99 hpg9 T9 B9 X9 P9 D9 F9 N9; k_dflt (obtain ⟨t9, d9, b9, t19, t29, t39, hv9, hn9, hres9⟩ := hpg9); (subst hv9 hn9); (try simp only [List.cons_append, List.nil_append] at N9); (try dsimp only); k_extra "row")
  k_with "call ref" => (k_here; (with_reducible show wpAny _ _ (call (Value.ref 295) _) _ _ _); k_dflt (refine' oneT_K _ _ _ _ _ _ _ _ _ _ _ _ _ _ _ _ _ _ _ _ _ _ _ _ _ _ _ _ _ _ _ _ _ _ ?k1 ?k2 ?k3 ?k5 ?kK ?k4 ?p0 ?p1 ?p2 ?kd ?ku ?q0 ?q1 ?q2 ?_ ?_ ?_; (case k1 => k_asm); (case k2 => k_asm); (case k3 => k_asm); (case k5 => k_asm); (case kK => first | exact rfl | assumption); (case k4 => k_asm); (case p0 => k_updF); (case p1 => k_mem); (case p2 => k_ne); (case kd => ktr_room); (case ku => ktr_units); (case q0 => assumption); (case q1 => assumption); (case q2 => assumption)); intro x9 y9 tx9 ty9 n9 h9 tk9 hx9 hy9 hz9 F9 N9; (try dsimp only); rotate_left; intro x9 y9 tx9 ty9 n9 h9 tk9 hx9 hy9 hz9 F9 N9; (try dsimp only); rotate_left; intro x9 y9 tx9 ty9 n9 h9 tk9 hx9 hy9 hz9 F9 N9; (try dsimp only))
  k_with "call ref" => (k_here; (with_reducible show wpAny _ _ (call (Value.ref 295) _) _ _ _); k_dflt (refine' oneI_K _ _ _ _ _ _ _ _ _ _ _ _ _ _ _ _ _ _ _ _ _ _ _ _ _ _ _ _ _ _ _ _ ?k1 ?k2 ?k3 ?k5 ?kK ?k4 ?p0 ?p1 ?p2 ?kd ?ku ?q0 ?q1 ?q2 ?q3 ?q4 ?q5 ?_; (case k1 => k_asm); (case k2 => k_asm); (case k3 => k_asm); (case k5 => k_asm); (case kK => first | exact rfl | assumption); (case k4 => k_asm); (case p0 => k_updF); (case p1 => k_mem); (case p2 => k_ne); (case kd => ktr_room); (case ku => ktr_units); (case q0 => assumption); (case q1 => assumption); (case q2 => assumption); (case q3 => first | decide | (simp only [List.length_cons, List.length_nil]; omega)); (case q4 => first | decide | (simp only [List.length_cons, List.length_nil]; omega)); (case q5 => exact fun v h => bad_menu h)); intro i9 t9 x9 y9 tx9 ty9 n9 h9 tk9 hi9 hx9 hy9 hz9 F9 N9; (try dsimp only))
  k_with "call ref" => (k_here; (with_reducible show wpAny _ _ (call (Value.ref 295) _) _ _ _); k_dflt (refine' oneS_K _ _ _ _ _ _ _ _ _ _ _ _ _ _ _ _ _ _ _ _ _ _ _ _ _ _ _ _ _ _ _ _ _ ?k1 ?k2 ?k3 ?k5 ?kK ?k4 ?p0 ?p1 ?p2 ?kd ?ku ?q0 ?q1 ?q2 ?q3 ?q4 ?q5 ?q6 ?_; (case k1 => k_asm); (case k2 => k_asm); (case k3 => k_asm); (case k5 => k_asm); (case kK => first | exact rfl | assumption); (case k4 => k_asm); (case p0 => k_updF); (case p1 => k_mem); (case p2 => k_ne); (case kd => ktr_room); (case ku => ktr_units); (case q0 => assumption); (case q1 => assumption); (case q2 => assumption); (case q3 => first | decide | (simp only [List.length_cons, List.length_nil]; omega)); (case q4 => first | decide | (simp only [List.length_cons, List.length_nil]; omega)); (case q5 => first | exact (strs_cons (strs_cons strs_nil)) | exact (strs_cons (strs_cons (strs_cons strs_nil))) | exact (strs_cons (strs_cons (strs_cons (strs_cons strs_nil)))) | exact (strs_cons (strs_cons (strs_cons (strs_cons (strs_cons strs_nil))))) | exact (strs_cons (strs_cons (strs_cons (strs_cons (strs_cons (strs_cons strs_nil)))))) | exact (strs_cons (strs_cons (strs_cons (strs_cons (strs_cons (strs_cons (strs_cons strs_nil))))))) | exact (strs_cons (strs_cons (strs_cons (strs_cons (strs_cons (strs_cons (strs_cons (strs_cons strs_nil))))))))); (case q6 => decide +kernel)); intro w9 tw9 x9 y9 tx9 ty9 n9 h9 tk9 hw9 hwl9 hx9 hy9 hz9 F9 N9; (try dsimp only))
  k_with "call ref" => (k_here; (with_reducible show wpAny _ _ (call (Value.ref 335) _) _ _ _); k_dflt (refine' pieces_K _ _ _ _ _ _ _ _ _ _ _ _ _ _ _ _ _ _ _ _ _ _ _ _ _ _ _ _ _ _ _ _ _ ?k1 ?k2 ?k3 ?k5 ?kK ?k4 ?p0 ?p1 ?p2 ?kd ?ku ?q0 ?q1 ?q2 ?q3 ?q4 ?q5 ?q6 ?_; (case k1 => k_asm); (case k2 => k_asm); (case k3 => k_asm); (case k5 => k_asm); (case kK => first | exact rfl | assumption); (case k4 => k_asm); (case p0 => k_updF); (case p1 => k_mem); (case p2 => k_ne); (case kd => ktr_room); (case ku => ktr_units); (case q0 => assumption); (case q1 => assumption); (case q2 => assumption); (case q3 => first | decide | (simp only [List.length_cons, List.length_nil]; omega)); (case q4 => first | decide | (simp only [List.length_cons, List.length_nil]; omega)); (case q5 => first | exact (strs_cons (strs_cons strs_nil)) | exact (strs_cons (strs_cons (strs_cons strs_nil))) | exact (strs_cons (strs_cons (strs_cons (strs_cons strs_nil)))) | exact (strs_cons (strs_cons (strs_cons (strs_cons (strs_cons strs_nil))))) | exact (strs_cons (strs_cons (strs_cons (strs_cons (strs_cons (strs_cons strs_nil)))))) | exact (strs_cons (strs_cons (strs_cons (strs_cons (strs_cons (strs_cons (strs_cons strs_nil))))))) | exact (strs_cons (strs_cons (strs_cons (strs_cons (strs_cons (strs_cons (strs_cons (strs_cons strs_nil))))))))); (case q6 => decide +kernel)); intro l9 x9 y9 tx9 ty9 t9 n9 h9 tk9 hll9 hls9 hjl9 hx9 hy9 hz9 F9 N9; (try dsimp only))
  k_with "call builtin:len" => (k_here; (with_reducible show wpAny _ _ (call (Value.builtin "len") [Value.str _ _]) _ _ _); refine SBL.len (by omega) ?_)
  k_with "binaryOp Add str str" => (k_here; (with_reducible show wpAny _ _ (binaryOp Operator.Add (Value.str _ _) (Value.str _ _)) _ _ _); (refine KXadd.add (K := 4096) (L := 4096) (by first | (refine Nat.le_of_ble_eq_true ?_; rfl) | omega | decide) (by first | (refine Nat.le_of_ble_eq_true ?_; rfl) | omega | decide) (by decide) ?_); intro t7 k7 hln7; (try dsimp only))
  k_with "call builtin:chr" => (k_here; (with_reducible show wpAny _ _ (call (Value.builtin "chr") [Value.int _ _]) _ _ _); (refine chr_of_range hi9.1 (Int.le_trans hi9.2.1 (by decide)) ?_); (have hon9 := len_one (c := i9.toNat)); (try dsimp only))
  k_with "side2" => (simp only [PySem.Str.length_append, len_of l_cb, len_of l_ce, len_of l_gd, len_of l_a, len_of l_ie, len_of l_pb, len_of l_pe, len_one, List.length_cons, List.length_nil]; omega)
  k_with "asc1" => exact fun _ => asc_wi.1
  k_with "asc2" => exact fun _ h _ => asc_wi.2 _ h
  k_with "compareOp Eq ref ref" => (k_here; (with_reducible show wpAny _ _ (compareOp CmpOp.Eq (Value.ref _) (Value.ref _)) _ _ _); k_dflt (refine' eq_dataH ?r1 ?r2 ?s1 ?s2 ?u ?_; (case r1 => ke_read); (case r2 => ke_read); (case s1 => exact shaped_f); (case s2 => exact shaped_f); (case u => first | ke_room | ktr_units)); ke_norm)
  k_with "row" => first
    | ((first | (with_reducible have q9 : CommentF _ _ _ := hres9) | (with_reducible have q9 : comment _ _ = _ := hres9)); k_dflt (have e9 := (wrong_c (by assumption) hi9.2.2).symm.trans hres9; cases e9))
    | ((first | (with_reducible have q9 : CdataF _ _ _ := hres9) | (with_reducible have q9 : cdata _ _ = _ := hres9)); k_dflt (have e9 := (wrong_p (by assumption) hi9.2.2).symm.trans hres9; cases e9))
    | k_dflt (have e9 := (wrong_i (by assumption) hi9.2.2).symm.trans hres9; cases e9)
  k_steps
  all_goals (
    refine q_true (by simp only [PySem.Str.length_append, beq_self_eq_true]) ?_
    (rename News _ _ _ _ => kN)
    (rename Fr _ _ _ _ => kF)
    (rename KtsTurn _ _ _ => kT)
    (rename Below _ _ _ _ => kB)
    (rename Frag.In _ _ => kX)
    (rename Top _ _ _ _ _ _ => kP)
    (rename KtsDicts _ _ => kD)
    refine ret _ _ _ x9 y9 tx9 ty9 n9 (by assumption) (by assumption) (by assumption) kT kB kX kP kD kF (fun p hp => kN p ?_)
    repeat (first | exact hp | refine List.Mem.tail _ ?_))
end
section
open PySem.Calls
theorem turn_nil {g g' : Heap} (t : KtsTurn [] g g') (b : Addr) : g'.get? b = g.get? b := by
  cases e : g.get? b with
  | none => exact t.none_ b e
  | some o => exact t.other b o e (fun h => nomatch h)
theorem fr_back {g g' h : Heap} {L : Addr} {m : Str → Option Value} (t : KtsTurn [] g g') (F : Fr g' L h m) : Fr g L h m :=
  ⟨F.ns, fun b o e => F.keep b o ((turn_nil t b).trans e), Nat.le_trans (Nat.le_of_eq t.size.symm) F.above⟩
theorem news_back {g g' h : Heap} {L : Addr} {l : List (Addr × Obj)} (t : KtsTurn [] g g') (N : News g' L h l) : News g L h l :=
  fun p hp => ⟨(N p hp).1, (N p hp).2.1, (turn_nil t p.1).symm.trans (N p hp).2.2⟩
theorem told_T : ∀ (w : World) (mean : ExcName → Option Value) (mg mb : Str → Option Value) (dp un : Nat) (gd : Option (List Code)) (cn : Str) (cs : Scope) (a : Addr) (ccd : Value) (A₀ : Around) (h₀ : Heap) (L : Addr) (m : Str → Option Value) (s : Shared) (Q E : Value → Shared → Prop) (news : List (Addr × Obj)), Below A₀ h₀ [] h₀ → Fr h₀ L s.heap m → (Mine.hd.heap_39 w.params).In h₀ → Top Mine.view (looseW Mine.view Mine.looseN) mean mg mb h₀ → cs.kind = .function → News h₀ L s.heap news → dp + 40 < 850 → un + 600 < 8600 →
    (∀ (h' : Heap) (tk' : Nat), Fr h₀ L h' m → News h₀ L h' news → Q (.bool true) { s with heap := h', toks := tk' }) →
    wpAny (model PySem.Challenge.rw_xw0205_01.row.prog w) (ktrTop dp un gd cn cs L a ccd [] []) (call (.ref 330) []) Q E s := by
  intro w mean mg mb dp un gd cn cs a ccd A₀ h₀ L m s Q E news B F X T hk N hd hu ret
  exact told_C w mean mg mb dp un gd cn cs a ccd [] A₀ h₀ h₀ L m s Q E news B F X T hk X T ktsDicts_nil N hd hu
    fun h₁ h' tk' t _ _ _ _ F' N' => ret h' tk' (fr_back t F') (news_back t N')
theorem right_T : ∀ (w : World) (mean : ExcName → Option Value) (mg mb : Str → Option Value) (dp un : Nat) (gd : Option (List Code)) (cn : Str) (cs : Scope) (a : Addr) (ccd : Value) (A₀ : Around) (h₀ : Heap) (L : Addr) (m : Str → Option Value) (s : Shared) (Q E : Value → Shared → Prop) (news : List (Addr × Obj)) (src : Addr) (x y : Int) (tx ty : Tok) (n : Nat) (g : Obj → List (Addr × Obj)), Below A₀ h₀ [] h₀ → Fr h₀ L s.heap m → (Mine.hd.heap_39 w.params).In h₀ → Top Mine.view (looseW Mine.view Mine.looseN) mean mg mb h₀ → cs.kind = .function → News h₀ L s.heap news → UpdF src (listOf #[.int x tx, .int y ty] n) news g → dp + 40 < 850 → un + 600 < 8600 → 0 ≤ x → 0 ≤ y → y < 2147483647 →
    (∀ (x' y' : Int) (tx' ty' : Tok) (n' : Nat) (h' : Heap) (tk' : Nat), 0 ≤ x' → 0 ≤ y' → y' < 2147483647 → Fr h₀ L h' m → News h₀ L h' (g (listOf #[.int x' tx', .int y' ty'] n')) → Q (.bool true) { s with heap := h', toks := tk' }) →
    wpAny (model PySem.Challenge.rw_xw0205_01.row.prog w) (ktrTop dp un gd cn cs L a ccd [] []) (call (.ref 342) [.ref src]) Q E s := by
  intro w mean mg mb dp un gd cn cs a ccd A₀ h₀ L m s Q E news src x y tx ty n g B F X T hk N U hd hu hx hy hy2 ret
  obtain ⟨pre, post, rfl, hg, a1, a2⟩ := U.split
  refine right_C w mean mg mb dp un gd cn cs a ccd [] A₀ h₀ h₀ L m s Q E (pre ++ post) src x y tx ty n B F X T hk X T ktsDicts_nil (fun p hp => N p (mem_split.mpr (List.mem_cons.mp hp))) ?_ hd hu hx hy hy2
    fun h₁ h' tk' x' y' tx' ty' n' e1 e2 e3 t _ _ _ _ F' N' => ret x' y' tx' ty' n' h' tk' e1 e2 e3 (fr_back t F') ?_
  · intro p hp
    rcases List.mem_append.mp hp with h | h
    · exact a1 p h
    · exact a2 p h
  · rw [hg]
    exact fun p hp => news_back t N' p (List.mem_cons.mpr (mem_split.mp hp))
theorem wrong_T : ∀ (w : World) (mean : ExcName → Option Value) (mg mb : Str → Option Value) (dp un : Nat) (gd : Option (List Code)) (cn : Str) (cs : Scope) (a : Addr) (ccd : Value) (A₀ : Around) (h₀ : Heap) (L : Addr) (m : Str → Option Value) (s : Shared) (Q E : Value → Shared → Prop) (news : List (Addr × Obj)) (src : Addr) (x y : Int) (tx ty : Tok) (n : Nat) (g : Obj → List (Addr × Obj)), Below A₀ h₀ [] h₀ → Fr h₀ L s.heap m → (Mine.hd.heap_39 w.params).In h₀ → Top Mine.view (looseW Mine.view Mine.looseN) mean mg mb h₀ → cs.kind = .function → News h₀ L s.heap news → UpdF src (listOf #[.int x tx, .int y ty] n) news g → dp + 40 < 850 → un + 600 < 8600 → 0 ≤ x → 0 ≤ y → y < 2147483647 →
    (∀ (x' y' : Int) (tx' ty' : Tok) (n' : Nat) (h' : Heap) (tk' : Nat), 0 ≤ x' → 0 ≤ y' → y' < 2147483647 → Fr h₀ L h' m → News h₀ L h' (g (listOf #[.int x' tx', .int y' ty'] n')) → Q (.bool true) { s with heap := h', toks := tk' }) →
    wpAny (model PySem.Challenge.rw_xw0205_01.row.prog w) (ktrTop dp un gd cn cs L a ccd [] []) (call (.ref 349) [.ref src]) Q E s := by
  intro w mean mg mb dp un gd cn cs a ccd A₀ h₀ L m s Q E news src x y tx ty n g B F X T hk N U hd hu hx hy hy2 ret
  obtain ⟨pre, post, rfl, hg, a1, a2⟩ := U.split
  refine wrong_C w mean mg mb dp un gd cn cs a ccd [] A₀ h₀ h₀ L m s Q E (pre ++ post) src x y tx ty n B F X T hk X T ktsDicts_nil (fun p hp => N p (mem_split.mpr (List.mem_cons.mp hp))) ?_ hd hu hx hy hy2
    fun h₁ h' tk' x' y' tx' ty' n' e1 e2 e3 t _ _ _ _ F' N' => ret x' y' tx' ty' n' h' tk' e1 e2 e3 (fr_back t F') ?_
  · intro p hp
    rcases List.mem_append.mp hp with h | h
    · exact a1 p h
    · exact a2 p h
  · rw [hg]
    exact fun p hp => news_back t N' p (List.mem_cons.mpr (mem_split.mp hp))
end
section
open PySem.Calls
theorem num_a {g : Int} : 0 ≤ g * if decide ((10 : Int) ^ Int.toNat 18 ≤ g) = true then 1 else 0 := by
  have h : (0 : Int) ≤ 10 ^ Int.toNat 18 := Int.pow_nonneg (by decide)
  split
  · rename_i e
    have := of_decide_eq_true e
    omega
  · omega
theorem num_b {u : Int} : 0 ≤ u.fmod 2147483647 := (take_b (x := u) (t := 2147483647) (by decide)).1
theorem num_c {u : Int} : u.fmod 2147483647 < 2147483647 := (take_b (x := u) (t := 2147483647) (by decide)).2
set_option maxHeartbeats 2000000 in
theorem fin : PySem.Challenge.rw_xw0205_01.Holds := Mine.hd (by
  k_with_none
  k_with "call ref" => (k_here; (with_reducible show wpAny _ _ (call (Value.ref 330) _) _ _ _); k_dflt (refine' told_T _ _ _ _ _ _ _ _ _ _ _ _ _ _ _ _ _ _ _ ?k1 ?k2 ?k3 ?k5 ?kK ?k4 ?kd ?ku ?_; (case k1 => k_asm); (case k2 => k_asm); (case k3 => k_asm); (case k5 => k_asm); (case kK => first | exact rfl | assumption); (case k4 => k_asm); (case kd => ktr_room); (case ku => ktr_units)); intro h9 tk9 F9 N9; (try dsimp only))
  k_with "call ref" => (k_here; (with_reducible show wpAny _ _ (call (Value.ref 342) _) _ _ _); k_dflt (refine' right_T _ _ _ _ _ _ _ _ _ _ _ _ _ _ _ _ _ _ _ _ _ _ _ _ _ _ ?k1 ?k2 ?k3 ?k5 ?kK ?k4 ?p0 ?kd ?ku ?q0 ?q1 ?q2 ?_; (case k1 => k_asm); (case k2 => k_asm); (case k3 => k_asm); (case k5 => k_asm); (case kK => first | exact rfl | assumption); (case k4 => k_asm); (case p0 => k_updF); (case kd => ktr_room); (case ku => ktr_units); (case q0 => k_extra "num"); (case q1 => k_extra "num"); (case q2 => k_extra "num")); intro x9 y9 tx9 ty9 n9 h9 tk9 hx9 hy9 hz9 F9 N9; (try dsimp only))
  k_with "call ref" => (k_here; (with_reducible show wpAny _ _ (call (Value.ref 349) _) _ _ _); k_dflt (refine' wrong_T _ _ _ _ _ _ _ _ _ _ _ _ _ _ _ _ _ _ _ _ _ _ _ _ _ _ ?k1 ?k2 ?k3 ?k5 ?kK ?k4 ?p0 ?kd ?ku ?q0 ?q1 ?q2 ?_; (case k1 => k_asm); (case k2 => k_asm); (case k3 => k_asm); (case k5 => k_asm); (case kK => first | exact rfl | assumption); (case k4 => k_asm); (case p0 => k_updF); (case kd => ktr_room); (case ku => ktr_units); (case q0 => k_extra "num"); (case q1 => k_extra "num"); (case q2 => k_extra "num")); intro x9 y9 tx9 ty9 n9 h9 tk9 hx9 hy9 hz9 F9 N9; (try dsimp only))
  k_with "num" => first | assumption | exact num_a | exact num_b | exact num_c
  k_go0
  k_steps)
end
end Mine
theorem PySem.Challenge.cw_xw0205_01_holds : PySem.Challenge.rw_xw0205_01.Holds :=
  Mine.fin

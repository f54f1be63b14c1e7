import PyProof.Rows.All
import Wide.All
import OpenK.AllK
import Wide.FinOn
import Lean
import PySem.Challenge.RW_no0368_01
set_option Elab.async false
set_option maxRecDepth 100000
set_option maxHeartbeats 8000000
set_option pp.deepTerms false
set_option linter.unusedVariables false
section
open PySem PySem.W PyProof.Rows
section
theorem Mine.rowsTop : True := by
  k_with_none
  k_with "top kernel" =>
    intro w
    unfold openEnds fencedOpening topFrom
    simp only [PySem.W.Fast.te4187177175401517315, PySem.W.Fast.te14082659384304107361, PySem.W.Fast.te14289696077712309145, PySem.W.Fast.te10274390034422433532, PySem.W.Fast.te1435165496053646825, PySem.W.Fast.te14364793385576792824]
    kernel_rfl
  k_with "top law" => refine PySem.W.holds_law (by decide +kernel) fun said => ?_
  trivial
local macro_rules
  | `(tactic| refine $t:term) => do
    let a := t.raw[1].getArgs
    if a.size < 9 || !(a[0]!.isOfKind ``Lean.Parser.Term.namedArgument) || !(a[7]!.isOfKind ``Lean.Parser.Term.namedArgument) || !(a[8]!.isOfKind ``Lean.Parser.Term.syntheticHole) then Lean.Macro.throwUnsupported
    let r := t.raw.setArg 1 (Lean.mkNullNode (a.set! 8 (← `(by k_extra "top kernel"))))
    `(tactic| refine $(⟨r⟩))
local macro_rules | `(tactic| o_law) => `(tactic| k_extra "top law")
namespace Mine
open_top ltop for PySem.Challenge.rw_no0368_01
end Mine
end
end
local macro_rules | `(tactic| walk_at $s:str) => `(tactic| k_extra $s)
local macro_rules | `(tactic| ktr_unf) => `(tactic| k_extra "ktr_unf")
local macro_rules | `(tactic| ktr_rel) => `(tactic| k_extra "ktr_rel")
theorem Mine.topOff : True := by w_top off; trivial
section
open PySem PySem.W PySem.Spec PySem.Calls PyProof.Rows
namespace Mine
/-- the exception has no context -/
noncomputable def Ctx (e : Addr) (h : Heap) : Prop := ∃ o vs, h.get? e = some o ∧ o.data = .fields vs ∧ vs[2]? = some .none
section
variable {M : Model} {A : Around} {E : Value → Shared → Prop} {s : Shared} {base : Heap} {env : Env} {outer : List Env} {L e : Addr} {oe : Obj} {vs : Array Value} {cls head a0 fl : Value} {hadNext : Bool} {Q : Unit → Shared → Prop}
theorem setCtx {h : Heap} {e : Addr} {oe : Obj} {vs : Array Value} {x : Value} (he : h.get? e = some oe) (hd : oe.data = .fields vs) (h2 : vs[2]? = some .none) : Ctx e (h.update e (Obj.mapFields (·.setIfInBounds 1 x))) :=
  ⟨_, _, Heap.get?_update_self _ he (Obj.isFreed_of_fields (Obj.data_mapFields hd _)), Obj.data_mapFields hd _, by rw [Array.getElem?_setIfInBounds_ne (by decide)]; exact h2⟩
noncomputable abbrev tbOf (head : Value) (L : Addr) (pl : List Value) : Obj := { cls := .type "traceback", dict := none, data := .fields ([head, .ref L, .none, rawInt L, .none] ++ (if pl.isEmpty then List.replicate 6 Value.none else pl)).toArray }
theorem entryC (hfr : A.frames = some (env :: outer)) (hl : s.heap.FunFrames base (env :: outer)) (hf : env.frame = some L)
    (he : s.heap.get? e = some oe) (hkb : base.StaysIn s.heap) (hen : base.get? e = none) (hd : oe.data = .fields vs) (h0 : vs[0]? = some a0) (h2 : vs[2]? = some .none)
    (h : ∀ h', Heap.HeldW base (env :: outer) e oe.cls a0 L h' → s.heap.UpToSlots h' → Ctx e h' → Q () { s with heap := h' }) :
    wpAny M A (do let a ← frameOf env; let pl ← entryPlaceOf L hadNext; let b ← EntryCells.newEntry head a .none (rawInt L) .none pl; setField (.ref e) 1 b) Q E s := by
  have hsz : 1 < vs.size := Nat.lt_of_succ_lt (Array.getElem?_eq_some_iff.mp h2).1
  have hene : e ∉ (env :: outer).filterMap (·.frame) := fun hm => by
    obtain ⟨_, o, ho, hnf⟩ := hl.mem hm
    rw [he] at ho; cases ho; exact hnf vs hd
  refine wpAny_bind (wpAny_frameOf_fun hfr hl hf fun h₁ hs₁ => wpAny_bind (wpAny_entryPlaceOf fun pl hpl => ?_))
  unfold EntryCells.newEntry newFields
  refine wpAny_bind (wpAny_newObj_type ?_ (hpl.sizeOk5 _ _ _ _ _))
  have e1 : h₁.get? e = some oe := (hs₁.2.1 e hene).trans he
  have k1 : base.StaysIn h₁ := fun b o q => (hs₁.2.1 b fun hm => by rw [(hl.mem hm).1] at q; cases q).trans (hkb b o q)
  have hT : h₁.objs.size ≠ e := Nat.ne_of_gt (Heap.lt_size e1)
  have e2 : (h₁.push (tbOf head L pl)).get? e = some oe := Heap.get?_push_of_some _ e1
  refine wpAny_setField e2 hd hsz ?_
  obtain ⟨H, hH⟩ : ∃ H, H = (h₁.push (tbOf head L pl)).update e (Obj.mapFields (·.setIfInBounds 1 (Value.ref h₁.objs.size))) := ⟨_, rfl⟩
  have c : Ctx e H := hH ▸ setCtx e2 hd h2
  have kp : ∀ b o, b ≠ e → h₁.get? b = some o → H.get? b = some o := fun b o hb q => by
    rw [hH, Heap.get?_update_other _ _ (Ne.symm hb)]; exact Heap.get?_push_of_some _ q
  have kn : ∀ b o, s.heap.get? b = some o → (∀ vs, o.data ≠ .fields vs) → ∃ sl, H.get? b = some { o with slots := sl } := fun b o q hn => by
    obtain ⟨sl, z⟩ := hs₁.2.2 b o q
    exact ⟨sl, kp b _ (fun w => by rw [w, he] at q; cases q; exact hn vs hd) z⟩
  have t1 : H.get? h₁.objs.size = some (tbOf head L pl) := by
    rw [hH, Heap.get?_update_other _ _ (Ne.symm hT)]; exact Heap.get?_push_size h₁ rfl
  have e3 : H.get? e = some (Obj.mapFields (·.setIfInBounds 1 (Value.ref h₁.objs.size)) oe) := by
    rw [hH]; exact Heap.get?_update_self _ e2 (Obj.isFreed_of_fields (Obj.data_mapFields hd _))
  have r : Heap.HeldW base (env :: outer) e oe.cls a0 L H := by
    refine ⟨fun b o q => kp b o (fun w => by rw [w, hen] at q; cases q) (k1 b o q), hen, hl.of_keeps fun b o q hn => ?_, ?_⟩
    · obtain ⟨sl, z⟩ := kn b o q hn
      exact ⟨_, z, rfl⟩
    · refine ⟨_, _, h₁.objs.size, _, _, e3, ⟨Obj.cls_mapFields _ _, by rw [Array.getElem?_setIfInBounds_ne (by decide)]; exact h0⟩, Obj.data_mapFields hd _, by simp [hsz], k1.fresh, hT, t1, rfl, ?_⟩
      rcases hpl with rfl | ⟨_, _, _, _, _, _, _, rfl⟩ <;> simp
  have g := h H r kn c
  rw [hH] at g
  exact g
theorem note_firstC (hfr : A.frames = some (env :: outer)) (hl : s.heap.FunFrames base (env :: outer)) (hf : env.frame = some L)
    (he : s.heap.get? e = some oe) (hkb : base.StaysIn s.heap) (hen : base.get? e = none) (hd : oe.data = .fields vs) (h0 : vs[0]? = some a0) (h1 : vs[1]? = some .none) (h2 : vs[2]? = some .none)
    (h : ∀ h', Heap.HeldW base (env :: outer) e oe.cls a0 L h' → s.heap.UpToSlots h' → Ctx e h' → Q () { s with heap := h' }) : wpAny M A (noteFrame (.ref e) env) Q E s := by
  unfold noteFrame
  simp only [hf]
  refine wpAny_bind (wpAny_field he hd h1 ?_)
  rw [if_neg (by decide)]
  exact entryC hfr hl hf he hkb hen hd h0 h2 h
theorem note_nextC (hfr : A.frames = some (env :: outer)) (hf : env.frame = some L) (hfl : s.heap.TracedAtW base e cls a0 fl) (hne : (fl == rawInt L) = false) (hkb : base.StaysIn s.heap) (hen : base.get? e = none) (hl : s.heap.FunFrames base (env :: outer)) (hc : Ctx e s.heap)
    (h : ∀ h', Heap.HeldW base (env :: outer) e cls a0 L h' → s.heap.UpToSlots h' → Ctx e h' → Q () { s with heap := h' }) : wpAny M A (noteFrame (.ref e) env) Q E s := by
  obtain ⟨oe, vs, T, oT, ts, he, ⟨hcls, h0⟩, hd, h1, hnT, hTe, hT, hdT, h3⟩ := hfl
  obtain ⟨o', vs', q1, q2, q3⟩ := hc
  rw [he] at q1; cases q1
  rw [hd] at q2; cases q2
  subst hcls
  unfold noteFrame
  simp only [hf]
  refine wpAny_bind (wpAny_field he hd h1 ?_)
  rw [if_pos (show (Value.ref T != Value.none) = true from by simp)]
  refine wpAny_bind (wpAny_field hT hdT h3 ?_)
  rw [if_neg (by rw [hne]; exact Bool.false_ne_true)]
  refine wpAny_bind (wpAny_setField hT hdT (Array.getElem?_eq_some_iff.mp h3).1 ?_)
  have other : ∀ b o, b ≠ T → s.heap.get? b = some o → (s.heap.update T (Obj.mapFields (·.setIfInBounds 3 Value.none))).get? b = some o := fun b o hb q => (Heap.get?_update_other _ _ (Ne.symm hb)).trans q
  have nr : ∀ b o, s.heap.get? b = some o → (∀ vs, o.data ≠ .fields vs) → b ≠ T := fun b o hb hn q => by
    rw [q, hT] at hb; cases hb; exact hn ts hdT
  refine entryC hfr (hl.of_keeps fun b o hb hn => ⟨o, other b o (nr b o hb hn) hb, rfl⟩) hf (other _ _ (Ne.symm hTe) he) (fun b o q => other b o (fun z => by rw [z, hnT] at q; cases q) (hkb b o q)) hen hd h0 q3 fun h' x1 x2 x3 => h h' x1 (fun b o hb hn => x2 b o (other b o (nr b o hb hn) hb) hn) x3
theorem setFlightC {l : List Env} {fr : Option Addr} (hkb : base.StaysIn s.heap) (hl : s.heap.FunFrames base l) (ht : s.heap.TracedAtW base e cls a0 fl) (hc : Ctx e s.heap)
    (h : ∀ h', base.StaysIn h' → h'.FunFrames base l → h'.TracedAtW base e cls a0 (fr.elim .none fun f => rawInt f) → s.heap.UpToSlots h' → Ctx e h' → Q () { s with heap := h' }) :
    wpAny M A (setFlight (.ref e) fr) Q E s := by
  obtain ⟨oe, vs, T, oT, ts, he, hcls, hd, h1, hnT, hTe, hT, hdT, h3⟩ := ht
  obtain ⟨o', vs', q1, q2, q3⟩ := hc
  have hsz3 : 3 < ts.size := (Array.getElem?_eq_some_iff.mp h3).1
  unfold setFlight
  refine wpAny_bind (wpAny_field he hd h1 ?_)
  rw [if_pos (show (Value.ref T != Value.none) = true from by simp)]
  refine wpAny_setField hT hdT hsz3 ?_
  have other : ∀ b o, b ≠ T → s.heap.get? b = some o → (s.heap.update T (Obj.mapFields (·.setIfInBounds 3 (fr.elim Value.none fun f => rawInt f)))).get? b = some o := fun b o hb q => (Heap.get?_update_other _ _ (Ne.symm hb)).trans q
  have nr : ∀ b o, s.heap.get? b = some o → (∀ vs, o.data ≠ .fields vs) → b ≠ T := fun b o hb hn q => by
    rw [q, hT] at hb; cases hb; exact hn ts hdT
  refine h _ (fun b o q => other b o (fun z => by rw [z, hnT] at q; cases q) (hkb b o q)) (hl.of_keeps fun b o hb hn => ⟨o, other b o (nr b o hb hn) hb, rfl⟩) ?_ (fun b o hb hn => ⟨o.slots, other b o (nr b o hb hn) hb⟩) ⟨o', vs', other _ _ (Ne.symm hTe) q1, q2, q3⟩
  exact ⟨oe, vs, T, _, _, other _ _ (Ne.symm hTe) he, hcls, hd, h1, hnT, hTe, Heap.get?_update_self _ hT (Obj.isFreed_of_fields (Obj.data_mapFields hdT _)), Obj.data_mapFields hdT _, by simp [hsz3]⟩
/-- leaves the frame for the first time -/
theorem leaving_firstC (hfr : A.frames = some (env :: outer)) (hl : s.heap.FunFrames base (env :: outer)) (hf : env.frame = some L)
    (he : s.heap.get? e = some oe) (hkb : base.StaysIn s.heap) (hen : base.get? e = none) (hd : oe.data = .fields vs) (h0 : vs[0]? = some a0) (h1 : vs[1]? = some .none) (h2 : vs[2]? = some .none)
    (h : ∀ h', Heap.FlyingW base outer e oe.cls a0 h' → s.heap.UpToSlots h' → Ctx e h' → Q () { s with heap := h' }) : wpAny M A (leaving env (.ref e)) Q E s := by
  unfold leaving
  refine wpAny_bind (note_firstC hfr hl hf he hkb hen hd h0 h1 h2 fun h₁ x1 x2 x3 => ?_)
  obtain ⟨f1, f2, f3, f4⟩ := x1
  exact setFlightC f1 f3 f4 x3 fun h' y1 y2 y3 y4 y5 => h h' ⟨y1, f2, y2.2.2, y3⟩ (x2.trans y4) y5
/-- leaves a frame, wherever it was held -/
theorem leaving_nextC (hfr : A.frames = some (env :: outer)) (hf : env.frame = some L) (hfl : s.heap.TracedAtW base e cls a0 fl) (hkb : base.StaysIn s.heap) (hen : base.get? e = none) (hl : s.heap.FunFrames base (env :: outer)) (hc : Ctx e s.heap)
    (h : ∀ h', Heap.FlyingW base outer e cls a0 h' → s.heap.UpToSlots h' → Ctx e h' → Q () { s with heap := h' }) : wpAny M A (leaving env (.ref e)) Q E s := by
  have key : ∀ s₁ : Shared, s₁.heap.TracedAtW base e cls a0 (rawInt L) → base.StaysIn s₁.heap → s₁.heap.FunFrames base (env :: outer) → Ctx e s₁.heap → (∀ h', Heap.FlyingW base outer e cls a0 h' → s₁.heap.UpToSlots h' → Ctx e h' → Q () { s₁ with heap := h' }) → wpAny M A (setFlight (.ref e) none) Q E s₁ := fun s₁ a b c d k =>
    setFlightC b c a d fun h' y1 y2 y3 y4 y5 => k h' ⟨y1, hen, y2.2.2, y3⟩ y4 y5
  unfold leaving
  cases hq : (fl == rawInt L) with
  | true =>
    have hq : fl = rawInt L := eq_of_beq hq
    subst hq
    exact wpAny_bind (wpAny_noteFrame_againW hf hfl (key s hfl hkb hl hc h))
  | false =>
    refine wpAny_bind (note_nextC hfr hf hfl hq hkb hen hl hc fun h₁ x1 x2 x3 => ?_)
    obtain ⟨f1, f2, f3, f4⟩ := x1
    exact key { s with heap := h₁ } f4 f1 f3 x3 fun h' y1 y2 y3 => h h' y1 (x2.trans y2) y3
end
end Mine
end
section
open PySem PySem.W PySem.Spec PySem.Calls PyProof.Rows
namespace Mine
structure Bas (w : World) (mean : ExcName → Option Value) (mg mb : Str → Option Value) (base : Heap) : Prop where
  x : (ltop.heap_1 w.params).In base
  t : Top ltop.view_1 (looseW ltop.view_1 [Str.ofString "PostError"]) mean mg mb base
noncomputable abbrev frs (l : List Env) : List Addr := l.filterMap (·.frame)
noncomputable def Raised (G : Heap) (l : List Env) (e : Addr) (h : Heap) : Prop :=
  (∃ a0, Heap.FlyingW (hideAll G (frs l)) l e (.ref 59) a0 h) ∧ G.UpToSlots h ∧ Ctx e h
noncomputable def RetK (s : Shared) (Ret : Value → Heap → Prop) (v : Value) (s' : Shared) : Prop :=
  ∃ h' tk', s' = { s with heap := h', toks := tk' } ∧ Heap.StaysIn s.heap h' ∧ Ret v h'
noncomputable def ExnK (s : Shared) (l : List Env) (Exn : Prop) (e : Value) (s' : Shared) : Prop :=
  Exn ∧ ∃ a h' tk', e = .ref a ∧ s' = { s with heap := h', toks := tk' } ∧ Raised s.heap l a h'
noncomputable def Spec (w : World) (base : Heap) (f : Addr) (args : List Value) (q : Bool) (dd uu : Nat) (s : Shared) (Ret : Value → Heap → Prop) (Exn : Prop) : Prop :=
  ∀ (A : Around) (l : List Env) (Q E : Value → Shared → Prop),
    (q = false → A.handled = none) → Below A base l s.heap → A.depth + dd < recursionLimit → A.units + uu < cLine →
    (∀ r h' tk', Heap.StaysIn s.heap h' → Ret r h' → Q r { s with heap := h', toks := tk' }) →
    (Exn → ∀ e h' tk', Raised s.heap l e h' → E (.ref e) { s with heap := h', toks := tk' }) →
    wpAny (model PySem.Challenge.rw_no0368_01.row.toRowW.prog w) A (call (.ref f) args) Q E s
section
variable {w : World} {mean : ExcName → Option Value} {mg mb : Str → Option Value} {base : Heap} {f : Addr} {args : List Value} {q : Bool} {dd uu : Nat} {s : Shared} {Ret : Value → Heap → Prop} {Exn : Prop}
theorem enter {name qual : Str} {params : Arguments} {body : List Stmt} {scope : Scope} {dV kV doc pm cdv ct oc : Value} {an od : Option Addr} {osl : Array (Option Value)} {binds : List (Str × Value)}
    (hb : Bas w mean mg mb base)
    (ho : (ltop.heap_1 w.params).lookup f = some ⟨oc, od, .func (fnOf name qual params body scope dV kV doc pm an cdv ct), osl⟩) (hcd : codeIn (ltop.heap_1 w.params) cdv qual = true)
    (hbind : BindsTo s (fnOf name qual params body scope dV kV doc pm an cdv ct) ⟨args, []⟩ binds) (hloc : ∀ y ∈ binds, scope.names.lookup y.1 = some .local)
    (hco : scope.isCoroutine = false) (hgen : scope.isGenerator = false) (hk : scope.kind = .function) (hcell : ∀ x ∈ scope.names, x.2 ≠ .cell)
    (h : ∀ (A : Around) (l : List Env) (L : Addr) (h₁ : Heap), (q = false → A.handled = none) → Below A base l s.heap → A.depth + dd < recursionLimit → A.units + uu < cLine →
      (ltop.heap_1 w.params).In s.heap → Top ltop.view_1 (looseW ltop.view_1 [Str.ofString "PostError"]) mean mg mb s.heap → Fr s.heap L h₁ (fun y => binds.reverse.lookup y) → News s.heap L h₁ [] →
      wpAny (model PySem.Challenge.rw_no0368_01.row.toRowW.prog w) (A.deeper (envOf qual scope L f cdv)) (execs body (envOf qual scope L f cdv))
        (fun fl s' => RetK s Ret (match fl with | .ret v => v | _ => .none) s')
        (fun e s' => wpAny (model PySem.Challenge.rw_no0368_01.row.toRowW.prog w) (A.deeper (envOf qual scope L f cdv)) (leaving (envOf qual scope L f cdv) e) (fun _ s'' => ExnK s l Exn e s'') (fun e' s'' => ExnK s l Exn e' s'') s')
        { s with heap := h₁, toks := s.toks + binds.length }) : Spec w base f args q dd uu s Ret Exn := by
  intro A l Q E hh B hd hu hret hexc
  have X : (ltop.heap_1 w.params).In s.heap := hb.x.keeps B.stays
  have T := hb.t.keeps B.stays
  refine wpAny_call ?_
  refine codeAny_call_def (fd := fnOf name qual params body scope dV kV doc pm an cdv ct) (body := body) (binds := binds) (by omega) (X _ _ ho) rfl T.nolimit (codeRec_of X hcd) rfl hbind hcell hloc (fun h₁ hns hk₁ => ?_) hco hgen hk
  refine wpAny_mono (h A l s.heap.objs.size h₁ hh B hd hu X T ⟨hns, hk₁, Nat.le_refl _⟩ News.nil) (fun fl s' hl => ?_) fun e s' he => wpAny_mono he (fun _ s'' q => ?_) fun e' s'' q => ?_
  · obtain ⟨h', tk', rfl, k, r⟩ := hl
    exact hret _ _ _ k r
  · obtain ⟨x, a, h', tk', rfl, rfl, k⟩ := q
    exact hexc x _ _ _ k
  · obtain ⟨x, a, h', tk', rfl, rfl, k⟩ := q
    exact hexc x _ _ _ k
end
end Mine
end
section
open PySem PySem.W PySem.Spec PySem.Calls PyProof.Rows
namespace Mine
open Sem (wp)
noncomputable abbrev bmW : List Value := [.ref 46, .type "Exception", .type "BaseException", .type "object"]
noncomputable def WFobj : Obj := excClassObj (Str.ofString "WordFault") (Str.ofString "WordFault") 59 58 [.ref 46] bmW true [] [] false none none (some (.ref 50)) none (some (.str (Str.ofString "WordFault") 236)) (some (.str (Str.ofString "WordFault") 244)) (some (.bool true)) "Exception.__new__"
theorem wf_obj {w : World} {h : Heap} (X : (ltop.heap_1 w.params).In h) : h.get? 59 = some WFobj := X 59 _ (by with_unfolding_all rfl)
theorem wf_init {w : World} : findIn (ltop.heap_1 w.params) (.ref 59) "__init__" = some (some (.ref 36)) := by with_unfolding_all rfl
theorem wf_setattr {w : World} : findIn (ltop.heap_1 w.params) (.ref 59) "__setattr__" = some (some (.builtin "object.__setattr__")) := by with_unfolding_all rfl
noncomputable abbrev FE := PySem.F.excBase_Exception
section
variable {M : Model} {A : Around} {E : Value → Shared → Prop} {h : Heap} {g : Array GenState} {d : Drawn} {t : Nat} {os : OsState}
theorem wf_check_new {rest : List Value} {Q : Unit → Shared → Prop} (hC : h.get? 59 = some WFobj)
    (hq : Q () ⟨h, g, d, t, os⟩) : wpAny M A (checkBuiltinCall "Exception.__new__" ⟨.ref 59 :: rest, []⟩) Q E ⟨h, g, d, t, os⟩ := by
  unfold WFobj at hC
  have hcont : (Value.ref 59 :: bmW).contains (.type "Exception") = true := by decide
  have hstar := FE.noStar
  simp only [checkBuiltinCall, FE.newKind, FE.newSplit, FE.newRow]
  repeat (first | refine wpAny_loadPart_at hC ?_ | (refine wpAny_isSubtype_exc hC ?_; rw [hcont]) | refine wpAny_staticBase_exc hC ?_ | refine wpAny_madeBy_exc hC ?_ | simp only [bne_self_eq_false, Bool.false_eq_true, if_false] | wp_step)
  exact hq
theorem wf_check_init {e : Addr} {oe : Obj} {rest : List Value} {Q : Unit → Shared → Prop}
    (hC : h.get? 59 = some WFobj) (he : h.get? e = some oe) (hcls : oe.cls = .ref 59) (hq : Q () ⟨h, g, d, t, os⟩) :
    wpAny M A (checkBuiltinCall "Exception.__init__" ⟨.ref e :: rest, []⟩) Q E ⟨h, g, d, t, os⟩ := by
  unfold WFobj at hC
  have hcB : (Value.ref 59 :: bmW).contains (.type "Exception") = true := by decide
  have hshort := FE.noStar
  simp only [checkBuiltinCall, FE.initKind, FE.initSplit, FE.initRow]
  repeat (first | (with_reducible refine wpAny_loadPart_at he ?_; rw [hcls]) | with_reducible refine wpAny_loadPart_at hC ?_ | (with_reducible refine wpAny_isSubtype_exc hC ?_; rw [hcB]) | wp_step)
  refine wpAny_onRaise ?_
  rw [show ∀ (a b : String) (n : Nat), Bind.check ⟨.positional, "*", "Exception", .self, [⟨"args", .varPos, false⟩]⟩ a b n (List.map (fun x => x.fst) ({ pos := Value.ref e :: rest } : Args).kw) = pure () from
    fun a b n => check_star_args _ _ _ _ _ _]
  exact wpAny_pure hq
end
section
variable {prog : Program} {w : World} {A : Around} {R : Result → Shared → Prop} {E : Value → Shared → Prop} {h : Heap} {g : Array GenState} {d : Drawn} {t : Nat} {os : OsState}
theorem wf_new {rest : List Value} (hC : h.get? 59 = some WFobj)
    (hq : R (.ok (.ret (.ref (h.objs.size + 1)))) ⟨(h.push { cls := .type "tuple", data := .seq rest.toArray }).push
      { cls := .ref 59, data := .fields #[.ref h.objs.size, .none, .none, .none, .bool false, .none] }, g, d, t, os⟩) (hrest : rest.length ≤ sizeLine) :
    codeAny (model prog w) A (.builtin "Exception.__new__" ⟨.ref 59 :: rest, []⟩) R ⟨h, g, d, t, os⟩ := by
  unfold WFobj at hC
  have hends := FE.ends
  have hcB : (Value.ref 59 :: bmW).contains (.type "Exception") = true := by decide
  have hcA : (Value.ref 59 :: bmW).contains (.type "AttributeError") = false := by decide
  have hcN : (Value.ref 59 :: bmW).contains (.type "NameError") = false := by decide
  refine codeAny_builtinAt FE.entry ?_
  unfold Builtin.«BaseException.__new__»
  refine PySem.wpAt_bind ?_
  show PySem.wpAt _ _ _ (stack >>= _) _ _ _
  refine PySem.wpAt_bind (PySem.wpAt_stack fun p below => PySem.wpAt_of_wpAny ?_)
  wp_walk
  refine PySem.wpAt_of_wpAny ?_
  rw [FE.owner]
  repeat (first | with_reducible refine wpAny_madeHere_exc FE.canon hC ?_ | with_reducible refine wpAny_loadPart_at hC ?_ | (with_reducible refine wpAny_isSubtype_exc hC ?_; first | rw [hcB] | rw [hcA] | rw [hcN]) | wp_step)
  show R _ _
  rw [Heap.size_push]
  exact hq
/-- the class called: the object is made, its own __init__ runs -/
theorem wf_call {rest : List Value} {Q : Value → Shared → Prop} (X : (ltop.heap_1 w.params).In h) (hrest : rest.length ≤ sizeLine)
    (hq : ∀ h' e, Heap.MadeExcOf h h' e (.ref 59) rest → h.objs.size ≤ h'.objs.size →
      wpAny (model prog w) (A.under (.builtin "type.__call__" ⟨.ref 59 :: rest, []⟩)) (call (.ref 36) (.ref e :: rest)) (fun r s' => r = .none ∧ Q (.ref e) s') E ⟨h', g, d, t, os⟩) :
    wpAny (model prog w) A (call (.ref 59) rest) Q E ⟨h, g, d, t, os⟩ := by
  have hC0 := wf_obj X
  have hC := hC0
  unfold WFobj at hC
  have f1 := tc_lookup
  have f2 := tc_bind (.ref 59)
  have hT : (⟨h, g, d, t, os⟩ : Shared).TypeIs (.ref 59) "type" := ⟨_, hC, rfl⟩
  have hfI : h.get? 36 = some _ := X 36 _ (by with_unfolding_all rfl)
  refine wpAny_call (codeAny_of_tree ?_)
  show wpAny _ _ (callAny (.ref 59) _) _ _ _
  repeat (any_goals (first | assumption | with_reducible refine wpAny_loadPart_at hC ?_ | wp_step))
  refine ⟨rfl, ?_⟩
  refine codeAny_call_builtin_at (Code.quiet_builtin _ (by decide +kernel)) entry_typeCall (wpAny_check_type_call_sub hC ?_)
  repeat (first | with_reducible refine wpAny_loadPart_at hC ?_ | with_reducible refine wpAny_madeBy_exc hC ?_ | wp_step)
  refine codeAny_call_builtin_code (Code.quiet_builtin _ FE.quiet) (wf_check_new hC0 ?_)
  refine wf_new (rest := rest) hC0 ?_ hrest
  show wpAny _ _ _ _ _ _
  have X₁ : (ltop.heap_1 w.params).In ((h.push { cls := .type "tuple", data := .seq rest.toArray }).push { cls := .ref 59, data := .fields #[.ref h.objs.size, .none, .none, .none, .bool false, .none] }) :=
    X.keeps fun b o e => Heap.get?_push_of_some _ (Heap.get?_push_of_some _ e)
  have hC₁ := wf_obj X₁
  unfold WFobj at hC₁
  have hfI₁ : ((h.push { cls := .type "tuple", data := .seq rest.toArray }).push { cls := .ref 59, data := .fields #[.ref h.objs.size, .none, .none, .none, .bool false, .none] }).get? 36 = some _ := X₁ 36 _ (by with_unfolding_all rfl)
  have hget : ((h.push { cls := .type "tuple", data := .seq rest.toArray }).push
      { cls := .ref 59, data := .fields #[.ref h.objs.size, .none, .none, .none, .bool false, .none] }).get? (h.objs.size + 1) = some
      { cls := .ref 59, data := .fields #[.ref h.objs.size, .none, .none, .none, .bool false, .none] } := by heap_get
  have hcC : (Value.ref 59 :: bmW).contains (.ref 59) = true := by decide
  unfold isInstance
  repeat (first | with_reducible refine wpAny_loadPart_at hget ?_ | (with_reducible refine wpAny_isSubtype_exc hC₁ ?_; rw [hcC]) | wp_step)
  show wpAny _ _ (typeLookup (.ref 59) _) _ _ _
  refine (looks_findIn X₁ wf_init).here ?_
  refine wpAny_holding (wpAny_bind ?_)
  unfold bindSpecial
  refine wpAny_bind (wpAny_typeOf (T := "function") ⟨_, hfI₁, rfl⟩ ?_)
  rw [if_pos (by decide)]
  refine wpAny_pure (wpAny_bind (wpAny_mono (hq _ (h.objs.size + 1) ⟨fun b o hb => Heap.get?_push_of_some _ (Heap.get?_push_of_some _ hb), Heap.get?_none_of_le (Nat.le_succ _), h.objs.size, hget, Heap.get?_none_of_le (Nat.le_refl _), ?_⟩ (by simp only [Heap.size_push]; omega)) (fun r s' hr => ?_) fun _ _ x => x))
  · exact Heap.get?_push_of_some _ (Heap.get?_push_at rfl rfl)
  · obtain ⟨rfl, hQ⟩ := hr
    wp_walk
    exact hQ
end
end Mine
end
section
open PySem PySem.W PySem.Spec PySem.Calls PyProof.Rows
namespace Mine
open Sem (wp)
open Builtin Builtin.ObjectAttr
noncomputable abbrev SE := PySem.F.store_Exception
section
variable {prog : Program} {w : World} {A : Around} {E : Value → Shared → Prop} {h : Heap} {g : Array GenState} {d : Drawn} {t : Nat} {os : OsState}
variable {x : Addr} {mA : Str → Option Value} {name : Str} {v : Value}
theorem wf_store_entry {tk : Tok} {Q : Fin → Shared → Prop} {ns : List Str} (X : (ltop.heap_1 w.params).In h)
    (hf : findIn (ltop.heap_1 w.params) (.ref 59) name = some none) (I : h.Inst x 59 mA)
    (hq : ∀ h' tk', h'.Inst x 59 (fun y => if y = name then some v else mA y) →
      (∀ b o, b ≠ x → (∀ o₀ dx, h.get? x = some o₀ → o₀.dict = some dx → b ≠ dx) → h.get? b = some o → h'.get? b = some o) →
      (∀ o₀, h.get? x = some o₀ → ∃ o₁, h'.get? x = some o₁ ∧ o₁.cls = o₀.cls ∧ o₁.data = o₀.data ∧ o₁.slots = o₀.slots ∧ (∀ dx, o₀.dict = some dx → o₁.dict = some dx) ∧ ∀ dx, o₁.dict = some dx → o₀.dict = some dx ∨ h.get? dx = none) → Q (.done (.ret .none)) ⟨h', g, d, tk', os⟩) (hw : Within mA ns) (hsz : ns.length + 1 ≤ sizeLine) :
    wpAny (model prog w) A (Builtin.«object.__setattr__» ⟨[.ref x, .str name tk, v], []⟩) Q E ⟨h, g, d, t, os⟩ := by
  have hC := wf_obj X
  unfold WFobj at hC
  have hl := fun (M : Model) (A : Around) (Q : Option Value → Shared → Prop) (E : Value → Shared → Prop) (q : Q none ⟨h, g, d, t, os⟩) => (looks_findIn (M := M) X hf) A Q E ⟨h, g, d, t, os⟩ (fun _ _ e => e) q
  obtain ⟨o, hx, hc, hnc, hd⟩ := I
  have hpass := SE.passes (.ref x)
  unfold Builtin.«object.__setattr__»
  repeat (first | rw [refuse_eq] | (rw [refuseLoop_ref, refuseLoop_ref, hpass]) | (with_reducible refine wpAny_loadPart_at hx ?_; rw [hc]) | with_reducible refine wpAny_mroOf_exc hC ?_ | (with_reducible refine hl _ _ _ _ ?_) | wp_step)
  rcases hd with ⟨hdn, hmA⟩ | ⟨dx, hdx, hne, hns⟩
  ·
    rw [hdn, if_neg (by simp [typeHasDict])]
    split
    · rename_i hcd
      cases hcd
    split
    · rename_i c hcd
      exact absurd hcd (hnc c)
    · have hx₁ : (h.push { cls := .type "dict", data := .dict #[] }).get? x = some o := Heap.get?_push_of_some _ hx
      have hxs : x ≠ h.objs.size := Nat.ne_of_lt (Heap.lt_size hx)
      refine wpAny_bind (wpAny_alloc' ?_)
      refine wpAny_bind (wpAny_update' hx₁ ?_)
      refine wpAny_pure ?_
      have hgd : ((h.push { cls := .type "dict", data := .dict #[] }).update x fun o => { cls := o.cls, dict := some h.objs.size, data := o.data, slots := o.slots }).get? h.objs.size
          = some { cls := .type "dict", data := .dict #[] } :=
        (Heap.get?_update_ne _ _ _ _ hxs.symm).trans (Heap.get?_push_at rfl rfl)
      have hnd : ((h.push { cls := .type "dict", data := .dict #[] }).update x fun o => { cls := o.cls, dict := some h.objs.size, data := o.data, slots := o.slots }).Ns h.objs.size (fun _ => none) :=
        ⟨_, #[], _, hgd, rfl, fun e he => absurd he (by simp), fun _ => rfl⟩
      show wpAny _ _ (storeInDict h.objs.size (.str name tk) name v) _ _ _
      unfold storeInDict newKeyGuard
      refine wpAny_bind (wpAny_pure (wpAny_bind (wpAny_nsSet1 (Heap.Ns1.of_empty hnd) fun h' hn' hs => ?_)))
      obtain ⟨oD, esD, epD, hoD, hdD, hcD⟩ := hn'.count (Within.cons name v Within.nil)
      refine wpAny_bind (wpAny_lookBehind hoD (by rw [hdD]; exact pastItsLine_dict (Nat.le_trans hcD (by rw [List.length_cons, List.length_nil, sizeLine_eq]; omega))) ?_)
      wp_walk
      have hx' : h'.get? x = some { cls := o.cls, dict := some h.objs.size, data := o.data, slots := o.slots } := ?_
      refine hq h' _ ⟨{ cls := o.cls, dict := some h.objs.size, data := o.data, slots := o.slots }, hx', hc, hnc, .inr ⟨h.objs.size, rfl, hxs.symm, ?_⟩⟩ (fun b ob hbx _ hb => ?_)
        (fun o₀ h₀ => by obtain rfl : o = o₀ := Option.some.inj (hx.symm.trans h₀); exact ⟨_, hx', rfl, rfl, rfl, fun dx e => (by rw [hdn] at e; cases e), fun dx e => by cases e; exact .inr (Heap.get?_none_of_le (Nat.le_refl _))⟩)
      · obtain ⟨o', es, ep, e1, e2, e3, eu, e4⟩ := hn'
        exact ⟨o', es, ep, e1, e2, e3, eu, fun y => by rw [e4 y]; by_cases hy : y = name <;> simp [hy, hmA]⟩
      · exact (hs.2 b (Nat.ne_of_lt (Heap.lt_size hb))).trans ((Heap.get?_update_ne _ _ _ _ hbx).trans (Heap.get?_push_of_some _ hb))
      · refine (hs.2 x hxs).trans (Heap.get?_update_self _ hx₁ ?_)
        have hfr := (Heap.get?_some_iff.mp hx).2
        obtain ⟨oc, od, odt, osl⟩ := o
        cases odt <;> first | rfl | exact hfr
  ·
    rw [hdx]
    refine wpAny_pure ?_
    show wpAny _ _ (storeInDict dx (.str name tk) name v) _ _ _
    unfold storeInDict newKeyGuard
    refine wpAny_bind (wpAny_pure (wpAny_bind (wpAny_nsSet1 hns fun h' hn' hs => ?_)))
    obtain ⟨oD, esD, epD, hoD, hdD, hcD⟩ := hn'.count (Within.cons name v hw)
    refine wpAny_bind (wpAny_lookBehind hoD (by rw [hdD]; exact pastItsLine_dict (Nat.le_trans hcD (by rw [List.length_cons]; omega))) ?_)
    wp_walk
    refine hq h' _ ⟨o, (hs.2 x hne.symm).trans hx, hc, hnc, .inr ⟨dx, hdx, hne, hn'⟩⟩ (fun b ob _ hbd hb => ?_)
      (fun o₀ h₀ => ⟨o₀, (hs.2 x hne.symm).trans h₀, rfl, rfl, rfl, fun _ e => e, fun _ e => .inl e⟩)
    exact (hs.2 b (hbd o dx hx hdx)).trans hb
theorem wf_check_sa {M : Model} {o : Obj} {nameV : Value} {Q : Unit → Shared → Prop} (X : (ltop.heap_1 w.params).In h) (hx : h.get? x = some o) (hc : o.cls = .ref 59) (hq : Q () ⟨h, g, d, t, os⟩) :
    wpAny M A (checkBuiltinCall "object.__setattr__" ⟨[.ref x, nameV, v], []⟩) Q E ⟨h, g, d, t, os⟩ := by
  have hC := wf_obj X
  unfold WFobj at hC
  have hcB : (Value.ref 59 :: bmW).contains (.type "object") = true := by decide
  simp only [checkBuiltinCall, SE.kind, SE.split]
  refine wpAny_bind ?_
  · unfold isInstance
    repeat (first | (with_reducible refine wpAny_loadPart_at hx ?_; rw [hc]) | (with_reducible refine wpAny_isSubtype_exc hC ?_; rw [hcB]) | wp_step)
    exact hq
theorem wf_store {Q : Unit → Shared → Prop} {ns : List Str} (X : (ltop.heap_1 w.params).In h)
    (hf : findIn (ltop.heap_1 w.params) (.ref 59) name = some none) (I : h.Inst x 59 mA)
    (hq : ∀ h' tk', h'.Inst x 59 (fun y => if y = name then some v else mA y) →
      (∀ b o, b ≠ x → (∀ o₀ dx, h.get? x = some o₀ → o₀.dict = some dx → b ≠ dx) → h.get? b = some o → h'.get? b = some o) →
      (∀ o₀, h.get? x = some o₀ → ∃ o₁, h'.get? x = some o₁ ∧ o₁.cls = o₀.cls ∧ o₁.data = o₀.data ∧ o₁.slots = o₀.slots ∧ (∀ dx, o₀.dict = some dx → o₁.dict = some dx) ∧ ∀ dx, o₁.dict = some dx → o₀.dict = some dx ∨ h.get? dx = none) → Q () ⟨h', g, d, tk', os⟩) (hw : Within mA ns) (hsz : ns.length + 1 ≤ sizeLine) :
    wpAny (model prog w) A (setAttr (.ref x) name v) Q E ⟨h, g, d, t, os⟩ := by
  have hl := fun (M : Model) (A : Around) (Q : Option Value → Shared → Prop) (E : Value → Shared → Prop) t (q : Q (some (.builtin "object.__setattr__")) ⟨h, g, d, t, os⟩) => (looks_findIn (M := M) X wf_setattr) A Q E ⟨h, g, d, t, os⟩ (fun _ _ e => e) q
  obtain ⟨o, hx, hc, hnc, hd⟩ := id I
  have f3 := SE.slot.bind (.ref x)
  unfold setAttr callSpecial? specialOf
  repeat (any_goals (first | assumption | (with_reducible refine wpAny_loadPart_at hx ?_; rw [hc]) | (with_reducible refine hl _ _ _ _ _ ?_) | wp_step))
  refine codeAny_call_builtin SE.slot.plain SE.entry (wf_check_sa X hx hc (wf_store_entry X hf I (fun h' tk' I' hk hsame => ?_) hw hsz))
  repeat (any_goals (first | assumption | wp_step))
  exact hq h' tk' I' hk hsame
/-- the built-in's own __init__ lays the arguments again -/
theorem wf_initcall {t0 : Addr} {a1 a2 a3 a4 a5 : Value} {dd : Option Addr} {sl : Array (Option Value)} {vs : List Value} {Q : Value → Shared → Prop} (X : (ltop.heap_1 w.params).In h)
    (hx : h.get? x = some { cls := .ref 59, dict := dd, data := .fields #[.ref t0, a1, a2, a3, a4, a5], slots := sl }) (hrest : vs.length ≤ sizeLine)
    (hq : ∀ h', (∀ b o, b ≠ x → h.get? b = some o → h'.get? b = some o) → h'.get? x = some { cls := .ref 59, dict := dd, data := .fields #[.ref h.objs.size, a1, a2, a3, a4, a5], slots := sl } → h'.get? h.objs.size = some { cls := .type "tuple", data := .seq vs.toArray } → Q .none ⟨h', g, d, t, os⟩) :
    wpAny (model prog w) A (call (.builtin "Exception.__init__") (.ref x :: vs)) Q E ⟨h, g, d, t, os⟩ := by
  have hxs : x ≠ h.objs.size := Nat.ne_of_lt (Heap.lt_size hx)
  refine wpAny_call (codeAny_call_builtin FE.init.plain FE.initEntry (wf_check_init (wf_obj X) hx rfl ?_))
  wp_walk
  refine hq _ (fun b o hb e => ?_) ?_ ?_
  · rw [Heap.get?_update_other _ _ (Ne.symm hb)]
    exact Heap.get?_push_of_some _ e
  · rw [Heap.get?_update_self _ (Heap.get?_push_of_some _ hx) rfl]
    rfl
  · rw [Heap.get?_update_other _ _ hxs]
    exact Heap.get?_push_at rfl rfl
end
end Mine
end
section
open PySem PySem.W PySem.Spec PySem.Calls PyProof.Rows
namespace Mine
open Sem (wp)
noncomputable def ExcIn (g : Heap) (L : Addr) (h : Heap) (x : Addr) (k : Nat) : Prop :=
  ∃ oe t mA ns, h.get? x = some oe ∧ oe.cls = .ref 59 ∧ oe.slots = #[] ∧ oe.data = .fields #[.ref t, .none, .none, .none, .bool false, .none] ∧ h.Inst x 59 mA ∧ Within mA ns ∧ ns.length = k ∧
    (∀ dx, oe.dict = some dx → g.get? dx = none ∧ dx ≠ L) ∧ g.get? x = none ∧ x ≠ L
structure MadeWF (h h' : Heap) (e : Addr) : Prop where
  keeps : ∀ b o, h.get? b = some o → h'.get? b = some o
  new : h.get? e = none
  there : ∃ t oe, h'.get? e = some oe ∧ oe.cls = .ref 59 ∧ oe.data = .fields #[.ref t, .none, .none, .none, .bool false, .none]
section
variable {prog : Program} {w : World} {A : Around} {E : Value → Shared → Prop} {s : Shared} {g : Heap} {L x : Addr} {m : Str → Option Value} {k : Nat}
theorem fr_off {h h' : Heap} (F : Fr g L h m) (hk : ∀ b o, b ≠ x → b ∉ ([] : List Addr) → h.get? b = some o → h'.get? b = some o) (hx : g.get? x = none) (hxL : x ≠ L) : Fr g L h' m := by
  obtain ⟨o, es, ep, ho, r⟩ := F.ns
  refine ⟨⟨o, es, ep, hk L o (Ne.symm hxL) (by simp) ho, r⟩, fun b o e => hk b o (fun q => ?_) (by simp) (F.keep b o e), F.above⟩
  rw [q, hx] at e; cases e
theorem wf_initcall_K {vs : List Value} {Q : Value → Shared → Prop} (F : Fr g L s.heap m) (X : (ltop.heap_1 w.params).In g) (I : ExcIn g L s.heap x k) (hrest : vs.length ≤ sizeLine)
    (hq : ∀ h', Fr g L h' m → ExcIn g L h' x k → Q .none { s with heap := h' }) :
    wpAny (model prog w) A (call (.builtin "Exception.__init__") (.ref x :: vs)) Q E s := by
  obtain ⟨⟨oc, od, odt, osl⟩, t, mA, ns, hx, hc, hsl, hd, I, hW, hn, hdx, hg, hL⟩ := I
  dsimp only at hc hd hsl hdx
  subst hc hd hsl
  obtain ⟨hp, gs, dr, tk, os⟩ := s
  refine wf_initcall (X.keeps F.keep) hx hrest fun h' hk hx' _ => hq h' (fr_off F (fun b o n _ e => hk b o n e) hg hL) ⟨_, _, mA, ns, hx', rfl, rfl, rfl, ?_, hW, hn, hdx, hg, hL⟩
  obtain ⟨o, ho, hoc, hnc, r⟩ := I
  have : o = _ := Option.some.inj (ho.symm.trans hx)
  subst this
  refine ⟨_, hx', rfl, (fun c q => by cases q), ?_⟩
  rcases r with ⟨a, b⟩ | ⟨d, a, b, c⟩
  · exact .inl ⟨a, b⟩
  · refine .inr ⟨d, a, b, ?_⟩
    obtain ⟨o', es, ep, e1, r⟩ := c
    exact ⟨o', es, ep, hk _ _ b e1, r⟩
theorem wf_set_K {name : Str} {v : Value} {Q : Unit → Shared → Prop} (F : Fr g L s.heap m) (X : (ltop.heap_1 w.params).In g) (I : ExcIn g L s.heap x k) (hk : k < 1000)
    (hf : findIn (ltop.heap_1 w.params) (.ref 59) name = some none)
    (hq : ∀ h' tk', Fr g L h' m → ExcIn g L h' x (k + 1) → Q () { s with heap := h', toks := tk' }) :
    wpAny (model prog w) A (setAttr (.ref x) name v) Q E s := by
  obtain ⟨oe, t, mA, ns, hx, hc, hsl, hd, I, hW, hn, hdx, hg, hL⟩ := I
  obtain ⟨hp, gs, dr, tk, os⟩ := s
  refine wf_store (X.keeps F.keep) hf I (fun h' tk' I' k1 k2 => ?_) hW (by rw [hn, sizeLine_eq]; omega)
  obtain ⟨o₁, hx', hc', hd', hsl', hdi, hdi'⟩ := k2 oe hx
  have keep : ∀ b o, g.get? b = some o → h'.get? b = some o := fun b o e => k1 b o (fun q => by rw [q, hg] at e; cases e) (fun o₀ dx e0 e1 q => by
    obtain rfl : oe = o₀ := Option.some.inj (hx.symm.trans e0)
    have := (hdx dx e1).1
    rw [← q, e] at this; cases this) (F.keep b o e)
  obtain ⟨o, es, ep, ho, r⟩ := F.ns
  have hLk := k1 L o (Ne.symm hL) (fun o₀ dx e0 e1 q => by
    obtain rfl : oe = o₀ := Option.some.inj (hx.symm.trans e0)
    exact (hdx dx e1).2 q.symm) ho
  refine hq h' tk' ⟨⟨o, es, ep, hLk, r⟩, keep, F.above⟩ ⟨o₁, t, _, name :: ns, hx', hc'.trans hc, hsl'.trans hsl, hd'.trans hd, I', Within.cons name v hW, by rw [List.length_cons, hn], fun dx e => ?_, hg, hL⟩
  rcases hdi' dx e with q | q
  · exact hdx dx q
  · refine ⟨?_, fun z => ?_⟩
    · cases q' : g.get? dx with
      | none => rfl
      | some o' => have := F.keep _ _ q'; rw [q] at this; cases this
    · rw [z, ho] at q; cases q
end
end Mine
end
section
open PySem PySem.W PySem.Spec PySem.Calls PyProof.Rows
namespace Mine
theorem fill5 : (PySem.Challenge.rw_no0368_01, ltop.heap_1) = (PySem.Challenge.rw_no0368_01, ltop.heap_1) := by k_fill; rfl
theorem _root_.Mine.rowsW5_1 : True := by
  k_with_none
  k_with "eval Name" => (k_here; (with_reducible show wpAny _ _ (eval (Expr.Name (Str.ofString "Exception") _) _) _ _ _); refine name_B (by assumption) (by assumption) (topRead_of (by assumption)) (by k_is) PyProof.Rows.Boot.«Exception» (by decide) ?_)
  k_with "getMethod type:Exception" => (k_here; refine method_type (by assumption) (by assumption) (by rfl) (by decide +kernel) (by k_is) (by rfl) ?_)
  k_with "call builtin:Exception.__init__" => (k_here; (with_reducible rename ExcIn _ _ _ _ _ => eI); (with_reducible rename Fr _ _ _ _ => eF); refine wf_initcall_K eF (by assumption) eI (by rw [sizeLine_eq]; simp) ?_; clear eI eF; intro _ _ _)
  k_with "setAttr ref" => (k_here; (with_reducible rename ExcIn _ _ _ _ _ => eI); (with_reducible rename Fr _ _ _ _ => eF); refine wf_set_K eF (by assumption) eI (by decide) (by k_is) ?_; clear eI eF; intro _ _ _ _)
  trivial
theorem init_body (w : World) {mean : ExcName → Option Value} {mg mb : Str → Option Value} (A : Around) (g : Heap) (e L : Addr) (Q : Flow → Shared → Prop) (E : Value → Shared → Prop) (s : Shared) (x : Str) (t : Tok) (k : Int) (t' : Tok) (m : Str → Option Value)
  (F : Fr g L s.heap m) (X : (ltop.heap_1 w.params).In g) (T : Top ltop.view_1 (looseW ltop.view_1 [Str.ofString "PostError"]) mean mg mb g)
  (I : ExcIn g L s.heap e 0) (hm : m = fun y => List.lookup y [(Str.ofString "at", .int k t'), (Str.ofString "what", .str x t), (Str.ofString "self", .ref e)])
  (hq : ∀ h' tk', Fr g L h' m → ExcIn g L h' e 2 → Q .next { s with heap := h', toks := tk' })
  (oc : Value) (od : Option Addr) (name qual : Str) (params : Arguments) (body : List Stmt) (scope : Scope) (dV kV doc pm cdv : Value) (an : Option Addr) (ct : Value) (osl : Array (Option Value))
  (hbody : (ltop.heap_1 w.params).lookup 36 = some ⟨oc, od, .func (fnOf name qual params body scope dV kV doc pm an cdv ct), osl⟩) :
  wpAny (model PySem.Challenge.rw_no0368_01.row.toRowW.prog w) A (execs body (envOf (Str.ofString "PostError.__init__") scope L 36 cdv)) Q E s := by
  rw [show (ltop.heap_1 w.params).lookup 36 = _ from by with_unfolding_all rfl] at hbody
  cases hbody
  subst hm
  k_steps
  exact hq _ _ (by assumption) (by assumption)
theorem rawcall {w : World} {mean : ExcName → Option Value} {mg mb : Str → Option Value} {A : Around} {E : Value → Shared → Prop} {Q : Value → Shared → Prop} {s : Shared} {f : Addr} {args : List Value}
    {name qual : Str} {params : Arguments} {body : List Stmt} {scope : Scope} {dV kV doc pm cdv ct oc : Value} {an od : Option Addr} {osl : Array (Option Value)} {binds : List (Str × Value)}
    (X : (ltop.heap_1 w.params).In s.heap) (T : Top ltop.view_1 (looseW ltop.view_1 [Str.ofString "PostError"]) mean mg mb s.heap)
    (ho : (ltop.heap_1 w.params).lookup f = some ⟨oc, od, .func (fnOf name qual params body scope dV kV doc pm an cdv ct), osl⟩) (hcd : codeIn (ltop.heap_1 w.params) cdv qual = true) (hd : A.depth < recursionLimit)
    (hbind : BindsTo s (fnOf name qual params body scope dV kV doc pm an cdv ct) ⟨args, []⟩ binds) (hloc : ∀ y ∈ binds, scope.names.lookup y.1 = some .local)
    (hco : scope.isCoroutine = false) (hgen : scope.isGenerator = false) (hk : scope.kind = .function) (hcell : ∀ x ∈ scope.names, x.2 ≠ .cell)
    (h : ∀ (h₁ : Heap), h₁.Ns s.heap.objs.size (fun y => binds.reverse.lookup y) → (∀ b o, s.heap.get? b = some o → h₁.get? b = some o) →
      wpAny (model PySem.Challenge.rw_no0368_01.row.toRowW.prog w) (A.deeper (envOf qual scope s.heap.objs.size f cdv)) (execs body (envOf qual scope s.heap.objs.size f cdv))
        (fun fl s' => Q (match fl with | .ret v => v | _ => .none) s') (fun _ _ => False)
        { s with heap := h₁, toks := s.toks + binds.length }) : wpAny (model PySem.Challenge.rw_no0368_01.row.toRowW.prog w) A (call (.ref f) args) Q E s := by
  refine wpAny_call ?_
  refine codeAny_call_def (fd := fnOf name qual params body scope dV kV doc pm an cdv ct) (body := body) (binds := binds) hd (X _ _ ho) rfl T.nolimit (codeRec_of X hcd) rfl hbind hcell hloc (fun h₁ hns hk₁ => ?_) hco hgen hk
  exact wpAny_mono (h h₁ hns hk₁) (fun fl s' q => q) fun _ _ q => q.elim
theorem wf_make {w : World} {mean : ExcName → Option Value} {mg mb : Str → Option Value} {base : Heap} {A : Around} {E : Value → Shared → Prop} {Q : Value → Shared → Prop} {s : Shared} {x : Str} {t : Tok} {rest : List Value}
    (hb : Bas w mean mg mb base) (B : base.StaysIn s.heap) (hd : A.depth + 2 < recursionLimit) (hrest : rest = [.str x t] ∨ ∃ k t', rest = [.str x t, .int k t'])
    (hq : ∀ h' tk' e, MadeWF s.heap h' e → Q (.ref e) { s with heap := h', toks := tk' }) :
    wpAny (model PySem.Challenge.rw_no0368_01.row.toRowW.prog w) A (call (.ref 59) rest) Q E s := by
  obtain ⟨hp, gs, dr, tk, os⟩ := s
  have X := hb.x.keeps B
  have T := hb.t.keeps B
  refine wf_call X (by rcases hrest with rfl | ⟨_, _, rfl⟩ <;> (rw [sizeLine_eq]; simp)) fun h₁ e hm hsz => ?_
  have hroom : (A.under (Code.builtin "type.__call__" { pos := Value.ref 59 :: rest })).depth < recursionLimit := by
    show A.depth + _ < _
    have : (Code.builtin "type.__call__" { pos := Value.ref 59 :: rest }).weight = 1 := by rfl
    omega
  have X₁ := X.keeps hm.keeps
  have T₁ := T.keeps hm.keeps
  obtain ⟨tt, he, htn, ht⟩ := hm.there
  have key : ∀ (k : Int) (t' : Tok) (h₂ : Heap) (tk₂ : Nat) (L : Addr) (m : Str → Option Value) (A : Around) (hns : h₂.Ns L m) (hk₂ : ∀ b o, h₁.get? b = some o → h₂.get? b = some o) (hL : h₁.objs.size ≤ L) (hm' : m = fun y => List.lookup y [(Str.ofString "at", .int k t'), (Str.ofString "what", .str x t), (Str.ofString "self", .ref e)])
      (Q' : Flow → Shared → Prop) (E' : Value → Shared → Prop)
      (hq' : ∀ h' tk', MadeWF hp h' e → Q' .next ⟨h', gs, dr, tk', os⟩)
      (oc : Value) (od : Option Addr) (name qual : Str) (params : Arguments) (body : List Stmt) (scope : Scope) (dV kV doc pm cdv : Value) (an : Option Addr) (ct : Value) (osl : Array (Option Value))
      (hbody : (ltop.heap_1 w.params).lookup 36 = some ⟨oc, od, .func (fnOf name qual params body scope dV kV doc pm an cdv ct), osl⟩),
      wpAny (model PySem.Challenge.rw_no0368_01.row.toRowW.prog w) A (execs body (envOf (Str.ofString "PostError.__init__") scope L 36 cdv)) Q' E' ⟨h₂, gs, dr, tk₂, os⟩ := by
    intro k t' h₂ tk₂ L m A hns hk₂ hL hm' Q' E' hq' oc od name qual params body scope dV kV doc pm cdv an ct osl hbody
    have hxL : e ≠ L := Nat.ne_of_lt (Nat.lt_of_lt_of_le (Heap.lt_size he) hL)
    refine init_body (g := hp) w A e L Q' E' ⟨h₂, gs, dr, tk₂, os⟩ x t k t' m ⟨hns, fun b o q => hk₂ _ _ (hm.keeps _ _ q), Nat.le_trans hsz hL⟩ X T ⟨_, tt, fun _ => none, [], hk₂ _ _ he, rfl, rfl, rfl, ⟨_, hk₂ _ _ he, rfl, (fun c q => by cases q), .inl ⟨rfl, fun _ => rfl⟩⟩, ?_, rfl, (fun dx q => by cases q), hm.new, hxL⟩ hm' (fun h' tk' F' I' => ?_) oc od name qual params body scope dV kV doc pm cdv an ct osl hbody
    · exact Within.nil
    · obtain ⟨oe, t1, _, _, a1, a2, _, a3, _⟩ := I'
      exact hq' _ _ ⟨F'.keep, hm.new, ⟨t1, oe, a1, a2, a3⟩⟩
  rcases hrest with rfl | ⟨k, t', rfl⟩
  · refine' rawcall (binds := [(Str.ofString "self", .ref e), (Str.ofString "what", .str x t), (Str.ofString "at", .int (-1) 209)]) X₁ T₁ ?k6 ?k7 ?kd ?kb ?kl ?c2 ?c3 ?c4 ?c5 ?_
    case k6 => k_is
    case k7 => k_is
    case kd => exact hroom
    case c2 => exact rfl
    case c3 => exact rfl
    case c4 => exact rfl
    case c5 => decide
    case kl => exact locs rfl
    case kb => exact BindsTo.of_defaults (o := { cls := .type "tuple", data := .seq #[.int (-1) 209] }) rfl (X₁ 29 _ (by k_is)) rfl rfl rfl
    intro h₂ hns hk₂
    refine wpAny_mono (key (-1) 209 h₂ _ _ _ _ hns hk₂ (Nat.le_refl _) rfl (fun f s' => (match f with | .ret v => v | _ => .none) = Value.none ∧ Q (.ref e) s') (fun _ _ => False) (fun h' tk' hm' => ⟨rfl, hq _ _ _ hm'⟩) _ _ _ _ _ _ _ _ _ _ _ _ _ _ _ (by k_is)) (fun f s' q => q) fun _ _ q => False.elim q
  · refine' rawcall (binds := [(Str.ofString "self", .ref e), (Str.ofString "what", .str x t), (Str.ofString "at", .int k t')]) X₁ T₁ ?k6 ?k7 ?kd ?kb ?kl ?c2 ?c3 ?c4 ?c5 ?_
    case k6 => k_is
    case k7 => k_is
    case kd => exact hroom
    case c2 => exact rfl
    case c3 => exact rfl
    case c4 => exact rfl
    case c5 => decide
    case kl => exact locs rfl
    case kb => exact BindsTo.of_defaults (o := { cls := .type "tuple", data := .seq #[.int (-1) 209] }) rfl (X₁ 29 _ (by k_is)) rfl rfl rfl
    intro h₂ hns hk₂
    refine wpAny_mono (key k t' h₂ _ _ _ _ hns hk₂ (Nat.le_refl _) rfl (fun f s' => (match f with | .ret v => v | _ => .none) = Value.none ∧ Q (.ref e) s') (fun _ _ => False) (fun h' tk' hm' => ⟨rfl, hq _ _ _ hm'⟩) _ _ _ _ _ _ _ _ _ _ _ _ _ _ _ (by k_is)) (fun f s' q => q) fun _ _ q => False.elim q
end Mine
end
section
open PySem PySem.W PySem.Spec PySem.Calls PyProof.Rows
namespace Mine
open Sem (wp)
noncomputable def RPost (w : World) (E : Value → Shared → Prop) (v : Value) (s₁ : Shared) : Prop :=
  ∃ e oe t, v = .ref e ∧ (ltop.heap_1 w.params).In s₁.heap ∧ s₁.heap.get? e = some oe ∧ oe.cls = .ref 59 ∧ oe.data = .fields #[.ref t, .none, .none, .none, .bool false, .none] ∧ E (.ref e) s₁
section
variable {M : Model} {A : Around} {E : Value → Shared → Prop} {env : Env} {w : World}
theorem raiseStmt_wf {s : Shared} {x : Sem Value} {Q : Flow → Shared → Prop} (hh : A.handled = none)
    (h : wpAny M A x (RPost w E) E s) : wpAny M A (raiseStmt env (some x) none) Q E s := by
  have hcB : (Value.ref 59 :: bmW).contains (.type "BaseException") = true := by decide
  unfold raiseStmt
  refine wpAny_bind (wpAny_mono h (fun v s₁ h₁ => ?_) fun _ _ x => x)
  obtain ⟨e, ⟨oc, od, odt, osl⟩, t, rfl, X, he, hc, hd, hE⟩ := h₁
  dsimp only at hc hd
  subst hc hd
  have hC := wf_obj X
  unfold WFobj at hC
  obtain ⟨hp, g, d, tk, os⟩ := s₁
  repeat (first | with_reducible refine wpAny_loadPart_at he ?_ | with_reducible refine wpAny_loadPart_at hC ?_ | (with_reducible refine wpAny_isSubtype_exc hC ?_; rw [hcB]) | wp_step)
  exact wpAny_raiseNew_none hh hE
theorem raise_wf {prog : Program} {s : Shared} {c : PySem.Expr} {pos : Pos} {Q : Flow → Shared → Prop} (hh : A.handled = none)
    (h : wpAny (model prog w) A (eval c env) (RPost w E) E s) : wpAny (model prog w) A (exec (.Raise (some c) none pos) env) Q E s := by
  rw [arm_exec_Raise]
  first
    | exact wpAny_bind (wpAny_standAt (raiseStmt_wf (w := w) hh (wpAny_bind (wpAny_mono h (fun v s₃ h₃ => wpAny_bind (wpAny_standAt (wpAny_pure h₃))) fun _ _ x => x))))
    | (simp only [evalOpt, Option.map]; exact wpAny_bind (wpAny_standAt (raiseStmt_wf (w := w) hh (wpAny_bind (wpAny_mono h (fun v s₃ h₃ => wpAny_bind (wpAny_standAt (wpAny_pure h₃))) fun _ _ x => x)))))
end
theorem rpost {w : World} {g : Heap} {E : Value → Shared → Prop} {s : Shared} {h' : Heap} {tk' : Nat} {e L : Addr} {m : Str → Option Value} (X : (ltop.heap_1 w.params).In g) (F : Fr g L s.heap m) (H : MadeWF s.heap h' e) (hE : E (.ref e) { s with heap := h', toks := tk' }) :
    RPost w E (.ref e) { s with heap := h', toks := tk' } := by
  obtain ⟨t, oe, a, b, c⟩ := H.there
  exact ⟨e, oe, t, rfl, (X.keeps F.keep).keeps H.keeps, a, b, c, hE⟩
section
variable {M : Model} {A : Around} {E : Value → Shared → Prop} {base g h : Heap} {l : List Env} {s s' : Shared} {L a e : Addr} {m : Str → Option Value} {name : Str} {scope : Scope} {cd : Value} {Exn : Prop}
theorem hide_in (B : Below A base l g) (F : Fr g L h m) : (hideAll g (frs l)).StaysIn (hideAll h (frs (envOf name scope L a cd :: l))) := by
  intro b o q
  have qg := of_hideAll _ q
  refine hideAll_get _ (F.keep b o qg) fun hm => ?_
  rcases kts_mem hm with z | z
  · rw [z, kts_self F] at qg; cases qg
  · rw [hideAll_none _ z] at q; cases q
theorem leave_new (B : Below A base l s.heap) (F : Fr s.heap L h m) (H : MadeWF h s'.heap e) (hs : s' = { s with heap := s'.heap, toks := s'.toks }) (x : Exn) (hk : scope.kind = .function := by rfl) :
    wpAny M (A.deeper (envOf name scope L a cd)) (leaving (envOf name scope L a cd) (.ref e)) (fun _ s'' => ExnK s l Exn (.ref e) s'') E s' := by
  have K' := B.push (name := name) (a := a) (cd := cd) F hk
  have hin : ∀ env ∈ (envOf name scope L a cd :: l), ∀ b, env.frame = some b → b ∈ (envOf name scope L a cd :: l).filterMap (·.frame) := fun env he b hb => List.mem_filterMap.mpr ⟨env, he, hb⟩
  obtain ⟨t, oe, he, hcls, hd⟩ := H.there
  have fresh : ∀ b, h.get? b = none → (hideAll h (frs (envOf name scope L a cd :: l))).get? b = none := fun b hb => by
    cases hq : (hideAll h (frs (envOf name scope L a cd :: l))).get? b with
    | none => rfl
    | some o' => have := of_hideAll _ hq; rw [hb] at this; cases this
  refine leaving_firstC (a0 := .ref t) (base := hideAll h (frs (envOf name scope L a cd :: l))) K'.stack ((funFrames_hide K'.frames hin).of_keeps fun b o hb _ => ⟨o, H.keeps b o hb, rfl⟩) rfl he (fun b o hb => H.keeps b o (of_hideAll _ hb)) (fresh e H.new) hd rfl rfl rfl fun h' hL k4 hc => ?_
  rw [hcls] at hL
  refine ⟨x, e, h', s'.toks, rfl, by rw [hs], ⟨.ref t, flyingW_base (hide_in B F) hL⟩, ?_, hc⟩
  exact ((Heap.UpToSlots.of_keeps F.keep).trans (Heap.UpToSlots.of_keeps H.keeps)).trans k4
theorem leave_pass (B : Below A base l s.heap) (F : Fr s.heap L h m) (R : Raised h (envOf name scope L a cd :: l) e s'.heap) (hs : s' = { s with heap := s'.heap, toks := s'.toks }) (x : Exn) :
    wpAny M (A.deeper (envOf name scope L a cd)) (leaving (envOf name scope L a cd) (.ref e)) (fun _ s'' => ExnK s l Exn (.ref e) s'') E s' := by
  obtain ⟨⟨a0, f1, f2, f3, f4⟩, hsm, hc⟩ := R
  refine leaving_nextC (Around.frames_deeper B.stack) rfl f4 f1 f2 f3 hc fun h' x1 x2 x3 => ?_
  exact ⟨x, e, h', s'.toks, rfl, by rw [hs], ⟨a0, flyingW_base (hide_in B F) x1⟩, ((Heap.UpToSlots.of_keeps F.keep).trans hsm).trans x2, x3⟩
end
end Mine
end
section
open PySem PySem.W PySem.Spec PySem.Calls PyProof.Rows
namespace Mine
open Builtin
theorem drop_lt {l r : List UInt8} {n : Nat} {c : UInt8} (D : l.drop n = c :: r) : n < l.length := by
  apply Nat.lt_of_not_le
  intro h
  rw [List.drop_eq_nil_of_le h] at D
  cases D
theorem drop_getD {l r : List UInt8} {n : Nat} {c : UInt8} (D : l.drop n = c :: r) : l.getD n 0 = c := by
  have h := drop_lt D
  have e := List.drop_eq_getElem_cons h
  rw [D] at e
  rw [List.getD_eq_getElem?_getD, List.getElem?_eq_getElem h]
  exact (List.cons.inj e).1.symm
theorem drop_succ {l r : List UInt8} {n : Nat} {c : UInt8} (D : l.drop n = c :: r) : l.drop (n + 1) = r := by
  rw [← List.drop_drop, D]; rfl
theorem drop_nil_le {l : List UInt8} {n : Nat} (D : l.drop n = []) : l.length ≤ n := List.drop_eq_nil_iff.mp D
theorem gives_bytes_contains (l : List UInt8) (c : UInt8) (k : Int) (hk : k = (c.toNat : Int)) (t u : Tok) : Gives («bytes.__contains__» ⟨[.bytes l.toArray t, .int k u], []⟩) (.val (.bool (l.contains c))) := by
  subst hk
  refine .of_wp fun M A E s Q hq => ?_
  show wpAny M A (Bytes.containsIn "bytes.__contains__" (.bytes l.toArray t) (.int c.toNat u) >>= fun b => ret (.bool b)) _ E s
  refine wpAny_bind ?_
  unfold Bytes.containsIn
  refine wpAny_bind (wpAny_attempt (wpAny_pure ?_))
  rw [KBy.buffer_eq]
  refine wpAny_bind (wpAny_pure ?_)
  have hc : c.toNat < 256 := UInt8.toNat_lt c
  have h1 : ¬ (((c.toNat : Int) < 0 || (c.toNat : Int) ≥ 256) = true) := by
    simp only [Bool.or_eq_true, decide_eq_true_eq]; omega
  show wpAny M A (if (((c.toNat : Int) < 0 || (c.toNat : Int) ≥ 256) = true) then _ else _) _ E s
  rw [if_neg h1]
  refine wpAny_pure (wpAny_pure ⟨_, rfl, ?_⟩)
  have e : (l.toArray.contains ((c.toNat : Int).toNat.toUInt8)) = l.contains c := by
    rw [Int.toNat_natCast, List.contains_toArray]
    congr 1
    simp
  rw [e]; exact hq
section
variable {prog : Program} {w : World} {A : Around} {E : Value → Shared → Prop} {s : Shared} {g : Heap} {L : Addr} {m : Str → Option Value} {news : List (Addr × Obj)} {l : List UInt8} {t u : Tok} {value slice : PySem.Expr} {Q : Value → Shared → Prop} {x y : Value}
theorem b_in {k : Int} {c : UInt8} {b : Bool} (hk : k = (c.toNat : Int)) (hb : l.contains c = b) (h : Q (.bool b) s) : wpAny (model prog w) A (compareOp .In (.int k u) (.bytes l.toArray t)) Q E s :=
  in_gives (typeIs_bytes s _ t) FB.slot_bytes_contains FB.entry_bytes_contains (FB.args_bytes_contains_2 _ _) (gives_bytes_contains l c k hk t u) (by rw [hb]; exact h)
theorem b_eq {a b : List UInt8} {r : Bool} (hb : (a == b) = r) (h : Q (.bool r) s) : wpAny (model prog w) A (compareOp .Eq (.bytes a.toArray t) (.bytes b.toArray u)) Q E s :=
  eq_bytes (by rw [show (a.toArray.toList == b.toArray.toList) = (a == b) from rfl, hb]; exact h)
theorem b_ne {a b : List UInt8} {r : Bool} (hb : (a != b) = r) (h : Q (.bool r) s) : wpAny (model prog w) A (compareOp .NotEq (.bytes a.toArray t) (.bytes b.toArray u)) Q E s :=
  ne_bytes (by rw [show (a.toArray.toList != b.toArray.toList) = (a != b) from rfl, hb]; exact h)
theorem b_len (hz : l.length ≤ 16777216) (h : ∀ t' k, Q (.int (l.length : Nat) t') { s with toks := k }) : wpAny (model prog w) A (call (.builtin "len") [.bytes l.toArray t]) Q E s :=
  len_bytes (by show l.length ≤ _; omega) (h _ _)
theorem b_item {i : Int} {n : Nat} {c : UInt8} {r : List UInt8} (hi : i = Int.ofNat n) (D : l.drop n = c :: r) (hz : l.length ≤ 16777216) (h : ∀ t' k, Q (.int (c.toNat : Int) t') { s with toks := k })
    (hs : subscripted slice false (.bytes l.toArray t) (.int i u) = operate [.bytes l.toArray t, .int i u] (getItem (.bytes l.toArray t) (.int i u)) := by with_unfolding_all rfl)
    (ht : ∀ r, letTemporaryGo value (.bytes l.toArray t) r = pure () := by intro _; with_unfolding_all rfl) : wpAny (model prog w) A (subscriptTail value slice (.bytes l.toArray t) (.int i u)) Q E s := by
  subst hi
  have hl := drop_lt D
  have g : wpAny (model prog w) A (getItem (.bytes l.toArray t) (.int (Int.ofNat n) u)) Q E s := by
    refine getItem_bytes (by omega) (by exact Int.natCast_nonneg n) (by exact Int.ofNat_lt.mpr hl) ?_
    show Q (.int ((l.getD n 0).toNat : Int) _) _
    rw [drop_getD D]
    exact h _ _
  exact tail_of_ItemOn ⟨"bytes", _, FB.slot_bytes_getitem.lookup, typeIs_bytes _ _ _, g⟩ hs ht
theorem b_slice {lo hi : Option Int} {p : List UInt8} (hF : Fr g L s.heap m) (hN : News g L s.heap news) (hl : IsPart x lo) (hu : IsPart y hi) (hz : l.length ≤ 16777216)
    (hp : (l.drop (lo.elim 0 (clipAt l.length))).take (hi.elim l.length (clipAt l.length) - lo.elim 0 (clipAt l.length)) = p)
    (h : ∀ h' t' k, Fr g L h' m → News g L h' news → Q (.bytes p.toArray t') { s with heap := h', toks := k })
    (hs : subscripted slice false (.bytes l.toArray t) (.ref s.heap.objs.size) = operate [.ref s.heap.objs.size, .bytes l.toArray t] (getItem (.bytes l.toArray t) (.ref s.heap.objs.size)) := by with_unfolding_all rfl)
    (ht : ∀ r, letTemporaryGo value (.bytes l.toArray t) r = pure () := by intro _; with_unfolding_all rfl) :
    wpAny (model prog w) A (subscriptTail value slice (.bytes l.toArray t) (.ref s.heap.objs.size)) Q E { s with heap := s.heap.push { cls := .type "slice", data := .fields #[x, y, .none] } } := by
  refine KBc.slice_K (ks := KBw.bInts l.toArray) hF hN rfl hl hu (by rw [KBw.ints_length]; exact hz) (fun h' t' k F' N' _ => ?_) hs ht
  rw [KBc.picked_eq]
  show Q (.bytes (List.toArray ((l.drop (lo.elim 0 (clipAt l.length))).take (hi.elim l.length (clipAt l.length) - lo.elim 0 (clipAt l.length)))) t') _
  rw [hp]
  exact h _ _ _ F' N'
end
/-- the cut of one place -/
theorem cut1 {l r : List UInt8} {n : Nat} {c : UInt8} {i j : Int} (hi : i = Int.ofNat n) (hj : j = Int.ofNat (n + 1)) (D : l.drop n = c :: r) :
    (l.drop ((some i).elim 0 (clipAt l.length))).take ((some j).elim l.length (clipAt l.length) - (some i).elim 0 (clipAt l.length)) = [c] := by
  subst hi hj
  have h := drop_lt D
  show (l.drop (clipAt l.length ((n : Nat) : Int))).take (clipAt l.length ((n + 1 : Nat) : Int) - clipAt l.length ((n : Nat) : Int)) = _
  rw [clipAt_nat, clipAt_nat, Nat.min_eq_left (Nat.le_of_lt h), Nat.min_eq_left h, D, show n + 1 - n = 1 by omega]
  rfl
theorem cut0 {l : List UInt8} {n k : Nat} {i j : Int} (hi : i = Int.ofNat n) (hj : j = Int.ofNat k) (D : l.drop n = []) :
    (l.drop ((some i).elim 0 (clipAt l.length))).take ((some j).elim l.length (clipAt l.length) - (some i).elim 0 (clipAt l.length)) = [] := by
  subst hi hj
  have h := drop_nil_le D
  show (l.drop (clipAt l.length ((n : Nat) : Int))).take (clipAt l.length ((k : Nat) : Int) - clipAt l.length ((n : Nat) : Int)) = _
  rw [clipAt_nat, clipAt_nat, Nat.min_eq_right h, List.drop_length]
  exact List.take_nil
theorem cut2 {l r : List UInt8} {n : Nat} {c : UInt8} {i j : Int} (hi : i = Int.ofNat n) (hj : j = Int.ofNat (n + 2)) (D : l.drop n = c :: r) :
    (l.drop ((some i).elim 0 (clipAt l.length))).take ((some j).elim l.length (clipAt l.length) - (some i).elim 0 (clipAt l.length)) = c :: r.take 1 := by
  subst hi hj
  have h := drop_lt D
  show (l.drop (clipAt l.length ((n : Nat) : Int))).take (clipAt l.length ((n + 2 : Nat) : Int) - clipAt l.length ((n : Nat) : Int)) = _
  rw [clipAt_nat, clipAt_nat, Nat.min_eq_left (Nat.le_of_lt h)]
  have e : l.length - n = r.length + 1 := by rw [← List.length_drop, D]; rfl
  by_cases q : n + 2 ≤ l.length
  · rw [Nat.min_eq_left q, D, show n + 2 - n = 2 by omega]; rfl
  · rw [Nat.min_eq_right (by omega), D, e, List.take_succ_cons]
    have : r = [] := List.eq_nil_of_length_eq_zero (by omega)
    subst this
    rfl
end Mine
end
section
open PySem PySem.W PySem.Spec PySem.Calls PyProof.Rows
namespace Mine
section
variable {w : World} {base g : Heap} {f : Addr} {args : List Value} {q : Bool} {dd uu : Nat} {s : Shared} {Ret : Value → Heap → Prop} {Exn : Prop} {A : Around} {l : List Env} {L a : Addr} {m : Str → Option Value} {news : List (Addr × Obj)} {name : Str} {scope : Scope} {cd : Value} {Q E : Value → Shared → Prop}
theorem call_spec (H : Spec w base f args q dd uu s Ret Exn) (B : Below A base l g) (F : Fr g L s.heap m) (N : News g L s.heap news) (hh : q = false → A.handled = none) (hd : A.depth + (dd + 1) < recursionLimit) (hu : A.units + (uu + 3) < cLine) (hk : scope.kind = .function)
    (ret : ∀ r h' tk', Fr g L h' m → News g L h' news → Heap.StaysIn s.heap h' → Ret r h' → Q r { s with heap := h', toks := tk' })
    (exn : Exn → ∀ e h' tk', Raised s.heap (envOf name scope L a cd :: l) e h' → E (.ref e) { s with heap := h', toks := tk' }) :
    wpAny (model PySem.Challenge.rw_no0368_01.row.toRowW.prog w) (A.deeper (envOf name scope L a cd)) (call (.ref f) args) Q E s :=
  H _ _ _ _ hh (B.push (name := name) (a := a) (cd := cd) F hk) (by show A.depth + 1 + dd < _; omega) (by show A.units + 3 + uu < _; omega)
    (fun r h' tk' k hr => ret r h' tk' (F.keeps k) (fun q hq => ⟨k _ _ (N q hq).1, (N q hq).2⟩) k hr) exn
theorem news_cons {h' : Heap} {D : Addr} {o : Obj} (F : Fr g L s.heap m) (hD : s.heap.objs.size ≤ D) (N : News g L h' news) (ho : h'.get? D = some o) : News g L h' ((D, o) :: news) := fun p hp => by
  rcases List.mem_cons.mp hp with rfl | hp
  · refine ⟨ho, Nat.ne_of_gt (Nat.lt_of_lt_of_le F.ns.lt hD), ?_⟩
    cases z : g.get? D with
    | none => rfl
    | some o' => exact absurd (Heap.lt_size (F.keep _ _ z)) (Nat.not_lt.mpr hD)
  · exact N p hp
theorem news_lt {D : Addr} (N : News g L s.heap news) (hD : s.heap.objs.size ≤ D) : ∀ p ∈ news, p.1 < D := fun p hp => Nat.lt_of_lt_of_le (Heap.lt_size (N p hp).1) hD
end
theorem beq_cons_false {c k : UInt8} {r r' : List UInt8} (h : c ≠ k) : ((c :: r) == (k :: r')) = false := by simp [h]
theorem bne_cons_true {c k : UInt8} {r r' : List UInt8} (h : c ≠ k) : ((c :: r) != (k :: r')) = true := by simp [bne, h]
theorem bne_self_false {r : List UInt8} : (r != r) = false := by simp
theorem beq_self_true {r : List UInt8} : (r == r) = true := by simp
end Mine
namespace Mine
theorem ret_end {s : Shared} {Ret : Value → Heap → Prop} {h' : Heap} {tk' : Nat} {L : Addr} {m : Str → Option Value} {v : Value} (F : Fr s.heap L h' m) (hr : Ret v h') : RetK s Ret v { s with heap := h', toks := tk' } :=
  ⟨h', tk', rfl, F.keep, hr⟩
end Mine
namespace Mine
theorem wf_make_K {w : World} {mean : ExcName → Option Value} {mg mb : Str → Option Value} {base g : Heap} {A : Around} {l : List Env} {E E' : Value → Shared → Prop} {s : Shared} {x : Str} {t : Tok} {rest : List Value} {L a : Addr} {m : Str → Option Value} {name : Str} {scope : Scope} {cd : Value}
    (hb : Bas w mean mg mb base) (B : Below A base l g) (F : Fr g L s.heap m) (hd : A.depth + 4 < recursionLimit) (hrest : rest = [.str x t] ∨ ∃ k t', rest = [.str x t, .int k t'])
    (hq : ∀ h' tk' e, MadeWF s.heap h' e → E' (.ref e) { s with heap := h', toks := tk' }) :
    wpAny (model PySem.Challenge.rw_no0368_01.row.toRowW.prog w) (A.deeper (envOf name scope L a cd)) (call (.ref 59) rest) (RPost w E') E s :=
  wf_make hb (fun b o e => F.keep _ _ (B.stays b o e)) (by show A.depth + 1 + 2 < _; omega) hrest fun h' tk' e H => rpost (hb.x.keeps B.stays) F H (hq h' tk' e H)
theorem news_cons' {g h h' : Heap} {L : Addr} {m : Str → Option Value} {news : List (Addr × Obj)} {D : Addr} {o : Obj} (F : Fr g L h m) (hD : h.get? D = none) (N : News g L h' news) (ho : h'.get? D = some o) : News g L h' ((D, o) :: news) := fun p hp => by
  rcases List.mem_cons.mp hp with rfl | hp
  · refine ⟨ho, fun q => ?_, ?_⟩
    · obtain ⟨oL, _, _, hL, _⟩ := F.ns
      have hD' : h.get? D = none := hD
      rw [show D = L from q, hL] at hD'; cases hD'
    · cases z : g.get? D with
      | none => rfl
      | some o' => rw [F.keep _ _ z] at hD; cases hD
  · exact N p hp
theorem news_ne {g h : Heap} {L : Addr} {news : List (Addr × Obj)} {D : Addr} (N : News g L h news) (hD : h.get? D = none) : ∀ p ∈ news, p.1 ≠ D := fun p hp q => by
  have := (N p hp).1
  rw [q, hD] at this; cases this
noncomputable abbrev tupOf (vs : List Value) (k : Nat) : Obj := { cls := .type "tuple", data := .seq vs.toArray k }
/-- what inside_at hands back -/
noncomputable def inside (l : List UInt8) (n : Nat) : Option (UInt8 × Nat) :=
  match l.drop n with
  | [] => none
  | c :: r => if c = 92 then (match r with | [] => none | e :: _ => some (e, n + 2)) else some (c, n + 1)
noncomputable def NoBad (l : List UInt8) : Prop := ∀ c ∈ l, c ≠ 0 ∧ c ≠ 10 ∧ c ≠ 13
theorem NoBad.at {l r : List UInt8} {n : Nat} {c : UInt8} (h : NoBad l) (D : l.drop n = c :: r) : c ≠ 0 ∧ c ≠ 10 ∧ c ≠ 13 := h c (List.mem_of_mem_drop (by rw [D]; exact List.mem_cons_self))
end Mine
namespace Mine
theorem in_nev {w : World} {prog : Program} {A : Around} {E : Value → Shared → Prop} {s : Shared} {g : Heap} {L : Addr} {m : Str → Option Value} {x : Int} {u : Tok} {Q : Value → Shared → Prop} (X : (ltop.heap_1 w.params).In g) (F : Fr g L s.heap m)
    (h : Q (.bool ((0 : Int) == x || ((10 : Int) == x || (13 : Int) == x))) s) : wpAny (model prog w) A (compareOp .In (.int x u) (.ref 62)) Q E s := by
  refine in_tuple_ints (items := #[.int 0 258, .int 10 259, .int 13 260]) (ns := [0, 10, 13]) ⟨_, F.keep _ _ (X 62 _ (by with_unfolding_all rfl)), rfl, _, rfl⟩ (by repeat constructor) ?_
  have e : ([0, 10, 13].any fun y => y == x) = ((0 : Int) == x || ((10 : Int) == x || (13 : Int) == x)) := by simp
  rw [e]
  exact h
end Mine
namespace Mine
theorem Spec.mono {w : World} {base : Heap} {f : Addr} {args : List Value} {q : Bool} {dd uu : Nat} {s : Shared} {Ret Ret' : Value → Heap → Prop} {Exn Exn' : Prop} (H : Spec w base f args q dd uu s Ret Exn) (h1 : ∀ v h', Ret v h' → Ret' v h') (h2 : Exn → Exn') : Spec w base f args q dd uu s Ret' Exn' :=
  fun A l Q E hh B hd hu ret exn => H A l Q E hh B hd hu (fun r h' tk' k hr => ret r h' tk' k (h1 _ _ hr)) fun x => exn (h2 x)
end Mine
namespace Mine
noncomputable def Held (p : Prop) : Prop := p
theorem hold {p : Prop} (h : Held p) : p := h
theorem unhold {p : Prop} (h : p) : Held p := h
theorem map_at1 {a : Str} {v u : Option Value} {m : Str → Option Value} : (fun y => if y = a then v else (if y = a then u else m y)) = fun y => if y = a then v else m y := by
  funext y; by_cases h : y = a <;> simp [h]
theorem map_at2 {a b : Str} {v2 v1 u2 u1 : Option Value} {m : Str → Option Value} : (fun y => if y = a then v2 else if y = b then v1 else (if y = a then u2 else if y = b then u1 else m y)) = fun y => if y = a then v2 else if y = b then v1 else m y := by
  funext y; by_cases h : y = a <;> by_cases h2 : y = b <;> simp [h, h2]
theorem map_id2 {a b : Str} {m : Str → Option Value} : m = fun y => if y = a then m a else if y = b then m b else m y := by
  funext y
  by_cases h : y = a
  · rw [if_pos h, h]
  · by_cases h2 : y = b
    · rw [if_neg h, if_pos h2, h2]
    · rw [if_neg h, if_neg h2]
/-- the values are single signs -/
inductive PartsAre : List Value → List UInt8 → Prop
  | nil : PartsAre [] []
  | snoc {vs cs c t} : PartsAre vs cs → PartsAre (vs ++ [.bytes [c].toArray t]) (cs ++ [c])
theorem PartsAre.length {vs : List Value} {cs : List UInt8} (h : PartsAre vs cs) : vs.length = cs.length := by
  induction h with
  | nil => rfl
  | snoc _ ih => simp [ih]
noncomputable def closed (k : UInt8) (bl : List UInt8) : List UInt8 → Option (List UInt8 × List UInt8)
  | [] => none
  | c :: r => if c = k then some ([], r) else if bl.contains c then none else if c = 92 then (match r with | [] => none | e :: r' => (closed k bl r').map fun p => (e :: p.1, p.2)) else (closed k bl r).map fun p => (c :: p.1, p.2)
end Mine
namespace Mine
noncomputable def WTurn {σ : Type} (g : Heap) (L : Addr) (s : Shared) (Led : σ → List (Addr × Obj)) (ps : σ → List (Str × Value)) (stored : List Str) (m₀ : Str → Option Value) (P : σ → Prop) (μ : σ → Nat) (Q : Flow → Shared → Prop) (c : σ) (f : Flow) (s₂ : Shared) : Prop :=
  KswPost g L s Led ps (fun _ => True) stored m₀ P μ Q c f s₂
section
variable {prog : Program} {w : World} {A : Around} {E : Value → Shared → Prop} {Q : Flow → Shared → Prop} {s : Shared} {env : Env} {g : Heap} {L : Addr}
theorem while_k {σ : Type} {test : Expr} {body : List Stmt} {pos : Pos} {m₀ : Str → Option Value} (Led : σ → List (Addr × Obj)) (ps : σ → List (Str × Value)) (stored : List Str) (P : σ → Prop) (μ : σ → Nat) (c₀ : σ)
    (F : Fr g L s.heap m₀) (N : News g L s.heap (Led c₀)) (hk : ∀ p ∈ ps c₀, m₀ p.1 = some p.2) (hp : P c₀)
    (turn : ∀ (c : σ) (u : Str → Option Value) h tk, P c → Fr g L h (kstB (fun z => if stored.contains z then u z else m₀ z) (ps c)) → News g L h (Led c) →
      wpAny (model prog w) A (isTrue test env (eval test env)) (fun b s₂ =>
        if b = true then wpAny (model prog w) A (execs body env) (WTurn g L s Led ps stored m₀ P μ Q c) E s₂ else Q .next s₂) E { s with heap := h, toks := tk })
    (hE : PassesOwn (model prog w) A env E := by passes_own) :
    wpAny (model prog w) A (exec (.While test body [] pos) env) Q E s :=
  ksw_while Led ps (fun _ => True) stored P μ c₀ F N trivial hk hp (fun c u h tk _ hP F N => turn c u h tk hP F N) hE
theorem wturn_next {σ : Type} {Led : σ → List (Addr × Obj)} {ps : σ → List (Str × Value)} {stored : List Str} {m₀ m' : Str → Option Value} {P : σ → Prop} {μ : σ → Nat} {c : σ} {h' : Heap} {tk : Nat} {news' : List (Addr × Obj)} (c' : σ)
    (F : Fr g L h' m') (N : News g L h' news') (hn : ∀ p ∈ Led c', p ∈ news') (hk : ∀ p ∈ ps c', m' p.1 = some p.2) (hr : ∀ z, (∀ p ∈ ps c', z ≠ p.1) → stored.contains z = false → m' z = m₀ z) (hp : P c') (hm : μ c' < μ c) :
    WTurn g L s Led ps stored m₀ P μ Q c .next { s with heap := h', toks := tk } := ksw_end c' F N hn trivial hk hr hp hm
end
end Mine
namespace Mine
theorem closed_cons {k c : UInt8} {bl r : List UInt8} : closed k bl (c :: r) = if c = k then some ([], r) else if bl.contains c then none else if c = 92 then (match r with | [] => none | e :: r' => (closed k bl r').map fun p => (e :: p.1, p.2)) else (closed k bl r).map fun p => (c :: p.1, p.2) := by
  rw [closed.eq_def]
end Mine
end
section
open PySem PySem.W PySem.Spec PySem.Calls PyProof.Rows
namespace Mine
open Builtin
theorem slot_bytes_join : Slot "bytes" "join" "bytes.join" :=
  .of (owner := "bytes") (n := "join") (by rw [typeLookup_type, builtinLookup_eq_fast]; kernel_rfl) (by decide +kernel) (by decide +kernel) (by decide +kernel)
    (by first | exact .inl (by decide +kernel) | exact .inr (by decide +kernel)) (by rw [isSubtype_type]; kernel_rfl)
theorem type_bytes_join : typeOf (.builtin "bytes.join") = pure (.type "method_descriptor") := by show builtinType _ = _; rw [builtinType_eq_fast]; kernel_rfl
theorem entry_bytes_join : entryFor table "bytes.join" = some Builtin.«bytes.join» := entryFor_of_tree (by kernel_rfl)
theorem args_bytes_join (a b : Value) : argsOk "bytes.join" ⟨[a, b], []⟩ := by unfold argsOk; kernel_rfl
theorem take_eq {id : String} {b : Array UInt8} {t : Tok} : Bytes.takeBufferQuiet? id (.bytes b t) 0 = pure (some (b, none)) := by
  unfold Bytes.takeBufferQuiet? Bytes.takeBuffer?
  rw [KBy.special_eq KBy.look_buffer, KBy.own_buffer]
  have e : ∀ full, Bytes.buffer? id (.bytes b t) full = pure (some b) := by
    intro full
    unfold Bytes.buffer?
    rw [KBy.special_eq KBy.look_buffer, KBy.own_buffer, KBy.own_release]
    cases full <;> kernel_rfl
  simp only [pure_bind, e]
  rfl
inductive BytesAre : List Value → List (List UInt8) → Prop
  | nil : BytesAre [] []
  | cons {vs bs t b} : BytesAre vs bs → BytesAre (.bytes (List.toArray b) t :: vs) (b :: bs)
theorem joinLetGo_ok {M : Model} {A : Around} {E : Value → Shared → Prop} {Q : Unit → Shared → Prop} {s : Shared} {keep : List Value} : ∀ {l : List (Value × Option Value)}, (∀ p ∈ l, p.2 = none) → Q () s → wpAny M A (Bytes.joinLetGo l keep) Q E s
  | [], _, h => wpAny_pure h
  | (x, w) :: r, hl, h => by
    obtain rfl : w = none := hl _ (.head _)
    unfold Bytes.joinLetGo
    refine wpAny_bind ?_
    refine wpAny_bind (wpAny_holding (wpAny_point ?_))
    refine wpAny_pure ?_
    exact joinLetGo_ok (fun p hp => hl p (.tail _ hp)) h
theorem wpAny_forIn {α β : Type} {M : Model} {A : Around} {E : Value → Shared → Prop} {s : Shared} {f : α → β → Sem (ForInStep β)} {Q : β → Shared → Prop} (I : Nat → β → Prop) :
    ∀ (l : List α) (k : Nat) (c : β), I k c → (∀ i a c, l[i]? = some a → I (k + i) c → wpAny M A (f a c) (fun r s' => ∃ c', r = .yield c' ∧ s' = s ∧ I (k + i + 1) c') E s) → (∀ c, I (k + l.length) c → Q c s) → wpAny M A (forIn l c f) Q E s
  | [], k, c, h, _, hq => by rw [List.forIn_nil]; exact wpAny_pure (hq c h)
  | a :: l, k, c, h, hf, hq => by
    rw [List.forIn_cons]
    refine wpAny_bind (wpAny_mono (hf 0 a c rfl h) (fun r s' hr => ?_) fun _ _ x => x)
    obtain ⟨c', rfl, rfl, h'⟩ := hr
    refine wpAny_forIn I l (k + 1) c' h' (fun i a c hi hc => ?_) fun c hc => hq c ?_
    · have := hf (i + 1) a c (by simpa using hi) (by rw [show k + (i + 1) = k + 1 + i by omega]; exact hc)
      rw [show k + (i + 1) + 1 = k + 1 + i + 1 by omega] at this
      exact this
    · rw [List.length_cons, show k + (l.length + 1) = k + 1 + l.length by omega]; exact hc
theorem BytesAre.at {vs : List Value} {bs : List (List UInt8)} (h : BytesAre vs bs) : ∀ {i : Nat}, i < vs.length → ∃ b t, vs[i]? = some (.bytes (List.toArray b) t) ∧ bs[i]? = some b := by
  induction h with
  | nil => intro i hi; exact absurd hi (Nat.not_lt_zero _)
  | @cons vs bs t b h ih =>
    intro i hi
    cases i with
    | zero => exact ⟨b, t, rfl, rfl⟩
    | succ i => exact ih (by simpa using hi)
theorem BytesAre.length {vs : List Value} {bs : List (List UInt8)} (h : BytesAre vs bs) : vs.length = bs.length := by
  induction h with
  | nil => rfl
  | cons _ ih => simp [ih]
noncomputable def jn (sep : List UInt8) : List (List UInt8) → List UInt8
  | [] => []
  | [b] => b
  | b :: c :: r => b ++ sep ++ jn sep (c :: r)
theorem jn_cons (sep b : List UInt8) (r : List (List UInt8)) (h : r ≠ []) : jn sep (b :: r) = b ++ sep ++ jn sep r := by
  cases r with
  | nil => exact absurd rfl h
  | cons c r => rfl
theorem joined_go (sep : List UInt8) : ∀ (bs : List (List UInt8)) (k : Nat) (out : Array UInt8), (((bs.map List.toArray).zipIdx k).foldl (fun out (x : Array UInt8 × Nat) => (if x.2 > 0 then out ++ sep.toArray else out) ++ x.1) out).toList = out.toList ++ (if bs = [] then [] else (if k > 0 then sep else []) ++ jn sep bs)
  | [], k, out => by simp
  | b :: r, k, out => by
    rw [List.map_cons, List.zipIdx_cons, List.foldl_cons, joined_go sep r (k + 1)]
    by_cases hr : r = []
    · subst hr
      by_cases hk : k > 0 <;> simp [hk, jn]
    · rw [jn_cons sep b r hr]
      by_cases hk : k > 0 <;> simp [hk, hr]
theorem joined_eq (sep : List UInt8) (bs : List (List UInt8)) : Bytes.joined sep.toArray (bs.map List.toArray) = (jn sep bs).toArray := by
  apply Array.ext'
  have := joined_go sep bs 0 #[]
  unfold Bytes.joined
  rw [this]
  by_cases h : bs = []
  · simp [h, jn]
  · simp [h]
theorem jn_length (sep : List UInt8) : ∀ (bs : List (List UInt8)), (jn sep bs).length = (bs.map List.length).sum + sep.length * (bs.length - 1)
  | [] => rfl
  | [b] => by simp [jn]
  | b :: c :: r => by
    rw [jn_cons sep b (c :: r) (by simp), List.length_append, List.length_append, jn_length sep (c :: r)]
    simp only [List.map_cons, List.sum_cons, List.length_cons, Nat.add_sub_cancel]
    rw [Nat.mul_add]
    omega
theorem fold_sizes : ∀ (bs : List (List UInt8)) (k : Nat), (bs.map List.toArray).foldl (fun (n : Nat) (b : Array UInt8) => n + b.size) k = k + (bs.map List.length).sum
  | [], k => by simp
  | b :: r, k => by
    rw [List.map_cons, List.foldl_cons, fold_sizes r]
    simp; omega
theorem join_other {α : Type} {items : Array Value} {a : Value → α} {b : Array Value → α} (h : items.size ≠ 1) : Bytes.joinM.match_1 (fun _ => α) items a b = b items := by
  rcases items with ⟨_ | ⟨x, _ | ⟨y, r⟩⟩⟩
  · rfl
  · exact absurd rfl h
  · rfl
theorem meets_join {sep : List UInt8} {t : Tok} {P : Addr} {vs : List Value} {bs : List (List UInt8)} (hv : BytesAre vs bs) :
    Meets («bytes.join» ⟨[.bytes sep.toArray t, .ref P], []⟩) (fun _ R s => s.heap.IsList P vs.toArray ∧ (jn sep bs).length ≤ 16777216 ∧ ∀ t' k, R (.ok (.ret (.bytes (jn sep bs).toArray t'))) { s with toks := k }) := by
  refine .of_wp fun prog w A R s hS => ?_
  obtain ⟨⟨o, ho, hc, ep, hd⟩, hsz, h⟩ := hS
  obtain ⟨items, hit⟩ : ∃ items, items = vs.toArray := ⟨_, rfl⟩
  rw [← hit] at hd
  have hT : s.TypeIs (.ref P) "list" := ⟨o, ho, hc⟩
  have hseq : ∀ {α : Type} (k : Option (Array Value) → Sem α) (Q : α → Shared → Prop) (E : Value → Shared → Prop), wpAny (model prog w) A.in1 (k (some items)) Q E s → wpAny (model prog w) A.in1 (seqItems? (.ref P) >>= k) Q E s := fun k Q E hq => by
    refine wpAny_bind ?_
    unfold seqItems?
    refine wpAny_bind (wpAny_load ho ?_)
    rw [hd]
    exact wpAny_pure hq
  unfold «bytes.join» Bytes.joinM
  refine wpAny_bind (wpAny_pure ?_)
  dsimp only
  rw [if_pos (by rfl)]
  refine wpAny_bind ?_
  unfold Bytes.joinItems
  refine wpAny_bind (wpAny_typeOf hT ?_)
  rw [if_pos (by rfl)]
  refine wpAny_pure ?_
  refine hseq _ _ _ ?_
  dsimp only
  rw [if_pos (by rfl)]
  have step : ∀ (c : Array (Array UInt8) × List (Value × Option Value)) (i : Nat), i < vs.length → c.1 = ((bs.take i).map List.toArray).toArray → (∀ p ∈ c.2, p.2 = none ∧ p.1.onHeap = false) → ∃ b t, items.getD i Value.none = .bytes (List.toArray b) t ∧ c.1.push (List.toArray b) = ((bs.take (i + 1)).map List.toArray).toArray ∧ ∀ p ∈ c.2 ++ [(Value.bytes (List.toArray b) t, none)], p.2 = none ∧ p.1.onHeap = false := by
    rintro ⟨c1, c2⟩ i hi rfl h2
    obtain ⟨b, t, e1, e2⟩ := hv.at hi
    refine ⟨b, t, ?_, ?_, ?_⟩
    · rw [hit, Array.getD_eq_getD_getElem?]; simp [e1]
    · rw [List.take_add_one, e2]; simp
    · intro p hp
      rcases List.mem_append.mp hp with hp | hp
      · exact h2 p hp
      · rw [List.mem_singleton.mp hp]; exact ⟨rfl, rfl⟩
  by_cases h1 : vs.length = 1
  · obtain ⟨x, rfl⟩ := List.length_eq_one_iff.mp h1
    subst hit
    cases hv with
    | cons hv =>
      cases hv
      show wpAny _ _ (typeOf (.bytes _ _) >>= fun z => _) _ _ _
      refine wpAny_bind (wpAny_typeOf (typeIs_bytes _ _ _) ?_)
      rw [if_pos (by rfl)]
      refine wpAny_bind (wpAny_rule (wpAny_pure ⟨_, rfl, ?_⟩))
      exact h _ _
  · rw [join_other (by rw [hit, List.size_toArray]; exact h1)]
    subst hit
    show wpAny _ _ ((forIn _ _ _ : Sem _) >>= fun z => _) _ _ _
    refine wpAny_bind ?_
    rw [Std.Legacy.Range.forIn_eq_forIn_range']
    refine wpAny_forIn (fun i c => c.1 = ((bs.take i).map List.toArray).toArray ∧ ∀ p ∈ c.2, p.2 = none ∧ p.1.onHeap = false) _ 0 _ ⟨by simp, fun p hp => nomatch hp⟩ (fun i a c hi hI => ?_) (fun c hI => ?_)
    · have hl := hv.length
      obtain ⟨h1, h2⟩ := List.getElem?_eq_some_iff.mp hi
      rw [List.length_range'] at h1
      rw [List.getElem_range'] at h2
      simp only [Std.Legacy.Range.size, List.size_toArray, Nat.sub_zero, Nat.add_sub_cancel, Nat.div_one] at h1
      have h2' : 0 + 1 * i = a := h2
      obtain rfl : a = i := by omega
      rw [Nat.zero_add] at hI ⊢
      obtain ⟨b, t, hx, hp, ht⟩ := step c a h1 hI.1 hI.2
      refine hseq _ _ _ ?_
      dsimp only
      rw [if_neg (by
        have : (c.2.any fun x => x.1.onHeap) = false := by
          rw [List.any_eq_false]; intro p hp; rw [(hI.2 p hp).2]; exact Bool.false_ne_true
        rw [this]; decide)]
      refine wpAny_bind (wpAny_holding ?_)
      rw [hx, take_eq]
      refine wpAny_pure ?_
      refine hseq _ _ _ ?_
      dsimp only
      rw [if_neg (by simp)]
      exact wpAny_pure ⟨_, rfl, rfl, hp, ht⟩
    · obtain ⟨h1, h2⟩ := hI
      simp only [Std.Legacy.Range.size, List.size_toArray, Nat.sub_zero, Nat.add_sub_cancel, Nat.div_one, List.length_range', Nat.zero_add] at h1
      rw [hv.length, List.take_length] at h1
      refine wpAny_bind (wpAny_pure ?_)
      rw [h1]
      have hsum : Array.foldl (fun (x1 : Nat) (x2 : Array UInt8) => x1 + x2.size) (sep.toArray.size * ((bs.map List.toArray).toArray.size - 1)) (bs.map List.toArray).toArray = (jn sep bs).length := by
        rw [List.foldl_toArray, fold_sizes, jn_length]
        simp; omega
      rw [hsum, if_neg (by rw [KBy.tooLong_not hsz]; exact Bool.false_ne_true)]
      show wpAny _ _ (mkBytes (Bytes.joined sep.toArray (bs.map List.toArray)) >>= fun z => _) _ _ _
      rw [joined_eq]
      refine wpAny_bind (wpAny_mkBytes ?_ (by rw [sizeLine_eq]; exact hsz))
      refine wpAny_bind (wpAny_holding (wpAny_point ?_))
      refine wpAny_bind (joinLetGo_ok (fun p hp => (h2 p hp).1) ?_)
      exact wpAny_pure ⟨_, rfl, h _ _⟩
section
variable {prog : Program} {w : World} {A : Around} {E : Value → Shared → Prop} {s : Shared} {t : Tok}
theorem b_join {sep : List UInt8} {P : Addr} {vs : List Value} {bs : List (List UInt8)} {Q : Value → Shared → Prop} (hl : s.heap.IsList P vs.toArray) (hv : BytesAre vs bs) (hsz : (jn sep bs).length ≤ 16777216) (h : ∀ t' k, Q (.bytes (jn sep bs).toArray t') { s with toks := k }) :
    wpAny (model prog w) A (call (.builtin "bytes.join") [.bytes sep.toArray t, .ref P]) Q E s :=
  call_meets slot_bytes_join (typeIs_bytes _ _ _) entry_bytes_join (args_bytes_join _ _) (meets_join hv) ⟨hl, hsz, h⟩
theorem m_join {M : Model} {b : Array UInt8} {pl : Sem Bool} {Q : Value × List Value → Shared → Prop} (h : Q (.builtin "bytes.join", [.bytes b t]) s) : wpAny M A (getMethod (.bytes b t) "join" pl) Q E s := by
  with_reducible exact KBd.method_of (.bytes b t) (typeIs_bytes _ _ _) slot_bytes_join type_bytes_join KBd.noRef h
end
end Mine
end
section
open PySem PySem.W PySem.Spec PySem.Calls PyProof.Rows
namespace Mine
theorem cutX {l sg : List UInt8} {n : Nat} {i j : Int} (hi : i = Int.ofNat n) (hj : j = Int.ofNat (n + 1)) (h : sg = (l.drop n).take 1) :
    (l.drop ((some i).elim 0 (clipAt l.length))).take ((some j).elim l.length (clipAt l.length) - (some i).elim 0 (clipAt l.length)) = sg := by
  cases D : l.drop n with
  | nil => rw [h, D]; exact cut0 hi hj D
  | cons c r => rw [h, D]; exact cut1 hi hj D
noncomputable def Go4 : Prop := True
theorem go4 : Go4 := trivial
noncomputable def Go5 : Prop := True
theorem go5 : Go5 := trivial
noncomputable def Go6 : Prop := True
theorem go6 : Go6 := trivial
section
variable {α : Type} {M : Model} {A : Around} {c : Sem Flow} {Q : Flow → Shared → Prop} {E : Value → Shared → Prop} {s0 : Shared} {g : Heap} {L : Addr} {m₀ m' : Str → Option Value} {news news' : List (Addr × Obj)} {x : Str} {val : α → Value} {V : α → Prop} {h' : Heap} {tk : Nat}
/-- a statement that sets one name and goes on -/
noncomputable def SetS (x : Str) (val : α → Value) (V : α → Prop) (g : Heap) (L : Addr) (m₀ : Str → Option Value) (s0 : Shared) (news : List (Addr × Obj)) (f : Flow) (s' : Shared) : Prop :=
  ∃ a h' tk, f = .next ∧ s' = { s0 with heap := h', toks := tk } ∧ V a ∧ Fr g L h' (fun y => if y = x then some (val a) else m₀ y) ∧ News g L h' news
theorem set_cut (x : Str) (val : α → Value) (V : α → Prop) (F : Fr g L s0.heap m₀) (N : News g L s0.heap news)
    (h : wpAny M A c (SetS x val V g L m₀ s0 news) E s0)
    (k : ∀ a h' tk, V a → Fr g L h' (fun y => if y = x then some (val a) else m₀ y) → News g L h' news → Q .next { s0 with heap := h', toks := tk }) : wpAny M A c Q E s0 := by
  refine wpAny_mono h (fun f s' hq => ?_) fun _ _ h => h
  obtain ⟨a, h', tk, rfl, rfl, hv, F', N'⟩ := hq
  exact k a h' tk hv F' N'
theorem set_end (a : α) (F : Fr g L h' m') (N : News g L h' news') (hV : V a) (hx : m' x = some (val a)) (hr : ∀ y, y ≠ x → m' y = m₀ y) (sub : ∀ p ∈ news, p ∈ news') :
    SetS x val V g L m₀ s0 news .next { s0 with heap := h', toks := tk } := by
  refine ⟨a, h', tk, rfl, rfl, hV, ?_, fun p hp => N p (sub p hp)⟩
  have e : m' = fun y => if y = x then some (val a) else m₀ y := funext fun y => by
    by_cases h : y = x
    · subst h; rw [if_pos rfl, hx]
    · rw [if_neg h, hr y h]
  exact e ▸ F
end
section
variable {α : Type} {M : Model} {A : Around} {c : Sem Flow} {Q : Flow → Shared → Prop} {E : Value → Shared → Prop} {s0 : Shared} {g : Heap} {L : Addr} {m₀ m' : Str → Option Value} {news news' : List (Addr × Obj)} {x y : Str} {val val' : α → Value} {V : α → Prop} {h' : Heap} {tk : Nat} {f : Flow} {s' : Shared}
/-- a statement that sets two names and goes on, or leaves -/
noncomputable def SetS2 (x : Str) (val : α → Value) (y : Str) (val' : α → Value) (V : α → Prop) (Q : Flow → Shared → Prop) (g : Heap) (L : Addr) (m₀ : Str → Option Value) (s0 : Shared) (news : List (Addr × Obj)) (f : Flow) (s' : Shared) : Prop :=
  (∃ a h' tk, f = .next ∧ s' = { s0 with heap := h', toks := tk } ∧ V a ∧ Fr g L h' (fun z => if z = x then some (val a) else if z = y then some (val' a) else m₀ z) ∧ News g L h' news) ∨ Q f s'
theorem set2_cut (x : Str) (val : α → Value) (y : Str) (val' : α → Value) (V : α → Prop) (F : Fr g L s0.heap m₀) (N : News g L s0.heap news)
    (h : wpAny M A c (SetS2 x val y val' V Q g L m₀ s0 news) E s0)
    (k : ∀ a h' tk, V a → Fr g L h' (fun z => if z = x then some (val a) else if z = y then some (val' a) else m₀ z) → News g L h' news → Q .next { s0 with heap := h', toks := tk }) : wpAny M A c Q E s0 := by
  refine wpAny_mono h (fun f s' hq => ?_) fun _ _ h => h
  rcases hq with ⟨a, h', tk, rfl, rfl, hv, F', N'⟩ | hq
  · exact k a h' tk hv F' N'
  · exact hq
theorem set2_end (a : α) (F : Fr g L h' m') (N : News g L h' news') (hV : V a) (hx : m' x = some (val a)) (hy : m' y = some (val' a)) (hr : ∀ z, z ≠ x → z ≠ y → m' z = m₀ z) (sub : ∀ p ∈ news, p ∈ news') :
    SetS2 x val y val' V Q g L m₀ s0 news .next { s0 with heap := h', toks := tk } := by
  refine .inl ⟨a, h', tk, rfl, rfl, hV, ?_, fun p hp => N p (sub p hp)⟩
  have e : m' = fun z => if z = x then some (val a) else if z = y then some (val' a) else m₀ z := funext fun z => by
    by_cases h : z = x
    · subst h; rw [if_pos rfl, hx]
    · rw [if_neg h]
      by_cases h2 : z = y
      · subst h2; rw [if_pos rfl, hy]
      · rw [if_neg h2, hr z h h2]
  exact e ▸ F
theorem set2_out (h : Q f s') : SetS2 x val y val' V Q g L m₀ s0 news f s' := .inr h
end
section
variable {α : Type} {M : Model} {A : Around} {c : Sem Flow} {Q : Flow → Shared → Prop} {E : Value → Shared → Prop} {s0 : Shared} {g : Heap} {L : Addr} {m₀ m' : Str → Option Value} {news' : List (Addr × Obj)} {mk : (Str → Option Value) → α → Str → Option Value} {nw : α → List (Addr × Obj)} {V : α → Prop} {h' : Heap} {tk : Nat} {f : Flow} {s' : Shared}
/-- a statement that leaves a known state and goes on, or leaves -/
noncomputable def SetG (mk : (Str → Option Value) → α → Str → Option Value) (nw : α → List (Addr × Obj)) (V : α → Prop) (Q : Flow → Shared → Prop) (g : Heap) (L : Addr) (m₀ : Str → Option Value) (s0 : Shared) (f : Flow) (s' : Shared) : Prop :=
  (∃ a h' tk, f = .next ∧ s' = { s0 with heap := h', toks := tk } ∧ V a ∧ Fr g L h' (mk m₀ a) ∧ News g L h' (nw a)) ∨ Q f s'
theorem setg_cut (mk : (Str → Option Value) → α → Str → Option Value) (nw : α → List (Addr × Obj)) (V : α → Prop) (F : Fr g L s0.heap m₀)
    (h : wpAny M A c (SetG mk nw V Q g L m₀ s0) E s0)
    (k : ∀ a h' tk, V a → Fr g L h' (mk m₀ a) → News g L h' (nw a) → Q .next { s0 with heap := h', toks := tk }) : wpAny M A c Q E s0 := by
  refine wpAny_mono h (fun f s' hq => ?_) fun _ _ h => h
  rcases hq with ⟨a, h', tk, rfl, rfl, hv, F', N'⟩ | hq
  · exact k a h' tk hv F' N'
  · exact hq
theorem setg_end (a : α) (F : Fr g L h' m') (N : News g L h' news') (sub : ∀ p ∈ nw a, p ∈ news') (hV : V a) (hm : ∀ z, m' z = mk m₀ a z) :
    SetG mk nw V Q g L m₀ s0 .next { s0 with heap := h', toks := tk } :=
  .inl ⟨a, h', tk, rfl, rfl, hV, funext hm ▸ F, fun p hp => N p (sub p hp)⟩
theorem setg_out (h : Q f s') : SetG mk nw V Q g L m₀ s0 f s' := .inr h
theorem setg_cut1 {P : Addr} {o₀ : Obj} (mk : (Str → Option Value) → α → Str → Option Value) (o : α → Obj) (V : α → Prop) (F : Fr g L s0.heap m₀) (N : News g L s0.heap [(P, o₀)])
    (h : wpAny M A c (SetG mk (fun a => [(P, o a)]) V Q g L m₀ s0) E s0)
    (k : ∀ a h' tk, V a → Fr g L h' (mk m₀ a) → News g L h' [(P, o a)] → Q .next { s0 with heap := h', toks := tk }) : wpAny M A c Q E s0 := setg_cut mk _ V F h k
end
theorem sub_one {P : Addr × Obj} {news : List (Addr × Obj)} (h : P ∈ news) : ∀ p ∈ [P], p ∈ news := fun p hp => by rw [List.mem_singleton.mp hp]; exact h
end Mine
end
section
open PySem PySem.W PySem.Spec PySem.Calls PyProof.Rows
namespace Mine
section
variable {w : World} {mean : ExcName → Option Value} {mg mb : Str → Option Value} {base g G h : Heap} {A : Around} {le : List Env} {L a e : Addr} {m : Str → Option Value} {news : List (Addr × Obj)} {name : Str} {scope : Scope} {cd : Value}
/-- the frames around may have changed their slots -/
theorem ground (K : Below A base le g) (F : Fr g L G m) (N : News g L G news) (hS : (hideAll G (frs (envOf name scope L a cd :: le))).StaysIn h) (hsm : G.UpToSlots h) :
    ∃ g', KtsTurn (frs le) g g' ∧ Fr g' L h m ∧ Below A base le g' ∧ News g' L h news := by
  obtain ⟨g', T, F', K'⟩ := kts_ground K F (B := hideAll G (frs (envOf name scope L a cd :: le))) (fun b o e nm => hideAll_get _ e nm) hS hsm
  refine ⟨g', T, F', K', fun p hp => ?_⟩
  have z := N p hp
  refine ⟨hS _ _ (hideAll_get _ z.1 fun hm => ?_), z.2.1, T.none_ _ z.2.2⟩
  rcases kts_mem hm with q | q
  · exact z.2.1 q
  · obtain ⟨_, o, ho, _⟩ := K.frames.mem q
    rw [z.2.2] at ho; cases ho
theorem caughtC {E : Value → Shared → Prop} {s' : Shared} {b₀ : Stmt} {suite : List Stmt} {pos np : Pos} {rest : List ExceptHandler} {Q : Flow → Shared → Prop}
    (hb : Bas w mean mg mb base) (K : Below A base le g) (F : Fr g L G m) (N : News g L G news) (R : Raised G (envOf name scope L a cd :: le) e s'.heap)
    (k : ∀ h' g' oe vs, oe.data = .fields vs → vs[2]? = some .none → KtsTurn (frs le) g g' → Fr g' L h' m → News g' L h' ((e, oe) :: news) → Below A base le g' → (ltop.heap_1 w.params).In g' → Top ltop.view_1 (looseW ltop.view_1 [Str.ofString "PostError"]) mean mg mb g' →
      wpAny (model PySem.Challenge.rw_no0368_01.row.toRowW.prog w) ((A.deeper (envOf name scope L a cd)).mark (some (.ref e))) (execs (b₀ :: suite) (envOf name scope L a cd)) Q E { s' with heap := h' })
    (hk : scope.kind = .function := by rfl) (hx : (envOf name scope L a cd).kindOf (Str.ofString "WordFault") = some .globalImplicit := by rfl)
    (hE : PassesOwnAt (model PySem.Challenge.rw_no0368_01.row.toRowW.prog w) ((A.deeper (envOf name scope L a cd)).mark (some (.ref e))) (A.deeper (envOf name scope L a cd)) (envOf name scope L a cd) E := by passes_own) :
    wpAny (model PySem.Challenge.rw_no0368_01.row.toRowW.prog w) (A.deeper (envOf name scope L a cd)) (noteFrame (.ref e) (envOf name scope L a cd))
      (fun _ s₂ => wpAny (model PySem.Challenge.rw_no0368_01.row.toRowW.prog w) (A.deeper (envOf name scope L a cd)) (setFlight (.ref e) none) (fun _ s₃ =>
        wpAny (model PySem.Challenge.rw_no0368_01.row.toRowW.prog w) (A.deeper (envOf name scope L a cd)) (handleBy (.ref e) (envOf name scope L a cd) (.ExceptHandler (some (.Name (Str.ofString "WordFault") np)) none (b₀ :: suite) pos :: rest)) Q E s₃) E s₂) E s' := by
  obtain ⟨⟨a0, f1, f2, f3, f4⟩, hsm, hc⟩ := R
  have eG : G.get? e = none := by
    obtain ⟨oe, vs, _, _, _, q1, _, q2, _⟩ := f4
    cases q : G.get? e with
    | none => rfl
    | some o =>
      exfalso
      by_cases hm : e ∈ frs (envOf name scope L a cd :: le)
      · obtain ⟨_, o', ho', hn⟩ := f3.mem hm
        rw [q1] at ho'; cases ho'
        exact hn vs q2
      · have := hideAll_get _ q hm
        rw [f2] at this; cases this
  refine note_nextC (Around.frames_deeper K.stack) rfl f4 (by rfl) f1 f2 f3 hc fun h₄ held₄ sm₄ c₄ => ?_
  obtain ⟨a1, a2, a3, a4⟩ := held₄
  refine setFlightC a1 a3 a4 c₄ fun h₅ b1 b3 b4 sm₅ c₅ => ?_
  obtain ⟨g₅, T₅, F₅, K₅, N₅⟩ := ground K F N b1 ((hsm.trans sm₄).trans sm₅)
  have X₅ : (ltop.heap_1 w.params).In g₅ := hb.x.keeps K₅.stays
  have T₅' := hb.t.keeps K₅.stays
  obtain ⟨oe, hoe, hoc⟩ := b4.there
  have hC : h₅.get? 59 = some WFobj := F₅.keep _ _ (wf_obj X₅)
  have hex : nsIn (ltop.heap_1 w.params) mainGlobals (Str.ofString "WordFault") = some (some (.ref 59)) := by with_unfolding_all rfl
  refine wpAny_handleBy_cons (codeAny_handlers_test (name_K F₅ X₅ (topRead_of T₅') hex ?_ hk hx (by decide))) (by intro q; cases q)
  unfold WFobj at hC
  refine wpAny_excMatches_sub_self hC hoe hoc (by decide) (codeAny_handlers_suite ?_)
  refine setFlightC b1 b3 b4 c₅ fun h₆ d1 d3 d4 sm₆ c₆ => ?_
  obtain ⟨g₆, T₆, F₆, K₆, N₆⟩ := ground K F N d1 (((hsm.trans sm₄).trans sm₅).trans sm₆)
  obtain ⟨o₆, vs₆, p1, p2, p3⟩ := c₆
  have eg : g.get? e = none := by
    cases q : g.get? e with
    | none => rfl
    | some o => rw [F.keep _ _ q] at eG; cases eG
  have eL : e ≠ L := fun q => by
    obtain ⟨oL, _, _, z, _⟩ := F.ns
    rw [q, z] at eG; cases eG
  exact wpAny_passesOwnAt hE (k h₆ g₆ o₆ vs₆ p2 p3 T₆ F₆ (fun p hp => by
    rcases List.mem_cons.mp hp with rfl | hp
    · exact ⟨p1, eL, T₆.none_ _ eg⟩
    · exact N₆ p hp) K₆ (hb.x.keeps K₆.stays) (hb.t.keeps K₆.stays))
theorem caught {E : Value → Shared → Prop} {s' : Shared} {b₀ : Stmt} {suite : List Stmt} {pos np : Pos} {rest : List ExceptHandler} {Q : Flow → Shared → Prop}
    (hb : Bas w mean mg mb base) (K : Below A base le g) (F : Fr g L G m) (N : News g L G news) (R : Raised G (envOf name scope L a cd :: le) e s'.heap)
    (k : ∀ h' g', KtsTurn (frs le) g g' → Fr g' L h' m → News g' L h' news → Below A base le g' → (ltop.heap_1 w.params).In g' → Top ltop.view_1 (looseW ltop.view_1 [Str.ofString "PostError"]) mean mg mb g' →
      wpAny (model PySem.Challenge.rw_no0368_01.row.toRowW.prog w) ((A.deeper (envOf name scope L a cd)).mark (some (.ref e))) (execs (b₀ :: suite) (envOf name scope L a cd)) Q E { s' with heap := h' })
    (hk : scope.kind = .function := by rfl) (hx : (envOf name scope L a cd).kindOf (Str.ofString "WordFault") = some .globalImplicit := by rfl)
    (hE : PassesOwnAt (model PySem.Challenge.rw_no0368_01.row.toRowW.prog w) ((A.deeper (envOf name scope L a cd)).mark (some (.ref e))) (A.deeper (envOf name scope L a cd)) (envOf name scope L a cd) E := by passes_own) :
    wpAny (model PySem.Challenge.rw_no0368_01.row.toRowW.prog w) (A.deeper (envOf name scope L a cd)) (noteFrame (.ref e) (envOf name scope L a cd))
      (fun _ s₂ => wpAny (model PySem.Challenge.rw_no0368_01.row.toRowW.prog w) (A.deeper (envOf name scope L a cd)) (setFlight (.ref e) none) (fun _ s₃ =>
        wpAny (model PySem.Challenge.rw_no0368_01.row.toRowW.prog w) (A.deeper (envOf name scope L a cd)) (handleBy (.ref e) (envOf name scope L a cd) (.ExceptHandler (some (.Name (Str.ofString "WordFault") np)) none (b₀ :: suite) pos :: rest)) Q E s₃) E s₂) E s' :=
  caughtC hb K F N R (fun h' g' oe vs _ _ T F N K X P => k h' g' T F (fun p hp => N p (.tail _ hp)) K X P) hk hx hE
/-- a contract of a def that may catch: the frames around may change their slots -/
noncomputable def SpecC (w : World) (base : Heap) (f : Addr) (args : List Value) (q : Bool) (dd uu : Nat) (s : Shared) (Ret : Value → Heap → Prop) (Exn : Prop) : Prop :=
  ∀ (A : Around) (l : List Env) (Q E : Value → Shared → Prop),
    (q = false → A.handled = none) → Below A base l s.heap → A.depth + dd < recursionLimit → A.units + uu < cLine →
    (∀ r h' tk', (hideAll s.heap (frs l)).StaysIn h' → s.heap.UpToSlots h' → Ret r h' → Q r { s with heap := h', toks := tk' }) →
    (Exn → ∀ e h' tk', Raised s.heap l e h' → E (.ref e) { s with heap := h', toks := tk' }) →
    wpAny (model PySem.Challenge.rw_no0368_01.row.toRowW.prog w) A (call (.ref f) args) Q E s
noncomputable def RetC (s : Shared) (l : List Env) (Ret : Value → Heap → Prop) (v : Value) (s' : Shared) : Prop :=
  ∃ h' tk', s' = { s with heap := h', toks := tk' } ∧ (hideAll s.heap (frs l)).StaysIn h' ∧ s.heap.UpToSlots h' ∧ Ret v h'
theorem enterC {f : Addr} {args : List Value} {q : Bool} {dd uu : Nat} {s : Shared} {Ret : Value → Heap → Prop} {Exn : Prop} {name qual : Str} {params : Arguments} {body : List Stmt} {scope : Scope} {dV kV doc pm cdv ct oc : Value} {an od : Option Addr} {osl : Array (Option Value)} {binds : List (Str × Value)}
    (hb : Bas w mean mg mb base)
    (ho : (ltop.heap_1 w.params).lookup f = some ⟨oc, od, .func (fnOf name qual params body scope dV kV doc pm an cdv ct), osl⟩) (hcd : codeIn (ltop.heap_1 w.params) cdv qual = true)
    (hbind : BindsTo s (fnOf name qual params body scope dV kV doc pm an cdv ct) ⟨args, []⟩ binds) (hloc : ∀ y ∈ binds, scope.names.lookup y.1 = some .local)
    (hco : scope.isCoroutine = false) (hgen : scope.isGenerator = false) (hk : scope.kind = .function) (hcell : ∀ x ∈ scope.names, x.2 ≠ .cell)
    (h : ∀ (A : Around) (l : List Env) (L : Addr) (h₁ : Heap), (q = false → A.handled = none) → Below A base l s.heap → A.depth + dd < recursionLimit → A.units + uu < cLine →
      (ltop.heap_1 w.params).In s.heap → Top ltop.view_1 (looseW ltop.view_1 [Str.ofString "PostError"]) mean mg mb s.heap → Fr s.heap L h₁ (fun y => binds.reverse.lookup y) → News s.heap L h₁ [] →
      wpAny (model PySem.Challenge.rw_no0368_01.row.toRowW.prog w) (A.deeper (envOf qual scope L f cdv)) (execs body (envOf qual scope L f cdv))
        (fun fl s' => RetC s l Ret (match fl with | .ret v => v | _ => .none) s')
        (fun e s' => wpAny (model PySem.Challenge.rw_no0368_01.row.toRowW.prog w) (A.deeper (envOf qual scope L f cdv)) (leaving (envOf qual scope L f cdv) e) (fun _ s'' => ExnK s l Exn e s'') (fun e' s'' => ExnK s l Exn e' s'') s')
        { s with heap := h₁, toks := s.toks + binds.length }) : SpecC w base f args q dd uu s Ret Exn := by
  intro A l Q E hh B hd hu hret hexc
  have X : (ltop.heap_1 w.params).In s.heap := hb.x.keeps B.stays
  have T := hb.t.keeps B.stays
  refine wpAny_call ?_
  refine codeAny_call_def (fd := fnOf name qual params body scope dV kV doc pm an cdv ct) (body := body) (binds := binds) (by omega) (X _ _ ho) rfl T.nolimit (codeRec_of X hcd) rfl hbind hcell hloc (fun h₁ hns hk₁ => ?_) hco hgen hk
  refine wpAny_mono (h A l s.heap.objs.size h₁ hh B hd hu X T ⟨hns, hk₁, Nat.le_refl _⟩ News.nil) (fun fl s' hl => ?_) fun e s' he => wpAny_mono he (fun _ s'' q => ?_) fun e' s'' q => ?_
  · obtain ⟨h', tk', rfl, k1, k2, r⟩ := hl
    exact hret _ _ _ k1 k2 r
  · obtain ⟨x, a, h', tk', rfl, rfl, k⟩ := q
    exact hexc x _ _ _ k
  · obtain ⟨x, a, h', tk', rfl, rfl, k⟩ := q
    exact hexc x _ _ _ k
theorem turn_hide {le : List Env} {g g' : Heap} (T : KtsTurn (frs le) g g') : (hideAll g (frs le)).StaysIn g' := fun b o q => by
  by_cases m : b ∈ frs le
  · rw [hideAll_none _ m] at q; cases q
  · exact T.other b o (of_hideAll _ q) m
theorem turn_slots {fs : List Addr} {g g' : Heap} (T : KtsTurn fs g g') : g.UpToSlots g' := fun b o e _ => T.up e
theorem retC_end {s : Shared} {l : List Env} {Ret : Value → Heap → Prop} {g' h' : Heap} {tk' : Nat} {L : Addr} {m : Str → Option Value} {v : Value} (T : KtsTurn (frs l) s.heap g') (F : Fr g' L h' m) (hr : Ret v h') : RetC s l Ret v { s with heap := h', toks := tk' } :=
  ⟨h', tk', rfl, fun b o q => F.keep _ _ (turn_hide T b o q), (turn_slots T).trans (Heap.UpToSlots.of_keeps F.keep), hr⟩
theorem turn_new {fs : List Addr} {g g' : Heap} (T : KtsTurn fs g g') {b : Addr} (h : g'.get? b = none) : g.get? b = none := by
  cases e : g.get? b with
  | none => rfl
  | some o => obtain ⟨sl, z⟩ := T.up e; rw [h] at z; cases z
theorem call_specC {f : Addr} {args : List Value} {q : Bool} {dd uu : Nat} {s : Shared} {Ret : Value → Heap → Prop} {Exn : Prop} {Q E : Value → Shared → Prop} (H : SpecC w base f args q dd uu s Ret Exn) (B : Below A base le g) (F : Fr g L s.heap m) (N : News g L s.heap news) (hh : q = false → A.handled = none) (hd : A.depth + (dd + 1) < recursionLimit) (hu : A.units + (uu + 3) < cLine) (hk : scope.kind = .function) (hb : Bas w mean mg mb base)
    (ret : ∀ r h' tk' g', KtsTurn (frs le) g g' → Below A base le g' → Fr g' L h' m → News g' L h' news → (ltop.heap_1 w.params).In g' → Top ltop.view_1 (looseW ltop.view_1 [Str.ofString "PostError"]) mean mg mb g' → (∀ D, s.heap.get? D = none → g'.get? D = none) → Ret r h' → Q r { s with heap := h', toks := tk' })
    (exn : Exn → ∀ e h' tk', Raised s.heap (envOf name scope L a cd :: le) e h' → E (.ref e) { s with heap := h', toks := tk' }) :
    wpAny (model PySem.Challenge.rw_no0368_01.row.toRowW.prog w) (A.deeper (envOf name scope L a cd)) (call (.ref f) args) Q E s :=
  H _ _ _ _ hh (B.push (name := name) (a := a) (cd := cd) F hk) (by show A.depth + 1 + dd < _; omega) (by show A.units + 3 + uu < _; omega)
    (fun r h' tk' k1 k2 hr => by
      obtain ⟨g', T, F', K', N'⟩ := ground B F N k1 k2
      exact ret r h' tk' g' T K' F' N' (hb.x.keeps K'.stays) (hb.t.keeps K'.stays) (fun D hD => T.none_ _ (kts_none F.keep hD)) hr) exn
end
end Mine
end
section
open PySem PySem.W PySem.Spec PySem.Calls PyProof.Rows
namespace Mine
theorem fillX1 : (PySem.Challenge.rw_no0368_01, ltop.heap_1) = (PySem.Challenge.rw_no0368_01, ltop.heap_1) := by k_fill; rfl
theorem _root_.Mine.rowsX1_1 : True := by
  k_with_none
  k_with "subscriptTail" => (k_here; (with_reducible show wpAny _ _ (subscriptTail _ _ (Value.bytes _ _) (Value.int _ _)) _ _ _); k_dflt (refine b_item rfl (by assumption) (by assumption) ?_); intro _ _)
  k_with "subscriptTail" => (k_here; (with_reducible show wpAny _ _ (subscriptTail _ (Expr.Slice (some _) (some _) none _) (Value.bytes _ _) (Value.ref _)) _ _ _); (with_reducible rename Fr _ _ _ _ => F'); (with_reducible rename News _ _ _ _ => N'); k_dflt (refine b_slice (s := ⟨_, _, _, _, _⟩) F' N' (by constructor) (by constructor) (by assumption) (by first | exact cut1 rfl rfl (by assumption) | exact cut0 rfl rfl (by assumption) | exact cut2 rfl rfl (by assumption)) ?_); intro _ _ _ _ _)
  k_with "compareOp Eq bytes bytes" => (k_here; (with_reducible show wpAny _ _ (compareOp CmpOp.Eq (Value.bytes _ _) (Value.bytes _ _)) _ _ _); k_dflt (refine b_eq (by first | exact beq_cons_false (by assumption) | exact beq_self_true | exact (rfl : _ = false) | exact (rfl : _ = true)) ?_))
  k_with "compareOp NotEq bytes bytes" => (k_here; (with_reducible show wpAny _ _ (compareOp CmpOp.NotEq (Value.bytes _ _) (Value.bytes _ _)) _ _ _); k_dflt (refine b_ne (by first | exact bne_cons_true (by assumption) | exact bne_self_false | exact (rfl : _ = false) | exact (rfl : _ = true)) ?_))
  k_with "call builtin:len" => (k_here; (with_reducible show wpAny _ _ (call (Value.builtin "len") [Value.bytes _ _]) _ _ _); k_dflt (refine b_len (by assumption) ?_); intro _ _)
  k_with "compareOp In int bytes" => (k_here; (with_reducible show wpAny _ _ (compareOp CmpOp.In (Value.int _ _) (Value.bytes _ _)) _ _ _); k_dflt (refine b_in rfl (by first | assumption | rfl) ?_))
  k_with "exec Raise some none" => (k_here; k_dflt (refine raise_wf (by assumption) ?_))
  k_with "ktr_unf" => ((refine' enter (by assumption) ?k6 ?k7 ?k9 ?kl ?c2 ?c3 ?c4 ?c5 ?_); (case k6 => k_is); (case k7 => k_is); (case k9 => exact BindsTo.of_eq rfl); (case kl => exact locs rfl); (case c2 => exact rfl); (case c3 => exact rfl); (case c4 => exact rfl); (case c5 => decide); intro A le L h₁ hh B hd hu X T F N; (try (have hHd := hh rfl)); (try k_unmd); (try dsimp only); k_fold)
  k_with "ktr_rel" => ((try dsimp only); (refine ret_end (by assumption) ?_))
  k_with "call ref" => (k_here; (with_reducible show wpAny _ _ (call (Value.ref 59) _) _ _ _); k_dflt (refine wf_make_K (by assumption) (by assumption) (by assumption) (by omega) (by first | exact .inr ⟨_, _, rfl⟩ | exact .inl rfl) ?_); intro h' tk' e' H'; k_dflt (refine leave_new (by assumption) (by assumption) H' rfl ?_))
  k_with "ite" => (k_here; k_dflt (first
    | (refine ite_pos (by first | omega | (simp only [decide_eq_true_eq, beq_iff_eq, bne_iff_ne, ne_eq, Bool.and_eq_true, Bool.or_eq_true, Bool.not_eq_true', decide_eq_false_iff_not, beq_eq_false_iff_ne]; omega) | exact beq_self_eq_true _) ?_; walk_say "PRUNED here")
    | (refine ite_neg (by first | omega | (simp only [decide_eq_true_eq, beq_iff_eq, bne_iff_ne, ne_eq, Bool.and_eq_true, Bool.or_eq_true, Bool.not_eq_true', decide_eq_false_iff_not, beq_eq_false_iff_ne]; omega) | exact beq_self_eq_true _) ?_; walk_say "PRUNED here")))
  k_with "compareOp In int ref" => (k_here; (with_reducible show wpAny _ _ (compareOp CmpOp.In (Value.int _ _) (Value.ref 62)) _ _ _); k_dflt (refine in_nev (by assumption) (by assumption) ?_))
  k_with "exec While Compare" => (k_here; (with_reducible show wpAny _ _ (exec (Stmt.While _ _ _ _) _) _ _ _); (refine hold ?_); walk_say "HELD")
  k_with "exec For" => (k_here; (with_reducible show wpAny _ _ (exec (Stmt.For _ _ _ _ _) _) _ _ _); (refine hold ?_); walk_say "HELD")
  k_with "assign Tuple" => (k_here; (with_reducible show wpAny _ _ (assign (Expr.Tuple _ _ _) _ (Value.ref _)) _ _ _); k_dflt (refine unpackN_ (by k_asm) (by k_asm) (News.isTup (by k_asm) (by k_mem)) (by assumption) rfl rfl ?_); intro h' F' N'; (try k_sweep))
  k_with "call builtin:list.append" => (k_here; (with_reducible show wpAny _ _ (call (Value.builtin _) [Value.ref _, _]) _ _ _); k_dflt (refine' append_K (by k_asm) (by k_asm) (by k_upd) ?_ (by first | size_fits | (rw [sizeLine_eq]; show List.length _ ≤ _; omega)); k_whole); intro h' F' N'; (try simp only [List.push_toArray] at N'); (try k_sweep))
  trivial
section
variable {w : World} {mean : ExcName → Option Value} {mg mb : Str → Option Value} {base : Heap} {s : Shared} {l r : List UInt8} {td ta : Tok} {n : Nat} {c : UInt8}
theorem line_end_spec (hb : Bas w mean mg mb base) (hz : l.length ≤ 16777216) (D : l.drop n = c :: r) (c1 : c ≠ 10) (c2 : c ≠ 13) :
    Spec w base 76 [.bytes l.toArray td, .int (n : Int) ta] true 4 100 s (fun v _ => ∃ t, v = .int (-1) t) False := by
  ktr_unf
  k_steps
  ktr_rel
  exact ⟨_, rfl⟩
end
end Mine
end
section
open PySem PySem.W PySem.Spec PySem.Calls PyProof.Rows
namespace Mine
theorem fillX2 : (PySem.Challenge.rw_no0368_01, ltop.heap_1) = (PySem.Challenge.rw_no0368_01, ltop.heap_1) := by k_fill; rfl
theorem _root_.Mine.rowsX2_1 : True := by
  k_with_none
  k_with "subscriptTail" => (k_here; (with_reducible show wpAny _ _ (subscriptTail _ _ (Value.bytes _ _) (Value.int _ _)) _ _ _); k_dflt (refine b_item rfl (by assumption) (by assumption) ?_); intro _ _)
  k_with "subscriptTail" => (k_here; (with_reducible show wpAny _ _ (subscriptTail _ (Expr.Slice (some _) (some _) none _) (Value.bytes _ _) (Value.ref _)) _ _ _); (with_reducible rename Fr _ _ _ _ => F'); (with_reducible rename News _ _ _ _ => N'); k_dflt (refine b_slice (s := ⟨_, _, _, _, _⟩) F' N' (by constructor) (by constructor) (by assumption) (by first | exact cut1 rfl rfl (by assumption) | exact cut0 rfl rfl (by assumption) | exact cut2 rfl rfl (by assumption)) ?_); intro _ _ _ _ _)
  k_with "compareOp Eq bytes bytes" => (k_here; (with_reducible show wpAny _ _ (compareOp CmpOp.Eq (Value.bytes _ _) (Value.bytes _ _)) _ _ _); k_dflt (refine b_eq (by first | exact beq_cons_false (by assumption) | exact beq_self_true | exact (rfl : _ = false) | exact (rfl : _ = true)) ?_))
  k_with "compareOp NotEq bytes bytes" => (k_here; (with_reducible show wpAny _ _ (compareOp CmpOp.NotEq (Value.bytes _ _) (Value.bytes _ _)) _ _ _); k_dflt (refine b_ne (by first | exact bne_cons_true (by assumption) | exact bne_self_false | exact (rfl : _ = false) | exact (rfl : _ = true)) ?_))
  k_with "call builtin:len" => (k_here; (with_reducible show wpAny _ _ (call (Value.builtin "len") [Value.bytes _ _]) _ _ _); k_dflt (refine b_len (by assumption) ?_); intro _ _)
  k_with "compareOp In int bytes" => (k_here; (with_reducible show wpAny _ _ (compareOp CmpOp.In (Value.int _ _) (Value.bytes _ _)) _ _ _); k_dflt (refine b_in rfl (by first | assumption | rfl) ?_))
  k_with "exec Raise some none" => (k_here; k_dflt (refine raise_wf (by assumption) ?_))
  k_with "ktr_unf" => ((refine' enter (by assumption) ?k6 ?k7 ?k9 ?kl ?c2 ?c3 ?c4 ?c5 ?_); (case k6 => k_is); (case k7 => k_is); (case k9 => exact BindsTo.of_eq rfl); (case kl => exact locs rfl); (case c2 => exact rfl); (case c3 => exact rfl); (case c4 => exact rfl); (case c5 => decide); intro A le L h₁ hh B hd hu X T F N; (try (have hHd := hh rfl)); (try k_unmd); (try dsimp only); k_fold)
  k_with "ktr_rel" => ((try dsimp only); (refine ret_end (by assumption) ?_))
  k_with "call ref" => (k_here; (with_reducible show wpAny _ _ (call (Value.ref 59) _) _ _ _); k_dflt (refine wf_make_K (by assumption) (by assumption) (by assumption) (by omega) (by first | exact .inr ⟨_, _, rfl⟩ | exact .inl rfl) ?_); intro h' tk' e' H'; k_dflt (refine leave_new (by assumption) (by assumption) H' rfl ?_))
  k_with "ite" => (k_here; k_dflt (first
    | (refine ite_pos (by first | omega | (simp only [decide_eq_true_eq, beq_iff_eq, bne_iff_ne, ne_eq, Bool.and_eq_true, Bool.or_eq_true, Bool.not_eq_true', decide_eq_false_iff_not, beq_eq_false_iff_ne]; omega) | exact beq_self_eq_true _) ?_; walk_say "PRUNED here")
    | (refine ite_neg (by first | omega | (simp only [decide_eq_true_eq, beq_iff_eq, bne_iff_ne, ne_eq, Bool.and_eq_true, Bool.or_eq_true, Bool.not_eq_true', decide_eq_false_iff_not, beq_eq_false_iff_ne]; omega) | exact beq_self_eq_true _) ?_; walk_say "PRUNED here")))
  k_with "compareOp In int ref" => (k_here; (with_reducible show wpAny _ _ (compareOp CmpOp.In (Value.int _ _) (Value.ref 62)) _ _ _); k_dflt (refine in_nev (by assumption) (by assumption) ?_))
  k_with "exec While Compare" => (k_here; (with_reducible show wpAny _ _ (exec (Stmt.While _ _ _ _) _) _ _ _); (refine hold ?_); walk_say "HELD")
  k_with "exec For" => (k_here; (with_reducible show wpAny _ _ (exec (Stmt.For _ _ _ _ _) _) _ _ _); (refine hold ?_); walk_say "HELD")
  k_with "assign Tuple" => (k_here; (with_reducible show wpAny _ _ (assign (Expr.Tuple _ _ _) _ (Value.ref _)) _ _ _); k_dflt (refine unpackN_ (by k_asm) (by k_asm) (News.isTup (by k_asm) (by k_mem)) (by assumption) rfl rfl ?_); intro h' F' N'; (try k_sweep))
  k_with "call builtin:list.append" => (k_here; (with_reducible show wpAny _ _ (call (Value.builtin _) [Value.ref _, _]) _ _ _); k_dflt (refine' append_K (by k_asm) (by k_asm) (by k_upd) ?_ (by first | size_fits | (rw [sizeLine_eq]; show List.length _ ≤ _; omega)); k_whole); intro h' F' N'; (try simp only [List.push_toArray] at N'); (try k_sweep))
  k_with "call ref" => (k_here; (with_reducible show wpAny _ _ (call (Value.ref 76) _) _ _ _); k_dflt (refine call_spec (line_end_spec (by assumption) (by assumption) (by assumption) (by assumption) (by assumption)) (by assumption) (by assumption) (by assumption) (fun q => by cases q) (by omega) (by omega) rfl ?_ (fun x => x.elim)); intro _ _ _ _ _ _ hr'; (obtain ⟨_, er'⟩ := hr'); subst er'; (try dsimp only))
  trivial
section
variable {w : World} {mean : ExcName → Option Value} {mg mb : Str → Option Value} {base : Heap} {s : Shared} {l r : List UInt8} {td ta tb : Tok} {n : Nat} {c : UInt8} {b : Int}
noncomputable def InsRet (s : Shared) (c : UInt8) (n' : Nat) (v : Value) (h' : Heap) : Prop := ∃ D t1 t2 k, v = .ref D ∧ s.heap.get? D = none ∧ h'.get? D = some (tupOf [.bytes [c].toArray t1, .int (n' : Nat) t2] k)
theorem ins_end {D L : Addr} {h' : Heap} {t1 t2 : Tok} {n : Nat} {x : Int} {news : List (Addr × Obj)} {c : UInt8} {k : Nat} (N : News s.heap L h' ((D, tupOf [.bytes [c].toArray t1, .int x t2] k) :: news)) (hx : x = (n : Nat)) : InsRet s c n (.ref D) h' := by
  subst hx
  have z := N _ (.head _)
  exact ⟨D, t1, t2, k, rfl, z.2.2, z.1⟩
theorem inside_spec (hb : Bas w mean mg mb base) (hz : l.length ≤ 16777216) (hl : NoBad l) :
    Spec w base 83 [.bytes l.toArray td, .int (n : Int) ta, .int b tb] false 10 200 s (fun v h' => ∃ c n', inside l n = some (c, n') ∧ InsRet s c n' v h') (inside l n = none) := by
  have key' : ∀ (c : UInt8), c ≠ 0 ∧ c ≠ 10 ∧ c ≠ 13 → c.toNat ≠ 0 ∧ c.toNat ≠ 10 ∧ c.toNat ≠ 13 := fun c h => ⟨fun e => h.1 (UInt8.toNat_inj.mp e), fun e => h.2.1 (UInt8.toNat_inj.mp e), fun e => h.2.2 (UInt8.toNat_inj.mp e)⟩
  ktr_unf
  cases D : l.drop n with
  | nil =>
    have hI : inside l n = none := by unfold inside; rw [D]
    have h1 := drop_nil_le D
    clear key' hl
    k_unmd
    (try k_fold)
    k_steps
    all_goals exact hI
  | cons c r =>
    obtain ⟨e1, e2⟩ := (hl.at D).2
    obtain ⟨e0, e3, e4⟩ := key' c (hl.at D)
    have h1 := drop_lt D
    by_cases h92 : c = 92
    · have hc : c.toNat = 92 := by rw [h92]; rfl
      clear e0 e1 e2 e3 e4
      cases r with
      | nil =>
        have hI : inside l n = none := by unfold inside; rw [D]; dsimp only; rw [if_pos h92]
        have h2 : l.length = n + 1 := by have := congrArg List.length D; simp at this; omega
        clear key' hl
        k_unmd
        (try k_fold)
        k_steps
        all_goals exact hI
      | cons e r =>
        have hI : inside l n = some (e, n + 2) := by unfold inside; rw [D]; dsimp only; rw [if_pos h92]
        have D1 := drop_succ D
        obtain ⟨e0, e1, e2⟩ := key' e (hl.at D1)
        have h2 := drop_lt D1
        clear key' hl h92
        k_unmd
        (try k_fold)
        k_steps
        ktr_rel
        exact ⟨e, n + 2, hI, ins_end (by assumption) (by omega)⟩
    · have hI : inside l n = some (c, n + 1) := by unfold inside; rw [D]; dsimp only; rw [if_neg h92]
      have hc : c.toNat ≠ 92 := fun h => h92 (UInt8.toNat_inj.mp h)
      clear key' hl h92
      k_unmd
      (try k_fold)
      k_steps
      ktr_rel
      exact ⟨c, n + 1, hI, ins_end (by assumption) (by omega)⟩
end
end Mine
end
section
open PySem PySem.W PySem.Spec PySem.Calls PyProof.Rows
namespace Mine
section
variable {w : World} {mean : ExcName → Option Value} {mg mb : Str → Option Value} {base g : Heap} {s : Shared} {l r : List UInt8} {td ta tk tb : Tok} {n j n' : Nat} {k c : UInt8} {bl : List UInt8} {b : Int} {A : Around} {le : List Env} {L a : Addr} {m : Str → Option Value} {news : List (Addr × Obj)} {name : Str} {scope : Scope} {cd : Value} {Q E : Value → Shared → Prop}
noncomputable def AllNe (d : Nat) : List (Addr × Obj) → Prop
  | [] => True
  | p :: r => @Ne Nat p.1 d ∧ AllNe d r
theorem allNe_of {d : Addr} : ∀ {l : List (Addr × Obj)}, (∀ p ∈ l, p.1 ≠ d) → AllNe d l
  | [], _ => trivial
  | p :: _, h => ⟨h p (.head _), allNe_of fun q hq => h q (.tail _ hq)⟩
theorem call_inside_some (hb : Bas w mean mg mb base) (hz : l.length ≤ 16777216) (hl : NoBad l) (hI : inside l j = some (c, n')) (B : Below A base le g) (F : Fr g L s.heap m) (N : News g L s.heap news) (hh : A.handled = none) (hd : A.depth + 11 < recursionLimit) (hu : A.units + 203 < cLine) (hk : scope.kind = .function)
    (ret : ∀ D t1 t2 ep h' tk', Fr g L h' m → News g L h' ((D, tupOf [.bytes [c].toArray t1, .int n' t2] ep) :: news) → AllNe D news → Q (.ref D) { s with heap := h', toks := tk' }) :
    wpAny (model PySem.Challenge.rw_no0368_01.row.toRowW.prog w) (A.deeper (envOf name scope L a cd)) (call (.ref 83) [.bytes l.toArray td, .int (j : Int) ta, .int b tb]) Q E s := by
  refine call_spec (inside_spec hb hz hl) B F N (fun _ => hh) hd hu hk (fun r h' tk' F' N' K hr => ?_) fun x => by rw [hI] at x; cases x
  obtain ⟨c1, n1, hi, D, t1, t2, ep, rfl, hD, ho⟩ := hr
  rw [hI] at hi
  cases hi
  exact ret D t1 t2 ep h' tk' F' (news_cons' F hD N' ho) (allNe_of (news_ne N hD))
theorem call_inside_none (hb : Bas w mean mg mb base) (hz : l.length ≤ 16777216) (hl : NoBad l) (hI : inside l j = none) (B : Below A base le g) (F : Fr g L s.heap m) (N : News g L s.heap news) (hh : A.handled = none) (hd : A.depth + 11 < recursionLimit) (hu : A.units + 203 < cLine) (hk : scope.kind = .function)
    (exn : ∀ e h' tk', Raised s.heap (envOf name scope L a cd :: le) e h' → E (.ref e) { s with heap := h', toks := tk' }) :
    wpAny (model PySem.Challenge.rw_no0368_01.row.toRowW.prog w) (A.deeper (envOf name scope L a cd)) (call (.ref 83) [.bytes l.toArray td, .int (j : Int) ta, .int b tb]) Q E s := by
  refine call_spec (inside_spec hb hz hl) B F N (fun _ => hh) hd hu hk (fun r h' tk' F' N' K hr => ?_) fun _ => exn
  obtain ⟨c1, n1, hi, _⟩ := hr
  rw [hI] at hi
  cases hi
end
section
variable {w : World} {mean : ExcName → Option Value} {mg mb : Str → Option Value} {base : Heap} {s : Shared} {l r : List UInt8} {td ta tk tb : Tok} {n : Nat} {k : UInt8} {bl : List UInt8}
theorem PartsAre.bytes {vs : List Value} {acc : List UInt8} (h : PartsAre vs acc) : BytesAre vs (acc.map fun c => [c]) := by
  have app : ∀ {vs bs v b t}, BytesAre vs bs → v = Value.bytes (List.toArray b) t → BytesAre (vs ++ [v]) (bs ++ [b]) := by
    intro vs bs v b t h e
    subst e
    induction h with
    | nil => exact .cons .nil
    | cons _ ih => exact .cons ih
  induction h with
  | nil => exact .nil
  | snoc _ ih => rw [List.map_append]; exact app ih rfl
theorem jn_nil_singles : ∀ (acc : List UInt8), jn [] (acc.map fun c => [c]) = acc
  | [] => rfl
  | [c] => rfl
  | c :: d :: r => by
    rw [List.map_cons, jn_cons _ _ _ (by simp), jn_nil_singles (d :: r)]; rfl
theorem b_join_parts {prog : Program} {w : World} {A : Around} {E : Value → Shared → Prop} {s : Shared} {t : Tok} {g : Heap} {L P : Addr} {vs : List Value} {acc : List UInt8} {ep : Nat} {Q : Value → Shared → Prop} {news : List (Addr × Obj)} (N : News g L s.heap ((P, listOf vs.toArray ep) :: news)) (hP : PartsAre vs acc) (hsz : acc.length ≤ 16777216)
    (h : ∀ t' k, Q (.bytes acc.toArray t') { s with toks := k }) : wpAny (model prog w) A (call (.builtin "bytes.join") [.bytes (List.toArray []) t, .ref P]) Q E s :=
  b_join (bs := acc.map fun c => [c]) ⟨_, (N _ (.head _)).1, rfl, ep, rfl⟩ hP.bytes (by rw [jn_nil_singles]; exact hsz) (by rw [jn_nil_singles]; exact h)
noncomputable def BIRet (s : Shared) (b : List UInt8) (n' : Nat) (v : Value) (h' : Heap) : Prop := ∃ D t1 t2 k, v = .ref D ∧ s.heap.get? D = none ∧ h'.get? D = some (tupOf [.bytes b.toArray t1, .int (n' : Nat) t2] k)
theorem bi_end {s : Shared} {D L : Addr} {h' : Heap} {t1 t2 : Tok} {n : Nat} {x : Int} {news : List (Addr × Obj)} {b : List UInt8} {k : Nat} (N : News s.heap L h' ((D, tupOf [.bytes b.toArray t1, .int x t2] k) :: news)) (hx : x = (n : Nat)) : BIRet s b n (.ref D) h' := by
  subst hx
  have z := N _ (.head _)
  exact ⟨D, t1, t2, k, rfl, z.2.2, z.1⟩
end
theorem ne_of_stored {z a : Str} {stored : List Str} (h : stored.contains z = false) (ha : stored.contains a = true) : z ≠ a := fun e => by rw [e, ha] at h; cases h
theorem kst1_rest {stored : List Str} {a : Str} {v : Value} {u m₀ : Str → Option Value} {z : Str} (e1 : z ≠ a) (h3 : stored.contains z = false) : kstB (fun z => if stored.contains z then u z else m₀ z) [(a, v)] z = m₀ z := by
  show (if z = a then some v else if stored.contains z then u z else m₀ z) = m₀ z
  rw [if_neg e1, h3]; rfl
theorem same_tac {m : Str → Option Value} {a b : Str} {v v' : Option Value} {z : Str} (e1 : z ≠ a) (e2 : z ≠ b) : (if z = a then v else if z = b then v' else m z) = m z := by
  rw [if_neg e1, if_neg e2]
end Mine
end
section
open PySem PySem.W PySem.Spec PySem.Calls PyProof.Rows
namespace Mine
theorem fillX3 : (PySem.Challenge.rw_no0368_01, ltop.heap_1) = (PySem.Challenge.rw_no0368_01, ltop.heap_1) := by k_fill; rfl
theorem inside_len {l : List UInt8} {j m : Nat} {k : UInt8} (h : inside l j = some (k, m)) : j < m ∧ m ≤ l.length := by
  unfold inside at h
  cases D : l.drop j with
  | nil => rw [D] at h; cases h
  | cons c r =>
    rw [D] at h
    dsimp only at h
    have h1 := drop_lt D
    split at h
    · cases r with
      | nil => cases h
      | cons e r =>
        have h2 := drop_lt (drop_succ D)
        cases h
        omega
    · cases h
      omega
theorem closed_in {l r bl : List UInt8} {j : Nat} {c k : UInt8} (D : l.drop j = c :: r) (hk : ¬ c = k) (hb : ¬ bl.contains c = true) :
    closed k bl (l.drop j) = (match inside l j with | none => none | some (e, m) => (closed k bl (l.drop m)).map fun p => (e :: p.1, p.2)) := by
  unfold inside
  rw [D, closed_cons, if_neg hk, if_neg hb]
  dsimp only
  by_cases h92 : c = 92
  · rw [if_pos h92, if_pos h92]
    cases r with
    | nil => rfl
    | cons e r => dsimp only; rw [drop_succ (drop_succ D)]
  · rw [if_neg h92, if_neg h92]
    dsimp only
    rw [drop_succ D]
theorem _root_.Mine.rowsX3_1 : True := by
  k_with_none
  k_with "subscriptTail" => (k_here; (with_reducible show wpAny _ _ (subscriptTail _ _ (Value.bytes _ _) (Value.int _ _)) _ _ _); k_dflt (refine b_item rfl (by assumption) (by assumption) ?_); intro _ _)
  k_with "subscriptTail" => (k_here; (with_reducible show wpAny _ _ (subscriptTail _ (Expr.Slice (some _) (some _) none _) (Value.bytes _ _) (Value.ref _)) _ _ _); (with_reducible rename Fr _ _ _ _ => F'); (with_reducible rename News _ _ _ _ => N'); k_dflt (refine b_slice (s := ⟨_, _, _, _, _⟩) F' N' (by constructor) (by constructor) (by assumption) (by first | exact cut1 rfl rfl (by assumption) | exact cut0 rfl rfl (by assumption) | exact cut2 rfl rfl (by assumption)) ?_); intro _ _ _ _ _)
  k_with "compareOp Eq bytes bytes" => (k_here; (with_reducible show wpAny _ _ (compareOp CmpOp.Eq (Value.bytes _ _) (Value.bytes _ _)) _ _ _); k_dflt (refine b_eq (by first | exact beq_cons_false (by assumption) | exact beq_self_true | exact (rfl : _ = false) | exact (rfl : _ = true)) ?_))
  k_with "compareOp NotEq bytes bytes" => (k_here; (with_reducible show wpAny _ _ (compareOp CmpOp.NotEq (Value.bytes _ _) (Value.bytes _ _)) _ _ _); k_dflt (refine b_ne (by first | exact bne_cons_true (by assumption) | exact bne_self_false | exact (rfl : _ = false) | exact (rfl : _ = true)) ?_))
  k_with "call builtin:len" => (k_here; (with_reducible show wpAny _ _ (call (Value.builtin "len") [Value.bytes _ _]) _ _ _); k_dflt (refine b_len (by assumption) ?_); intro _ _)
  k_with "compareOp In int bytes" => (k_here; (with_reducible show wpAny _ _ (compareOp CmpOp.In (Value.int _ _) (Value.bytes _ _)) _ _ _); k_dflt (refine b_in rfl (by first | assumption | rfl) ?_))
  k_with "exec Raise some none" => (k_here; k_dflt (refine raise_wf (by assumption) ?_))
  k_with "ktr_unf" => ((refine' enter (by assumption) ?k6 ?k7 ?k9 ?kl ?c2 ?c3 ?c4 ?c5 ?_); (case k6 => k_is); (case k7 => k_is); (case k9 => exact BindsTo.of_eq rfl); (case kl => exact locs rfl); (case c2 => exact rfl); (case c3 => exact rfl); (case c4 => exact rfl); (case c5 => decide); intro A le L h₁ hh B hd hu X T F N; (try (have hHd := hh rfl)); (try k_unmd); (try dsimp only); k_fold)
  k_with "ktr_rel" => ((try dsimp only); (refine ret_end (by assumption) ?_))
  k_with "call ref" => (k_here; (with_reducible show wpAny _ _ (call (Value.ref 59) _) _ _ _); k_dflt (refine wf_make_K (by assumption) (by assumption) (by assumption) (by omega) (by first | exact .inr ⟨_, _, rfl⟩ | exact .inl rfl) ?_); intro h' tk' e' H'; k_dflt (refine leave_new (by assumption) (by assumption) H' rfl ?_))
  k_with "ite" => (k_here; k_dflt (first
    | (refine ite_pos (by first | omega | (simp only [decide_eq_true_eq, beq_iff_eq, bne_iff_ne, ne_eq, Bool.and_eq_true, Bool.or_eq_true, Bool.not_eq_true', decide_eq_false_iff_not, beq_eq_false_iff_ne]; omega) | exact beq_self_eq_true _) ?_; walk_say "PRUNED here")
    | (refine ite_neg (by first | omega | (simp only [decide_eq_true_eq, beq_iff_eq, bne_iff_ne, ne_eq, Bool.and_eq_true, Bool.or_eq_true, Bool.not_eq_true', decide_eq_false_iff_not, beq_eq_false_iff_ne]; omega) | exact beq_self_eq_true _) ?_; walk_say "PRUNED here")))
  k_with "compareOp In int ref" => (k_here; (with_reducible show wpAny _ _ (compareOp CmpOp.In (Value.int _ _) (Value.ref 62)) _ _ _); k_dflt (refine in_nev (by assumption) (by assumption) ?_))
  k_with "exec While Compare" => (k_here; (with_reducible show wpAny _ _ (exec (Stmt.While _ _ _ _) _) _ _ _); (refine hold ?_); walk_say "HELD")
  k_with "exec For" => (k_here; (with_reducible show wpAny _ _ (exec (Stmt.For _ _ _ _ _) _) _ _ _); (refine hold ?_); walk_say "HELD")
  k_with "assign Tuple" => (k_here; (with_reducible show wpAny _ _ (assign (Expr.Tuple _ _ _) _ (Value.ref _)) _ _ _); k_dflt (refine unpackN_ (by k_asm) (by k_asm) (News.isTup (by k_asm) (by k_mem)) (by assumption) rfl rfl ?_); intro h' F' N'; (try k_sweep))
  k_with "call builtin:list.append" => (k_here; (with_reducible show wpAny _ _ (call (Value.builtin _) [Value.ref _, _]) _ _ _); k_dflt (refine' append_K (by k_asm) (by k_asm) (by k_upd) ?_ (by first | size_fits | (rw [sizeLine_eq]; show List.length _ ≤ _; omega)); k_whole); intro h' F' N'; (try simp only [List.push_toArray] at N'); (try k_sweep))
  k_with "call ref" => (k_here; (with_reducible show wpAny _ _ (call (Value.ref 83) _) _ _ _); k_dflt (first
    | (refine call_inside_some (by assumption) (by assumption) (by assumption) (by assumption) (by assumption) (by assumption) (by assumption) (by assumption) (by omega) (by omega) rfl ?_; intro _ _ _ _ _ _ _ _ ne'; (try simp only [AllNe, and_true] at ne'))
    | (refine call_inside_none (by assumption) (by assumption) (by assumption) (by assumption) (by assumption) (by assumption) (by assumption) (by assumption) (by omega) (by omega) rfl ?_; intro _ _ _ R'; (refine leave_pass (by assumption) (by assumption) R' rfl ?_))))
  k_with "getMethod bytes" => (k_here; (with_reducible refine m_join ?_))
  k_with "call builtin:bytes.join" => (k_here; k_dflt (refine b_join_parts (by assumption) (by assumption) (by omega) ?_); intro _ _)
  trivial
section
variable {w : World} {mean : ExcName → Option Value} {mg mb : Str → Option Value} {base : Heap} {s : Shared} {l r : List UInt8} {td ta tk tb : Tok} {n : Nat} {k : UInt8} {bl : List UInt8}
structure ClSt where
  j : Nat
  t : Tok
  vs : List Value
  acc : List UInt8
  ep : Nat
theorem closed_spec (hb : Bas w mean mg mb base) (hz : l.length ≤ 16777216) (hl : NoBad l) :
    Spec w base 90 [.bytes l.toArray td, .int (n : Int) ta, .bytes [k].toArray tk, .bytes bl.toArray tb] false 20 400 s (fun v h' => ∃ p rest, closed k bl (l.drop (n + 1)) = some (p, rest) ∧ BIRet s p (l.length - rest.length) v h') (closed k bl (l.drop (n + 1)) = none) := by
  ktr_unf
  k_steps
  refine unhold ?_
  rename_i P _ _ tkk hL F N
  refine' while_k (σ := ClSt) (fun c => [(P, listOf c.vs.toArray c.ep)]) (fun c => [(Str.ofString "at", .int (c.j : Nat) c.t)]) [Str.ofString "octets"]
    (fun c => PartsAre c.vs c.acc ∧ c.vs.length ≤ c.j ∧ (c.j ≤ l.length ∨ c.vs = []) ∧ closed k bl (l.drop (n + 1)) = (closed k bl (l.drop c.j)).map fun p => (c.acc ++ p.1, p.2)) (fun c => l.length - c.j) ⟨n + 1, ?tt, [], [], 0⟩ F N ?hk ?hp ?turn
  case hk => exact List.forall_mem_singleton.mpr (by with_unfolding_all rfl)
  case hp => exact ⟨.nil, Nat.zero_le _, .inr rfl, by cases closed k bl (l.drop (n + 1)) <;> rfl⟩
  case turn =>
  rintro ⟨j, t, vs, acc, ep⟩ u h tkk' ⟨hP, hv, hj, hc⟩ F N
  dsimp only at hP hv hj hc F N
  cases D : l.drop j with
  | nil =>
    have hI : inside l j = none := by unfold inside; rw [D]
    rw [D] at hc
    have h1 := drop_nil_le D
    k_unmd
    k_fold
    k_steps
  | cons c r =>
    rw [D] at hc
    have h1 := drop_lt D
    have hlen : l.length = j + 1 + r.length := by
      have := congrArg List.length D
      rw [List.length_drop] at this
      simp at this; omega
    have hjl : j ≤ l.length := Nat.le_of_lt h1
    have hvl := hP.length
    have hacc : acc.length ≤ 16777216 := by omega
    by_cases hk : c = k
    · subst hk
      have hc' : closed c bl (l.drop (n + 1)) = some (acc, r) := by
        rw [hc, closed_cons]; rw [if_pos rfl]; simp
      k_unmd
      k_fold
      k_steps
      ktr_rel
      exact ⟨acc, r, hc', bi_end (by assumption) (by omega)⟩
    · cases hbar : bl.contains c with
      | true =>
        have hc' : closed k bl (l.drop (n + 1)) = none := by
          rw [hc, closed_cons]; rw [if_neg hk, if_pos hbar]; rfl
        k_unmd
        k_fold
        k_steps
        all_goals exact hc'
      | false =>
        have hbar' : ¬ bl.contains c = true := by rw [hbar]; exact Bool.false_ne_true
        rw [← D, closed_in D hk hbar'] at hc
        cases hI : inside l j with
        | none =>
          rw [hI] at hc
          k_unmd
          k_fold
          k_steps
          all_goals exact hc
        | some km =>
          obtain ⟨e, m⟩ := km
          rw [hI] at hc
          obtain ⟨hm1, hm2⟩ := inside_len hI
          have hc' : closed k bl (l.drop (n + 1)) = (closed k bl (l.drop m)).map fun p => ((acc ++ [e]) ++ p.1, p.2) := by
            rw [hc]
            dsimp only
            rw [Option.map_map]
            congr 1
            funext p
            simp
          clear hlen
          k_unmd
          k_fold
          k_steps
          refine wturn_next ⟨m, _, vs ++ [_], acc ++ [e], ep + 1⟩ (by assumption) (by assumption) (by kst_in) (by kst_all) (fun z h2 h3 => (same_tac (h2 _ (.head _)) (ne_of_stored h3 (by decide))).trans (kst1_rest (h2 _ (.head _)) h3)) ⟨hP.snoc, (by simp only [List.length_append, List.length_singleton]; omega), .inl hm2, hc'⟩ (Nat.sub_lt_sub_left h1 hm1)
end
end Mine
end
section
open PySem PySem.W PySem.Spec PySem.Calls PyProof.Rows
namespace Mine
/-- what stands behind a comment, with d brackets open -/
noncomputable def comment : Nat → List UInt8 → Option (List UInt8)
  | 0, l => some l
  | _ + 1, [] => none
  | d + 1, c :: r => if c = 40 then (if 20 < d + 2 then none else comment (d + 2) r) else if c = 41 then comment d r else if c = 92 then (match r with | [] => none | _ :: r' => comment (d + 1) r') else comment (d + 1) r
theorem comment_zero {l : List UInt8} : comment 0 l = some l := by cases l <;> rw [comment.eq_def]
theorem comment_nil {d : Nat} : comment (d + 1) [] = none := by rw [comment.eq_def]
theorem comment_cons {d : Nat} {c : UInt8} {r : List UInt8} : comment (d + 1) (c :: r) = if c = 40 then (if 20 < d + 2 then none else comment (d + 2) r) else if c = 41 then comment d r else if c = 92 then (match r with | [] => none | _ :: r' => comment (d + 1) r') else comment (d + 1) r := by rw [comment.eq_def]
section
variable {prog : Program} {w : World} {A : Around} {E : Value → Shared → Prop} {Q : Flow → Shared → Prop} {s : Shared} {env : Env} {g : Heap} {L P : Addr}
/-- one list grows -/
theorem while_k1 {σ : Type} {test : Expr} {body : List Stmt} {pos : Pos} {m₀ : Str → Option Value} (o : σ → Obj) (ps : σ → List (Str × Value)) (stored : List Str) (Pr : σ → Prop) (μ : σ → Nat) (c₀ : σ)
    (F : Fr g L s.heap m₀) (N : News g L s.heap [(P, o c₀)]) (hk : ∀ p ∈ ps c₀, m₀ p.1 = some p.2) (hp : Pr c₀)
    (turn : ∀ (c : σ) (u : Str → Option Value) h tk, Pr c → Fr g L h (kstB (fun z => if stored.contains z then u z else m₀ z) (ps c)) → News g L h [(P, o c)] →
      wpAny (model prog w) A (isTrue test env (eval test env)) (fun b s₂ =>
        if b = true then wpAny (model prog w) A (execs body env) (WTurn g L s (fun c => [(P, o c)]) ps stored m₀ Pr μ Q c) E s₂ else Q .next s₂) E { s with heap := h, toks := tk })
    (hE : PassesOwn (model prog w) A env E := by passes_own) :
    wpAny (model prog w) A (exec (.While test body [] pos) env) Q E s :=
  while_k (fun c => [(P, o c)]) ps stored Pr μ c₀ F N hk hp turn hE
/-- no list -/
theorem while_k0 {σ : Type} {test : Expr} {body : List Stmt} {pos : Pos} {m₀ : Str → Option Value} (ps : σ → List (Str × Value)) (stored : List Str) (Pr : σ → Prop) (μ : σ → Nat) (c₀ : σ)
    (F : Fr g L s.heap m₀) (hk : ∀ p ∈ ps c₀, m₀ p.1 = some p.2) (hp : Pr c₀)
    (turn : ∀ (c : σ) (u : Str → Option Value) h tk, Pr c → Fr g L h (kstB (fun z => if stored.contains z then u z else m₀ z) (ps c)) → News g L h [] →
      wpAny (model prog w) A (isTrue test env (eval test env)) (fun b s₂ =>
        if b = true then wpAny (model prog w) A (execs body env) (WTurn g L s (fun _ => []) ps stored m₀ Pr μ Q c) E s₂ else Q .next s₂) E { s with heap := h, toks := tk })
    (hE : PassesOwn (model prog w) A env E := by passes_own) :
    wpAny (model prog w) A (exec (.While test body [] pos) env) Q E s :=
  while_k (fun _ => []) ps stored Pr μ c₀ F News.nil hk hp turn hE
end
theorem kst2_rest {stored : List Str} {a b : Str} {v v' : Value} {u m₀ : Str → Option Value} {z : Str} (e1 : z ≠ a) (e2 : z ≠ b) (h3 : stored.contains z = false) : kstB (fun z => if stored.contains z then u z else m₀ z) [(a, v), (b, v')] z = m₀ z := by
  show (if z = a then some v else if z = b then some v' else if stored.contains z then u z else m₀ z) = m₀ z
  rw [if_neg e1, if_neg e2, h3]; rfl
theorem int_dec {d : Nat} {t : Tok} : some (Value.int (((d + 1 : Nat) : Int) - 1) t) = some (Value.int (d : Nat) t) := by
  congr 2; omega
theorem pick_init (vs : List Value) : slicePick vs.toArray none (some (-1)) none = vs.dropLast.toArray := by
  rw [kms_pick_eq]; unfold kms_pick; simp [kms_lo, kms_hi, List.dropLast_eq_take]
theorem PartsAre.init {vs : List Value} {cs : List UInt8} (h : PartsAre vs cs) : PartsAre vs.dropLast cs.dropLast := by
  cases h with
  | nil => exact .nil
  | snoc h => rw [List.dropLast_concat, List.dropLast_concat]; exact h
theorem b_join_init {prog : Program} {w : World} {A : Around} {E : Value → Shared → Prop} {s : Shared} {t : Tok} {g : Heap} {L P : Addr} {vs : List Value} {acc : List UInt8} {Q : Value → Shared → Prop} {news : List (Addr × Obj)} (N : News g L s.heap ((P, { cls := .type "list", data := .seq (slicePick vs.toArray none (some (-1)) none) }) :: news)) (hP : PartsAre vs acc) (hsz : acc.length ≤ 16777216)
    (h : ∀ t' k, Q (.bytes acc.dropLast.toArray t') { s with toks := k }) : wpAny (model prog w) A (call (.builtin "bytes.join") [.bytes (List.toArray []) t, .ref P]) Q E s :=
  b_join (bs := acc.dropLast.map fun c => [c]) ⟨_, (N _ (.head _)).1, rfl, _, by rw [pick_init]⟩ hP.init.bytes (by rw [jn_nil_singles, List.length_dropLast]; omega) (by rw [jn_nil_singles]; exact h)
theorem same3 {m : Str → Option Value} {a b c : Str} {v1 v2 v3 : Option Value} {z : Str} (e1 : z ≠ a) (e2 : z ≠ b) (e3 : z ≠ c) : (if z = a then v1 else if z = b then v2 else if z = c then v3 else m z) = m z := by
  rw [if_neg e1, if_neg e2, if_neg e3]
theorem same4 {m : Str → Option Value} {a b c d : Str} {v1 v2 v3 v4 : Option Value} {z : Str} (e1 : z ≠ a) (e2 : z ≠ b) (e3 : z ≠ c) (e4 : z ≠ d) : (if z = a then v1 else if z = b then v2 else if z = c then v3 else if z = d then v4 else m z) = m z := by
  rw [if_neg e1, if_neg e2, if_neg e3, if_neg e4]
end Mine
end
section
open PySem PySem.W PySem.Spec PySem.Calls PyProof.Rows
namespace Mine
theorem fillX4 : (PySem.Challenge.rw_no0368_01, ltop.heap_1) = (PySem.Challenge.rw_no0368_01, ltop.heap_1) := by k_fill; rfl
noncomputable def DepS (d : Nat) (x : List UInt8) (d' : Nat) : Prop := (∃ r, x = 40 :: r ∧ d' = d + 2 ∧ ¬ 20 < d + 2) ∨ (∃ r, x = 41 :: r ∧ d' = d) ∨ ((∀ r, x ≠ 40 :: r) ∧ (∀ r, x ≠ 41 :: r) ∧ d' = d + 1)
theorem comment_in {l : List UInt8} {j d d' : Nat} (h : DepS d (l.drop j) d') : comment (d + 1) (l.drop j) = (match inside l j with | none => none | some (_, m) => comment d' (l.drop m)) := by
  unfold inside
  rcases h with ⟨r, e, e2, e3⟩ | ⟨r, e, e2⟩ | ⟨h1, h2, e2⟩
  · rw [e, comment_cons, if_pos rfl, if_neg e3, e2]
    dsimp only
    rw [if_neg (by decide)]
    dsimp only
    rw [drop_succ e]
  · rw [e, comment_cons, if_neg (by decide), if_pos rfl, e2]
    dsimp only
    rw [if_neg (by decide)]
    dsimp only
    rw [drop_succ e]
  · cases D : l.drop j with
    | nil => rw [comment_nil]
    | cons c r =>
      rw [comment_cons, if_neg (fun h => h1 r (by rw [D, h])), if_neg (fun h => h2 r (by rw [D, h])), e2]
      dsimp only
      by_cases h92 : c = 92
      · rw [if_pos h92, if_pos h92]
        cases r with
        | nil => rfl
        | cons e r => dsimp only; rw [drop_succ (drop_succ D)]
      · rw [if_neg h92, if_neg h92]
        dsimp only
        rw [drop_succ D]
theorem _root_.Mine.rowsX4_1 : True := by
  k_with_none
  k_with "subscriptTail" => (k_here; (with_reducible show wpAny _ _ (subscriptTail _ _ (Value.bytes _ _) (Value.int _ _)) _ _ _); k_dflt (refine b_item rfl (by assumption) (by assumption) ?_); intro _ _)
  k_with "subscriptTail" => (k_here; (with_reducible show wpAny _ _ (subscriptTail _ (Expr.Slice (some _) (some _) none _) (Value.bytes _ _) (Value.ref _)) _ _ _); (with_reducible rename Fr _ _ _ _ => F'); (with_reducible rename News _ _ _ _ => N'); k_dflt (refine b_slice (s := ⟨_, _, _, _, _⟩) F' N' (by constructor) (by constructor) (by assumption) (by first | exact cut1 rfl rfl (by assumption) | exact cut0 rfl rfl (by assumption) | exact cut2 rfl rfl (by assumption)) ?_); intro _ _ _ _ _)
  k_with "compareOp Eq bytes bytes" => (k_here; (with_reducible show wpAny _ _ (compareOp CmpOp.Eq (Value.bytes _ _) (Value.bytes _ _)) _ _ _); k_dflt (refine b_eq (by first | exact beq_cons_false (by assumption) | exact beq_self_true | exact (rfl : _ = false) | exact (rfl : _ = true)) ?_))
  k_with "compareOp NotEq bytes bytes" => (k_here; (with_reducible show wpAny _ _ (compareOp CmpOp.NotEq (Value.bytes _ _) (Value.bytes _ _)) _ _ _); k_dflt (refine b_ne (by first | exact bne_cons_true (by assumption) | exact bne_self_false | exact (rfl : _ = false) | exact (rfl : _ = true)) ?_))
  k_with "call builtin:len" => (k_here; (with_reducible show wpAny _ _ (call (Value.builtin "len") [Value.bytes _ _]) _ _ _); k_dflt (refine b_len (by assumption) ?_); intro _ _)
  k_with "compareOp In int bytes" => (k_here; (with_reducible show wpAny _ _ (compareOp CmpOp.In (Value.int _ _) (Value.bytes _ _)) _ _ _); k_dflt (refine b_in rfl (by first | assumption | rfl) ?_))
  k_with "exec Raise some none" => (k_here; k_dflt (refine raise_wf (by assumption) ?_))
  k_with "ktr_unf" => ((refine' enter (by assumption) ?k6 ?k7 ?k9 ?kl ?c2 ?c3 ?c4 ?c5 ?_); (case k6 => k_is); (case k7 => k_is); (case k9 => exact BindsTo.of_eq rfl); (case kl => exact locs rfl); (case c2 => exact rfl); (case c3 => exact rfl); (case c4 => exact rfl); (case c5 => decide); intro A le L h₁ hh B hd hu X T F N; (try (have hHd := hh rfl)); (try k_unmd); (try dsimp only); k_fold)
  k_with "ktr_rel" => ((try dsimp only); (refine ret_end (by assumption) ?_))
  k_with "call ref" => (k_here; (with_reducible show wpAny _ _ (call (Value.ref 59) _) _ _ _); k_dflt (refine wf_make_K (by assumption) (by assumption) (by assumption) (by omega) (by first | exact .inr ⟨_, _, rfl⟩ | exact .inl rfl) ?_); intro h' tk' e' H'; k_dflt (refine leave_new (by assumption) (by assumption) H' rfl ?_))
  k_with "ite" => (k_here; k_dflt (first
    | (refine ite_pos (by first | omega | (simp only [decide_eq_true_eq, beq_iff_eq, bne_iff_ne, ne_eq, Bool.and_eq_true, Bool.or_eq_true, Bool.not_eq_true', decide_eq_false_iff_not, beq_eq_false_iff_ne]; omega) | exact beq_self_eq_true _) ?_; walk_say "PRUNED here")
    | (refine ite_neg (by first | omega | (simp only [decide_eq_true_eq, beq_iff_eq, bne_iff_ne, ne_eq, Bool.and_eq_true, Bool.or_eq_true, Bool.not_eq_true', decide_eq_false_iff_not, beq_eq_false_iff_ne]; omega) | exact beq_self_eq_true _) ?_; walk_say "PRUNED here")))
  k_with "compareOp In int ref" => (k_here; (with_reducible show wpAny _ _ (compareOp CmpOp.In (Value.int _ _) (Value.ref 62)) _ _ _); k_dflt (refine in_nev (by assumption) (by assumption) ?_))
  k_with "exec While Compare" => (k_here; (with_reducible show wpAny _ _ (exec (Stmt.While _ _ _ _) _) _ _ _); (refine hold ?_); walk_say "HELD")
  k_with "exec For" => (k_here; (with_reducible show wpAny _ _ (exec (Stmt.For _ _ _ _ _) _) _ _ _); (refine hold ?_); walk_say "HELD")
  k_with "assign Tuple" => (k_here; (with_reducible show wpAny _ _ (assign (Expr.Tuple _ _ _) _ (Value.ref _)) _ _ _); k_dflt (refine unpackN_ (by k_asm) (by k_asm) (News.isTup (by k_asm) (by k_mem)) (by assumption) rfl rfl ?_); intro h' F' N'; (try k_sweep))
  k_with "call builtin:list.append" => (k_here; (with_reducible show wpAny _ _ (call (Value.builtin _) [Value.ref _, _]) _ _ _); k_dflt (refine' append_K (by k_asm) (by k_asm) (by k_upd) ?_ (by first | size_fits | (rw [sizeLine_eq]; show List.length _ ≤ _; omega)); k_whole); intro h' F' N'; (try simp only [List.push_toArray] at N'); (try k_sweep))
  k_with "call ref" => (k_here; (with_reducible show wpAny _ _ (call (Value.ref 83) _) _ _ _); k_dflt (first
    | (refine call_inside_some (by assumption) (by assumption) (by assumption) (by assumption) (by assumption) (by assumption) (by assumption) (by assumption) (by omega) (by omega) rfl ?_; intro _ _ _ _ _ _ _ _ ne'; (try simp only [AllNe, and_true] at ne'))
    | (refine call_inside_none (by assumption) (by assumption) (by assumption) (by assumption) (by assumption) (by assumption) (by assumption) (by assumption) (by omega) (by omega) rfl ?_; intro _ _ _ R'; (refine leave_pass (by assumption) (by assumption) R' rfl ?_))))
  k_with "getMethod bytes" => (k_here; (with_reducible refine m_join ?_))
  k_with "call builtin:bytes.join" => (k_here; k_dflt (refine b_join_parts (by assumption) (by assumption) (by omega) ?_); intro _ _)
  k_with "call builtin:bytes.join" => (k_here; k_dflt (refine b_join_init (by assumption) (by assumption) (by omega) ?_); intro _ _)
  k_with "subscriptTail" => (k_here; (with_reducible show wpAny _ _ (subscriptTail _ (Expr.Slice (some _) (some _) none _) (Value.bytes _ _) (Value.ref _)) _ _ _); (with_reducible rename Fr _ _ _ _ => F'); (with_reducible rename News _ _ _ _ => N'); k_dflt (refine b_slice (s := ⟨_, _, _, _, _⟩) F' N' (by constructor) (by constructor) (by assumption) (by exact cutX rfl rfl (by assumption)) ?_); intro _ _ _ _ _)
  k_with "exec If" => (k_here; (fail_if_success (with_reducible rename Go4 => hGo9)); (with_reducible show wpAny _ _ (exec (Stmt.If _ _ (_ :: _) _) _) _ _ _); (refine hold ?_); walk_say "HELD")
  trivial
section
variable {w : World} {mean : ExcName → Option Value} {mg mb : Str → Option Value} {base : Heap} {s : Shared} {l r : List UInt8} {td ta tk tb : Tok} {n : Nat} {k : UInt8} {bl : List UInt8}
structure CmSt where
  j : Nat
  d : Nat
  t : Tok
  u : Tok
  vs : List Value
  acc : List UInt8
  ep : Nat
theorem comment_spec (hb : Bas w mean mg mb base) (hz : l.length ≤ 16777216) (hl : NoBad l) :
    Spec w base 97 [.bytes l.toArray td, .int (n : Int) ta] false 20 400 s (fun v h' => ∃ p rest, comment 1 (l.drop (n + 1)) = some rest ∧ BIRet s p (l.length - rest.length) v h') (comment 1 (l.drop (n + 1)) = none) := by
  ktr_unf
  k_steps
  refine unhold ?_
  refine' while_k1 (σ := CmSt) (fun c => listOf c.vs.toArray c.ep) (fun c => [(Str.ofString "at", .int (c.j : Nat) c.t), (Str.ofString "depth", .int (c.d : Nat) c.u)]) [Str.ofString "octets", Str.ofString "sign"]
    (fun c => PartsAre c.vs c.acc ∧ c.vs.length ≤ c.j ∧ (c.j ≤ l.length ∨ c.d = 1) ∧ comment 1 (l.drop (n + 1)) = comment c.d (l.drop c.j)) (fun c => l.length - c.j) ⟨n + 1, 1, ?tt, ?t2, [], [], 0⟩ (by assumption) (by assumption) ?hk ?hp ?turn
  case hk => exact List.forall_mem_cons.mpr ⟨by with_unfolding_all rfl, List.forall_mem_singleton.mpr (by with_unfolding_all rfl)⟩
  case hp => exact ⟨.nil, Nat.zero_le _, .inr rfl, rfl⟩
  case turn =>
  rintro ⟨j, d, t, u, vs, acc, ep⟩ um h tkk' ⟨hP, hv, hj, hc⟩ F N
  dsimp only at hP hv hj hc F N
  have hvl := hP.length
  cases d with
  | zero =>
    have hj' : j ≤ l.length := by omega
    have hacc : acc.length ≤ 16777216 := by omega
    have hc' : comment 1 (l.drop (n + 1)) = some (l.drop j) := by rw [hc, comment_zero]
    have hlen : j = l.length - (l.drop j).length := by rw [List.length_drop]; omega
    k_unmd
    k_fold
    k_steps
    ktr_rel
    exact ⟨_, _, hc', bi_end (by assumption) (by omega)⟩
  | succ d =>
  obtain ⟨sg, hsg⟩ : ∃ sg, sg = (l.drop j).take 1 := ⟨_, rfl⟩
  k_unmd
  k_fold
  k_steps
  refine unhold ?_
  refine set_cut (Str.ofString "depth") (fun a : Nat × Tok => .int (a.1 : Nat) a.2) (fun a => DepS d (l.drop j) a.1) (by assumption) (by assumption) ?here ?past
  case here =>
    have hgo := go4
    cases D : l.drop j with
    | nil =>
      rw [D] at hsg
      change sg = [] at hsg
      subst hsg
      k_unmd
      k_fold
      k_steps
      all_goals exact set_end (d + 1, _) (by assumption) (by assumption) (.inr (.inr ⟨fun _ h => (by cases h), fun _ h => (by cases h), rfl⟩)) (by with_unfolding_all rfl) (fun _ _ => rfl) (fun _ h => h)
    | cons c r =>
      rw [D] at hsg
      change sg = [c] at hsg
      subst hsg
      by_cases h40 : c = 40
      · subst h40
        by_cases hd : 20 < d + 2
        · have hc' : comment 1 (l.drop (n + 1)) = none := by rw [hc, D, comment_cons, if_pos rfl, if_pos hd]
          k_unmd
          k_fold
          k_steps
          all_goals exact hc'
        · k_unmd
          k_fold
          k_steps
          all_goals exact set_end (d + 2, _) (by assumption) (by assumption) (.inl ⟨_, rfl, rfl, hd⟩) (by with_unfolding_all rfl) (fun _ h => if_neg h) (fun _ h => h)
      · by_cases h41 : c = 41
        · subst h41
          k_unmd
          k_fold
          k_steps
          all_goals exact set_end (d, _) (by assumption) (by assumption) (.inr (.inl ⟨_, rfl, rfl⟩)) (by with_unfolding_all exact int_dec) (fun _ h => if_neg h) (fun _ h => h)
        · k_unmd
          k_fold
          k_steps
          all_goals exact set_end (d + 1, _) (by assumption) (by assumption) (.inr (.inr ⟨fun _ h => h40 (List.cons.inj h).1, fun _ h => h41 (List.cons.inj h).1, rfl⟩)) (by with_unfolding_all rfl) (fun _ _ => rfl) (fun _ h => h)
  case past =>
  rintro ⟨d', u'⟩ h2 tk2 hdp F N
  dsimp only at hdp F
  rw [comment_in hdp] at hc
  clear hdp
  have hgo := go4
  cases hI : inside l j with
  | none =>
    rw [hI] at hc
    k_unmd
    (try k_fold)
    k_steps
    all_goals exact hc
  | some km =>
    obtain ⟨k, m⟩ := km
    rw [hI] at hc
    dsimp only at hc
    obtain ⟨hm1, hm2⟩ := inside_len hI
    have hacc : acc.length ≤ 16777216 := by omega
    k_unmd
    (try k_fold)
    k_steps
    refine wturn_next ⟨m, d', _, _, vs ++ [_], acc ++ [k], ep + 1⟩ (by assumption) (by assumption) (by kst_in) (by kst_all) (fun z h2 h3 => (same4 (h2 _ (.head _)) (ne_of_stored h3 (by decide)) (h2 _ (.tail _ (.head _))) (ne_of_stored h3 (by decide))).trans (kst2_rest (h2 _ (.head _)) (h2 _ (.tail _ (.head _))) h3)) ⟨hP.snoc, (by simp only [List.length_append, List.length_singleton]; omega), (by show m ≤ l.length ∨ _; omega), hc⟩ (Nat.sub_lt_sub_left (Nat.lt_of_lt_of_le hm1 hm2) hm1)
end
end Mine
end
section
open PySem PySem.W PySem.Spec PySem.Calls PyProof.Rows
namespace Mine
noncomputable abbrev atomSigns : List UInt8 := [33, 35, 36, 37, 38, 39, 42, 43, 45, 47, 61, 63, 94, 95, 96, 123, 124, 125, 126]
noncomputable abbrev runSigns : List UInt8 := [33, 35, 36, 37, 38, 39, 42, 43, 45, 47, 61, 63, 94, 95, 96, 123, 124, 125, 126, 46]
noncomputable def isAtom (c : UInt8) : Bool := if 48 ≤ c.toNat ∧ c.toNat ≤ 57 then true else if 65 ≤ c.toNat ∧ c.toNat ≤ 90 then true else if 97 ≤ c.toNat ∧ c.toNat ≤ 122 then true else if 127 < c.toNat then true else atomSigns.contains c
noncomputable def isRun (c : UInt8) : Bool := if c.toNat < 127 then (if c.toNat = 46 then true else isAtom c) else false
noncomputable def lawRun (c : UInt8) : Bool := if 48 ≤ c.toNat ∧ c.toNat ≤ 57 then true else if 65 ≤ c.toNat ∧ c.toNat ≤ 90 then true else if 97 ≤ c.toNat ∧ c.toNat ≤ 122 then true else runSigns.contains c
theorem lawRun_eq : ∀ c : UInt8, lawRun c = isRun c := by
  have h : ∀ n : Fin 256, lawRun (UInt8.ofNat n.1) = isRun (UInt8.ofNat n.1) := by decide
  intro c
  have := h ⟨c.toNat, c.toNat_lt⟩
  simpa using this
end Mine
end
section
open PySem PySem.W PySem.Spec PySem.Calls PyProof.Rows
namespace Mine
theorem fillX5 : (PySem.Challenge.rw_no0368_01, ltop.heap_1) = (PySem.Challenge.rw_no0368_01, ltop.heap_1) := by k_fill; rfl
theorem _root_.Mine.rowsX5_1 : True := by
  k_with_none
  k_with "subscriptTail" => (k_here; (with_reducible show wpAny _ _ (subscriptTail _ _ (Value.bytes _ _) (Value.int _ _)) _ _ _); k_dflt (refine b_item rfl (by assumption) (by assumption) ?_); intro _ _)
  k_with "subscriptTail" => (k_here; (with_reducible show wpAny _ _ (subscriptTail _ (Expr.Slice (some _) (some _) none _) (Value.bytes _ _) (Value.ref _)) _ _ _); (with_reducible rename Fr _ _ _ _ => F'); (with_reducible rename News _ _ _ _ => N'); k_dflt (refine b_slice (s := ⟨_, _, _, _, _⟩) F' N' (by constructor) (by constructor) (by assumption) (by first | exact cut1 rfl rfl (by assumption) | exact cut0 rfl rfl (by assumption) | exact cut2 rfl rfl (by assumption)) ?_); intro _ _ _ _ _)
  k_with "compareOp Eq bytes bytes" => (k_here; (with_reducible show wpAny _ _ (compareOp CmpOp.Eq (Value.bytes _ _) (Value.bytes _ _)) _ _ _); k_dflt (refine b_eq (by first | exact beq_cons_false (by assumption) | exact beq_self_true | exact (rfl : _ = false) | exact (rfl : _ = true)) ?_))
  k_with "compareOp NotEq bytes bytes" => (k_here; (with_reducible show wpAny _ _ (compareOp CmpOp.NotEq (Value.bytes _ _) (Value.bytes _ _)) _ _ _); k_dflt (refine b_ne (by first | exact bne_cons_true (by assumption) | exact bne_self_false | exact (rfl : _ = false) | exact (rfl : _ = true)) ?_))
  k_with "call builtin:len" => (k_here; (with_reducible show wpAny _ _ (call (Value.builtin "len") [Value.bytes _ _]) _ _ _); k_dflt (refine b_len (by assumption) ?_); intro _ _)
  k_with "compareOp In int bytes" => (k_here; (with_reducible show wpAny _ _ (compareOp CmpOp.In (Value.int _ _) (Value.bytes _ _)) _ _ _); k_dflt (refine b_in rfl (by first | assumption | rfl) ?_))
  k_with "exec Raise some none" => (k_here; k_dflt (refine raise_wf (by assumption) ?_))
  k_with "ktr_unf" => ((refine' enter (by assumption) ?k6 ?k7 ?k9 ?kl ?c2 ?c3 ?c4 ?c5 ?_); (case k6 => k_is); (case k7 => k_is); (case k9 => exact BindsTo.of_eq rfl); (case kl => exact locs rfl); (case c2 => exact rfl); (case c3 => exact rfl); (case c4 => exact rfl); (case c5 => decide); intro A le L h₁ hh B hd hu X T F N; (try (have hHd := hh rfl)); (try k_unmd); (try dsimp only); k_fold)
  k_with "ktr_rel" => ((try dsimp only); (refine ret_end (by assumption) ?_))
  k_with "call ref" => (k_here; (with_reducible show wpAny _ _ (call (Value.ref 59) _) _ _ _); k_dflt (refine wf_make_K (by assumption) (by assumption) (by assumption) (by omega) (by first | exact .inr ⟨_, _, rfl⟩ | exact .inl rfl) ?_); intro h' tk' e' H'; k_dflt (refine leave_new (by assumption) (by assumption) H' rfl ?_))
  k_with "ite" => (k_here; k_dflt (first
    | (refine ite_pos (by first | omega | (simp only [decide_eq_true_eq, beq_iff_eq, bne_iff_ne, ne_eq, Bool.and_eq_true, Bool.or_eq_true, Bool.not_eq_true', decide_eq_false_iff_not, beq_eq_false_iff_ne]; omega) | exact beq_self_eq_true _) ?_; walk_say "PRUNED here")
    | (refine ite_neg (by first | omega | (simp only [decide_eq_true_eq, beq_iff_eq, bne_iff_ne, ne_eq, Bool.and_eq_true, Bool.or_eq_true, Bool.not_eq_true', decide_eq_false_iff_not, beq_eq_false_iff_ne]; omega) | exact beq_self_eq_true _) ?_; walk_say "PRUNED here")))
  k_with "compareOp In int ref" => (k_here; (with_reducible show wpAny _ _ (compareOp CmpOp.In (Value.int _ _) (Value.ref 62)) _ _ _); k_dflt (refine in_nev (by assumption) (by assumption) ?_))
  k_with "exec While Compare" => (k_here; (with_reducible show wpAny _ _ (exec (Stmt.While _ _ _ _) _) _ _ _); (refine hold ?_); walk_say "HELD")
  k_with "exec For" => (k_here; (with_reducible show wpAny _ _ (exec (Stmt.For _ _ _ _ _) _) _ _ _); (refine hold ?_); walk_say "HELD")
  k_with "assign Tuple" => (k_here; (with_reducible show wpAny _ _ (assign (Expr.Tuple _ _ _) _ (Value.ref _)) _ _ _); k_dflt (refine unpackN_ (by k_asm) (by k_asm) (News.isTup (by k_asm) (by k_mem)) (by assumption) rfl rfl ?_); intro h' F' N'; (try k_sweep))
  k_with "call builtin:list.append" => (k_here; (with_reducible show wpAny _ _ (call (Value.builtin _) [Value.ref _, _]) _ _ _); k_dflt (refine' append_K (by k_asm) (by k_asm) (by k_upd) ?_ (by first | size_fits | (rw [sizeLine_eq]; show List.length _ ≤ _; omega)); k_whole); intro h' F' N'; (try simp only [List.push_toArray] at N'); (try k_sweep))
  trivial

section
variable {w : World} {mean : ExcName → Option Value} {mg mb : Str → Option Value} {base : Heap} {s : Shared} {t : Tok} {c : UInt8} {b : Bool}
theorem atom_a (hb : Bas w mean mg mb base) (h : 48 ≤ c.toNat ∧ c.toNat ≤ 57) : Spec w base 69 [.int (c.toNat : Int) t] true 3 50 s (fun v _ => v = .bool true) False := by
  ktr_unf
  k_steps
  all_goals ktr_rel
  all_goals first | rfl | (exact congrArg Value.bool (decide_eq_true (by omega))) | (exact congrArg Value.bool (decide_eq_false (by omega))) | (exact congrArg Value.bool (beq_iff_eq.mpr (by omega)))
theorem atom_b (hb : Bas w mean mg mb base) (h : 65 ≤ c.toNat ∧ c.toNat ≤ 90) : Spec w base 69 [.int (c.toNat : Int) t] true 3 50 s (fun v _ => v = .bool true) False := by
  ktr_unf
  k_steps
  all_goals ktr_rel
  all_goals first | rfl | (exact congrArg Value.bool (decide_eq_true (by omega))) | (exact congrArg Value.bool (decide_eq_false (by omega))) | (exact congrArg Value.bool (beq_iff_eq.mpr (by omega)))
theorem atom_c (hb : Bas w mean mg mb base) (h : 97 ≤ c.toNat ∧ c.toNat ≤ 122) : Spec w base 69 [.int (c.toNat : Int) t] true 3 50 s (fun v _ => v = .bool true) False := by
  ktr_unf
  k_steps
  all_goals ktr_rel
  all_goals first | rfl | (exact congrArg Value.bool (decide_eq_true (by omega))) | (exact congrArg Value.bool (decide_eq_false (by omega))) | (exact congrArg Value.bool (beq_iff_eq.mpr (by omega)))
theorem atom_d (hb : Bas w mean mg mb base) (h : 127 < c.toNat) : Spec w base 69 [.int (c.toNat : Int) t] true 3 50 s (fun v _ => v = .bool true) False := by
  ktr_unf
  k_steps
  all_goals ktr_rel
  all_goals first | rfl | (exact congrArg Value.bool (decide_eq_true (by omega))) | (exact congrArg Value.bool (decide_eq_false (by omega))) | (exact congrArg Value.bool (beq_iff_eq.mpr (by omega)))
theorem atom_e (hb : Bas w mean mg mb base) (h1 : ¬ (48 ≤ c.toNat ∧ c.toNat ≤ 57)) (h2 : ¬ (65 ≤ c.toNat ∧ c.toNat ≤ 90)) (h3 : ¬ (97 ≤ c.toNat ∧ c.toNat ≤ 122)) (h4 : ¬ 127 < c.toNat) (hx : atomSigns.contains c = b) : Spec w base 69 [.int (c.toNat : Int) t] true 3 50 s (fun v _ => v = .bool b) False := by
  ktr_unf
  k_steps
  all_goals ktr_rel
  all_goals first | rfl | (exact congrArg Value.bool (decide_eq_true (by omega))) | (exact congrArg Value.bool (decide_eq_false (by omega))) | (exact congrArg Value.bool (beq_iff_eq.mpr (by omega)))
theorem atom_spec (hb : Bas w mean mg mb base) : Spec w base 69 [.int (c.toNat : Int) t] true 3 50 s (fun v _ => v = .bool (isAtom c)) False := by
  unfold isAtom
  by_cases h1 : 48 ≤ c.toNat ∧ c.toNat ≤ 57
  · rw [if_pos h1]; exact atom_a hb h1
  rw [if_neg h1]
  by_cases h2 : 65 ≤ c.toNat ∧ c.toNat ≤ 90
  · rw [if_pos h2]; exact atom_b hb h2
  rw [if_neg h2]
  by_cases h3 : 97 ≤ c.toNat ∧ c.toNat ≤ 122
  · rw [if_pos h3]; exact atom_c hb h3
  rw [if_neg h3]
  by_cases h4 : 127 < c.toNat
  · rw [if_pos h4]; exact atom_d hb h4
  rw [if_neg h4]
  exact atom_e hb h1 h2 h3 h4 rfl
theorem lrun_a (hb : Bas w mean mg mb base) (h : 48 ≤ c.toNat ∧ c.toNat ≤ 57) : Spec w base 197 [.int (c.toNat : Int) t] true 3 50 s (fun v _ => v = .bool true) False := by
  ktr_unf
  k_steps
  all_goals ktr_rel
  all_goals first | rfl | (exact congrArg Value.bool (decide_eq_true (by omega))) | (exact congrArg Value.bool (decide_eq_false (by omega))) | (exact congrArg Value.bool (beq_iff_eq.mpr (by omega)))
theorem lrun_b (hb : Bas w mean mg mb base) (h : 65 ≤ c.toNat ∧ c.toNat ≤ 90) : Spec w base 197 [.int (c.toNat : Int) t] true 3 50 s (fun v _ => v = .bool true) False := by
  ktr_unf
  k_steps
  all_goals ktr_rel
  all_goals first | rfl | (exact congrArg Value.bool (decide_eq_true (by omega))) | (exact congrArg Value.bool (decide_eq_false (by omega))) | (exact congrArg Value.bool (beq_iff_eq.mpr (by omega)))
theorem lrun_c (hb : Bas w mean mg mb base) (h : 97 ≤ c.toNat ∧ c.toNat ≤ 122) : Spec w base 197 [.int (c.toNat : Int) t] true 3 50 s (fun v _ => v = .bool true) False := by
  ktr_unf
  k_steps
  all_goals ktr_rel
  all_goals first | rfl | (exact congrArg Value.bool (decide_eq_true (by omega))) | (exact congrArg Value.bool (decide_eq_false (by omega))) | (exact congrArg Value.bool (beq_iff_eq.mpr (by omega)))
theorem lrun_e (hb : Bas w mean mg mb base) (h1 : ¬ (48 ≤ c.toNat ∧ c.toNat ≤ 57)) (h2 : ¬ (65 ≤ c.toNat ∧ c.toNat ≤ 90)) (h3 : ¬ (97 ≤ c.toNat ∧ c.toNat ≤ 122)) (hx : runSigns.contains c = b) : Spec w base 197 [.int (c.toNat : Int) t] true 3 50 s (fun v _ => v = .bool b) False := by
  ktr_unf
  k_steps
  all_goals ktr_rel
  all_goals first | rfl | (exact congrArg Value.bool (decide_eq_true (by omega))) | (exact congrArg Value.bool (decide_eq_false (by omega))) | (exact congrArg Value.bool (beq_iff_eq.mpr (by omega)))
theorem lrun_spec (hb : Bas w mean mg mb base) : Spec w base 197 [.int (c.toNat : Int) t] true 3 50 s (fun v _ => v = .bool (isRun c)) False := by
  rw [← lawRun_eq]
  unfold lawRun
  by_cases h1 : 48 ≤ c.toNat ∧ c.toNat ≤ 57
  · rw [if_pos h1]; exact lrun_a hb h1
  rw [if_neg h1]
  by_cases h2 : 65 ≤ c.toNat ∧ c.toNat ≤ 90
  · rw [if_pos h2]; exact lrun_b hb h2
  rw [if_neg h2]
  by_cases h3 : 97 ≤ c.toNat ∧ c.toNat ≤ 122
  · rw [if_pos h3]; exact lrun_c hb h3
  rw [if_neg h3]
  exact lrun_e hb h1 h2 h3 rfl
end
theorem _root_.Mine.rowsX5_2 : True := by
  k_with "call ref" => (k_here; (with_reducible show wpAny _ _ (call (Value.ref 69) _) _ _ _); k_dflt (refine call_spec (atom_spec (by assumption)) (by assumption) (by assumption) (by assumption) (fun q => by cases q) (by omega) (by omega) rfl ?_ (fun x => x.elim)); intro _ _ _ _ _ _ er'; subst er'; (try dsimp only))
  trivial
section
variable {w : World} {mean : ExcName → Option Value} {mg mb : Str → Option Value} {base : Heap} {s : Shared} {t : Tok} {c : UInt8} {b : Bool}
theorem irun_a (hb : Bas w mean mg mb base) (h : ¬ c.toNat < 127) : Spec w base 111 [.int (c.toNat : Int) t] true 6 100 s (fun v _ => v = .bool false) False := by
  ktr_unf
  k_steps
  all_goals ktr_rel
  all_goals first | rfl | (exact congrArg Value.bool (decide_eq_true (by omega))) | (exact congrArg Value.bool (decide_eq_false (by omega))) | (exact congrArg Value.bool (beq_iff_eq.mpr (by omega)))
theorem irun_b (hb : Bas w mean mg mb base) (h : c.toNat = 46) : Spec w base 111 [.int (c.toNat : Int) t] true 6 100 s (fun v _ => v = .bool true) False := by
  ktr_unf
  k_steps
  all_goals ktr_rel
  all_goals first | rfl | (exact congrArg Value.bool (decide_eq_true (by omega))) | (exact congrArg Value.bool (decide_eq_false (by omega))) | (exact congrArg Value.bool (beq_iff_eq.mpr (by omega)))
theorem irun_c (hb : Bas w mean mg mb base) (h : c.toNat < 127) (h : c.toNat ≠ 46) : Spec w base 111 [.int (c.toNat : Int) t] true 6 100 s (fun v _ => v = .bool (isAtom c)) False := by
  ktr_unf
  k_steps
  all_goals ktr_rel
  all_goals first | rfl | (exact congrArg Value.bool (decide_eq_true (by omega))) | (exact congrArg Value.bool (decide_eq_false (by omega))) | (exact congrArg Value.bool (beq_iff_eq.mpr (by omega)))
theorem irun_spec (hb : Bas w mean mg mb base) : Spec w base 111 [.int (c.toNat : Int) t] true 6 100 s (fun v _ => v = .bool (isRun c)) False := by
  unfold isRun
  by_cases h1 : c.toNat < 127
  · rw [if_pos h1]
    by_cases h2 : c.toNat = 46
    · rw [if_pos h2]; exact irun_b hb h2
    · rw [if_neg h2]; exact irun_c hb h1 h2
  · rw [if_neg h1]; exact irun_a hb h1
end
end Mine
end
section
open PySem PySem.W PySem.Spec PySem.Calls PyProof.Rows
namespace Mine
noncomputable abbrev tw (l : List UInt8) (n : Nat) : List UInt8 := (l.drop n).takeWhile isRun
theorem tw_nil {l : List UInt8} {n : Nat} (D : l.drop n = []) : tw l n = [] := by unfold tw; rw [D]; rfl
theorem tw_stop {l r : List UInt8} {n : Nat} {c : UInt8} (D : l.drop n = c :: r) (h : isRun c = false) : tw l n = [] := by unfold tw; rw [D, List.takeWhile_cons, h]; rfl
theorem tw_step {l r : List UInt8} {n : Nat} {c : UInt8} (D : l.drop n = c :: r) (h : isRun c = true) : tw l n = c :: tw l (n + 1) := by unfold tw; rw [drop_succ D, D, List.takeWhile_cons, h]; rfl
theorem tw_len {l : List UInt8} {n : Nat} (h : n ≤ l.length) : n + (tw l n).length ≤ l.length := by
  have h1 : (tw l n).length ≤ (l.drop n).length := (List.takeWhile_sublist _).length_le
  rw [List.length_drop] at h1
  omega
theorem cut_run {l : List UInt8} {n j : Nat} {i i' : Int} (hi : i = Int.ofNat n) (hj : i' = Int.ofNat j) (hn : n ≤ l.length) (h : j = n + (tw l n).length) :
    (l.drop ((some i).elim 0 (clipAt l.length))).take ((some i').elim l.length (clipAt l.length) - (some i).elim 0 (clipAt l.length)) = tw l n := by
  subst hi hj
  show (l.drop (clipAt l.length ((n : Nat) : Int))).take (clipAt l.length ((j : Nat) : Int) - clipAt l.length ((n : Nat) : Int)) = _
  have h2 := tw_len hn
  rw [clipAt_nat, clipAt_nat, Nat.min_eq_left hn, Nat.min_eq_left (by omega), h, show n + (tw l n).length - n = (tw l n).length by omega]
  exact (List.prefix_iff_eq_take.mp (List.takeWhile_prefix _)).symm
end Mine
end
section
open PySem PySem.W PySem.Spec PySem.Calls PyProof.Rows
namespace Mine
theorem fillX6 : (PySem.Challenge.rw_no0368_01, ltop.heap_1) = (PySem.Challenge.rw_no0368_01, ltop.heap_1) := by k_fill; rfl
theorem _root_.Mine.rowsX6_1 : True := by
  k_with_none
  k_with "subscriptTail" => (k_here; (with_reducible show wpAny _ _ (subscriptTail _ _ (Value.bytes _ _) (Value.int _ _)) _ _ _); k_dflt (refine b_item rfl (by assumption) (by assumption) ?_); intro _ _)
  k_with "subscriptTail" => (k_here; (with_reducible show wpAny _ _ (subscriptTail _ (Expr.Slice (some _) (some _) none _) (Value.bytes _ _) (Value.ref _)) _ _ _); (with_reducible rename Fr _ _ _ _ => F'); (with_reducible rename News _ _ _ _ => N'); k_dflt (refine b_slice (s := ⟨_, _, _, _, _⟩) F' N' (by constructor) (by constructor) (by assumption) (by first | exact cut1 rfl rfl (by assumption) | exact cut0 rfl rfl (by assumption) | exact cut2 rfl rfl (by assumption)) ?_); intro _ _ _ _ _)
  k_with "compareOp Eq bytes bytes" => (k_here; (with_reducible show wpAny _ _ (compareOp CmpOp.Eq (Value.bytes _ _) (Value.bytes _ _)) _ _ _); k_dflt (refine b_eq (by first | exact beq_cons_false (by assumption) | exact beq_self_true | exact (rfl : _ = false) | exact (rfl : _ = true)) ?_))
  k_with "compareOp NotEq bytes bytes" => (k_here; (with_reducible show wpAny _ _ (compareOp CmpOp.NotEq (Value.bytes _ _) (Value.bytes _ _)) _ _ _); k_dflt (refine b_ne (by first | exact bne_cons_true (by assumption) | exact bne_self_false | exact (rfl : _ = false) | exact (rfl : _ = true)) ?_))
  k_with "call builtin:len" => (k_here; (with_reducible show wpAny _ _ (call (Value.builtin "len") [Value.bytes _ _]) _ _ _); k_dflt (refine b_len (by assumption) ?_); intro _ _)
  k_with "compareOp In int bytes" => (k_here; (with_reducible show wpAny _ _ (compareOp CmpOp.In (Value.int _ _) (Value.bytes _ _)) _ _ _); k_dflt (refine b_in rfl (by first | assumption | rfl) ?_))
  k_with "exec Raise some none" => (k_here; k_dflt (refine raise_wf (by assumption) ?_))
  k_with "ktr_unf" => ((refine' enter (by assumption) ?k6 ?k7 ?k9 ?kl ?c2 ?c3 ?c4 ?c5 ?_); (case k6 => k_is); (case k7 => k_is); (case k9 => exact BindsTo.of_eq rfl); (case kl => exact locs rfl); (case c2 => exact rfl); (case c3 => exact rfl); (case c4 => exact rfl); (case c5 => decide); intro A le L h₁ hh B hd hu X T F N; (try (have hHd := hh rfl)); (try k_unmd); (try dsimp only); k_fold)
  k_with "ktr_rel" => ((try dsimp only); (refine ret_end (by assumption) ?_))
  k_with "call ref" => (k_here; (with_reducible show wpAny _ _ (call (Value.ref 59) _) _ _ _); k_dflt (refine wf_make_K (by assumption) (by assumption) (by assumption) (by omega) (by first | exact .inr ⟨_, _, rfl⟩ | exact .inl rfl) ?_); intro h' tk' e' H'; k_dflt (refine leave_new (by assumption) (by assumption) H' rfl ?_))
  k_with "ite" => (k_here; k_dflt (first
    | (refine ite_pos (by first | omega | (simp only [decide_eq_true_eq, beq_iff_eq, bne_iff_ne, ne_eq, Bool.and_eq_true, Bool.or_eq_true, Bool.not_eq_true', decide_eq_false_iff_not, beq_eq_false_iff_ne]; omega) | exact beq_self_eq_true _) ?_; walk_say "PRUNED here")
    | (refine ite_neg (by first | omega | (simp only [decide_eq_true_eq, beq_iff_eq, bne_iff_ne, ne_eq, Bool.and_eq_true, Bool.or_eq_true, Bool.not_eq_true', decide_eq_false_iff_not, beq_eq_false_iff_ne]; omega) | exact beq_self_eq_true _) ?_; walk_say "PRUNED here")))
  k_with "compareOp In int ref" => (k_here; (with_reducible show wpAny _ _ (compareOp CmpOp.In (Value.int _ _) (Value.ref 62)) _ _ _); k_dflt (refine in_nev (by assumption) (by assumption) ?_))
  k_with "exec While Compare" => (k_here; (with_reducible show wpAny _ _ (exec (Stmt.While _ _ _ _) _) _ _ _); (refine hold ?_); walk_say "HELD")
  k_with "exec For" => (k_here; (with_reducible show wpAny _ _ (exec (Stmt.For _ _ _ _ _) _) _ _ _); (refine hold ?_); walk_say "HELD")
  k_with "assign Tuple" => (k_here; (with_reducible show wpAny _ _ (assign (Expr.Tuple _ _ _) _ (Value.ref _)) _ _ _); k_dflt (refine unpackN_ (by k_asm) (by k_asm) (News.isTup (by k_asm) (by k_mem)) (by assumption) rfl rfl ?_); intro h' F' N'; (try k_sweep))
  k_with "call builtin:list.append" => (k_here; (with_reducible show wpAny _ _ (call (Value.builtin _) [Value.ref _, _]) _ _ _); k_dflt (refine' append_K (by k_asm) (by k_asm) (by k_upd) ?_ (by first | size_fits | (rw [sizeLine_eq]; show List.length _ ≤ _; omega)); k_whole); intro h' F' N'; (try simp only [List.push_toArray] at N'); (try k_sweep))
  k_with "exec While BoolOp" => (k_here; (with_reducible show wpAny _ _ (exec (Stmt.While _ _ _ _) _) _ _ _); (refine hold ?_); walk_say "HELD")
  k_with "call ref" => (k_here; (with_reducible show wpAny _ _ (call (Value.ref 111) _) _ _ _); k_dflt (refine call_spec (irun_spec (by assumption)) (by assumption) (by assumption) (by assumption) (fun q => by cases q) (by omega) (by omega) rfl ?_ (fun x => x.elim)); intro _ _ _ _ _ _ er'; subst er'; (try dsimp only); (try simp only [*]))
  k_with "subscriptTail" => (k_here; (with_reducible show wpAny _ _ (subscriptTail _ (Expr.Slice (some _) (some _) none _) (Value.bytes _ _) (Value.ref _)) _ _ _); (with_reducible rename Fr _ _ _ _ => F'); (with_reducible rename News _ _ _ _ => N'); k_dflt (refine b_slice (s := ⟨_, _, _, _, _⟩) F' N' (by constructor) (by constructor) (by assumption) (by exact cut_run rfl rfl (by assumption) (by assumption)) ?_); intro _ _ _ _ _)
  trivial
section
variable {w : World} {mean : ExcName → Option Value} {mg mb : Str → Option Value} {base : Heap} {s : Shared} {l r : List UInt8} {td ta tk tb : Tok} {n : Nat} {k : UInt8} {bl : List UInt8}
theorem run_spec (hb : Bas w mean mg mb base) (hz : l.length ≤ 16777216) :
    Spec w base 123 [.bytes l.toArray td, .int (n : Int) ta] false 20 400 s (fun v h' => tw l n ≠ [] ∧ BIRet s (tw l n) (n + (tw l n).length) v h') (tw l n = []) := by
  ktr_unf
  k_steps
  refine unhold ?_
  refine' while_k0 (σ := Nat × Tok) (fun c => [(Str.ofString "end", .int (c.1 : Nat) c.2)]) []
    (fun c => n ≤ c.1 ∧ (c.1 ≤ l.length ∨ c.1 = n) ∧ c.1 + (tw l c.1).length = n + (tw l n).length) (fun c => l.length - c.1) ⟨n, ?tt⟩ (by assumption) ?hk ?hp ?turn
  case hk => exact List.forall_mem_singleton.mpr (by with_unfolding_all rfl)
  case hp => exact ⟨Nat.le_refl _, .inr rfl, rfl⟩
  case turn =>
  rintro ⟨j, t⟩ um h tkk' ⟨hn, hj, hc⟩ F N
  dsimp only at hn hj hc F N
  have stop : tw l j = [] → (j = n → tw l n = []) ∧ (j ≠ n → n ≤ l.length ∧ j = n + (tw l n).length ∧ tw l n ≠ []) := fun e => by
    rw [e] at hc
    have hc : j = n + (tw l n).length := hc
    refine ⟨fun q => List.eq_nil_of_length_eq_zero (by omega), fun q => ⟨by omega, hc, fun z => q (by rw [z] at hc; exact hc)⟩⟩
  cases D : l.drop j with
  | nil =>
    have h1 := drop_nil_le D
    obtain ⟨e1, e2⟩ := stop (tw_nil D)
    by_cases q : j = n
    · subst q
      have e1 := e1 rfl
      clear e2 stop
      k_unmd
      k_fold
      k_steps
      all_goals exact e1
    · obtain ⟨g1, g2, g3⟩ := e2 q
      clear e1 e2 stop
      k_unmd
      k_fold
      k_steps
      all_goals ktr_rel
      all_goals exact ⟨g3, bi_end (by assumption) (by omega)⟩
  | cons c r =>
    have h1 := drop_lt D
    cases hr : isRun c with
    | true =>
      have e := tw_step D hr
      clear stop
      k_unmd
      k_fold
      k_steps
      have hc2 : j + 1 + (tw l (j + 1)).length = n + (tw l n).length := by rw [e, List.length_cons] at hc; omega
      refine wturn_next ⟨j + 1, _⟩ (by assumption) (by assumption) (by kst_in) (by kst_all) (fun z h2 h3 => (if_neg (h2 _ (.head _))).trans (kst1_rest (h2 _ (.head _)) h3)) ⟨Nat.le_succ_of_le hn, .inl h1, hc2⟩ (Nat.sub_lt_sub_left h1 (Nat.lt_succ_self _))
    | false =>
      obtain ⟨e1, e2⟩ := stop (tw_stop D hr)
      by_cases q : j = n
      · subst q
        have e1 := e1 rfl
        clear e2 stop
        k_unmd
        k_fold
        k_steps
        all_goals exact e1
      · obtain ⟨g1, g2, g3⟩ := e2 q
        clear e1 e2 stop
        k_unmd
        k_fold
        k_steps
        all_goals ktr_rel
        all_goals exact ⟨g3, bi_end (by assumption) (by omega)⟩
end
end Mine
end
section
open PySem PySem.W PySem.Spec PySem.Calls PyProof.Rows
namespace Mine
section
variable {prog : Program} {w : World} {A : Around} {E : Value → Shared → Prop} {s : Shared} {env : Env} {g : Heap} {x : Str} {body : List Stmt} {Q : Flow → Shared → Prop}
noncomputable abbrev ofB (c : UInt8) : Int := (c.toNat : Int)
theorem ofB_inj {a b : UInt8} (h : ofB a = ofB b) : a = b := UInt8.toNat_inj.mp (by exact Int.ofNat.inj h)
theorem map_inj : ∀ {a b : List UInt8}, a.map ofB = b.map ofB → a = b
  | [], [], _ => rfl
  | [], _ :: _, h => nomatch h
  | _ :: _, [], h => nomatch h
  | x :: a, y :: b, h => by
    rw [List.map_cons, List.map_cons] at h
    injection h with h1 h2
    rw [ofB_inj h1, map_inj h2]
/-- what a turn of a for must bring, no list grown -/
noncomputable def FTurn (g : Heap) (L : Addr) (x : Str) (stored : List Str) (m₀ : Str → Option Value) (P : List UInt8 → Prop) (pre : List UInt8) (own : List (Addr × Obj)) (s : Shared) (Q : Flow → Shared → Prop) (f : Flow) (s₂ : Shared) : Prop :=
  InvPostN g L (KstS (σ := Unit) (fun _ => []) (fun _ => []) (fun _ => True) x stored m₀ (fun ks _ => ∃ pre, ks = pre.map ofB ∧ P pre) (pre.map ofB)) own [] s Q f s₂
theorem fturn_next {L : Addr} {x : Str} {stored : List Str} {m₀ m' : Str → Option Value} {P : List UInt8 → Prop} {pre : List UInt8} {own : List (Addr × Obj)} {s : Shared} {h' : Heap} {tk : Nat}
    (F : Fr g L h' m') (N : News g L h' own) (hr : ∀ z, z ≠ x → stored.contains z = false → m' z = m₀ z) (hp : P pre) : FTurn g L x stored m₀ P pre own s Q .next { s with heap := h', toks := tk } :=
  kst_end () F N (fun p hp => nomatch hp) (fun p hp => hp) rfl trivial (fun p hp => nomatch hp) (fun z h1 _ h3 => hr z h1 h3) ⟨pre, rfl, hp⟩
theorem bytes_for {l : List UInt8} {tb : Tok} {m₀ : Str → Option Value} (stored : List Str) (P : List UInt8 → Prop) (hh : A.handled = none) (F : Fr g env.locals s.heap m₀) (hp : P [])
    (turn : ∀ (pre post : List UInt8) (c : UInt8) t (u : Str → Option Value) h tk own, l = pre ++ c :: post → P pre →
      Fr g env.locals h (fun y => if y = x then some (.int (c.toNat : Int) t) else if stored.contains y then u y else m₀ y) → News g env.locals h own →
      wpAny (model prog w) A (execs body env) (FTurn g env.locals x stored m₀ P (pre ++ [c]) own { s with heap := h, toks := tk } Q) E { s with heap := h, toks := tk })
    (done : ∀ (u : Str → Option Value) h tk, P l → Fr g env.locals h (fun y => if y = x then u y else if stored.contains y then u y else m₀ y) → News g env.locals h [] → Q .next { s with heap := h, toks := tk }) :
    wpAny (model prog w) A (pyIter (.bytes l.toArray tb)) (fun it s₂ => LoopAtV prog w A g env x body Q E it s₂) E s := by
  refine KStb.kst_bytes (σ := Unit) (fun _ => []) (fun _ => []) (fun _ => True) stored (fun ks _ => ∃ pre, ks = pre.map ofB ∧ P pre) () (ks := l.map ofB) rfl rfl hh F News.nil trivial (fun p hp => nomatch hp) ⟨[], rfl, hp⟩ ?_ ?_
  · intro _ preI postI n t u h tk own e _ _ _ _ _ hp F N
    obtain ⟨pre', rfl, hp⟩ := hp
    obtain ⟨l1, l2, e1, e2, e3⟩ := List.map_eq_append_iff.mp e
    obtain ⟨c, l3, e4, e5, e6⟩ := List.map_eq_cons_iff.mp e3
    have e2 := map_inj e2
    subst e2 e4 e5
    have z := turn l1 l3 c t u h tk own e1 hp F N
    have q : l1.map ofB ++ [(c.toNat : Int)] = (l1 ++ [c]).map ofB := by rw [List.map_append]; rfl
    rw [q]
    exact z
  · intro _ u h tk _ _ hp F N
    obtain ⟨pre, e, hp⟩ := hp
    rw [map_inj e] at done
    exact done u h tk hp F N
end
noncomputable abbrev plain (c : UInt8) : Prop := c.toNat ≤ 126 ∧ (32 ≤ c.toNat ∨ c.toNat = 9)
noncomputable abbrev plainB (c : UInt8) : Bool := decide (plain c)
end Mine
end
section
open PySem PySem.W PySem.Spec PySem.Calls PyProof.Rows
namespace Mine
theorem fillX7 : (PySem.Challenge.rw_no0368_01, ltop.heap_1) = (PySem.Challenge.rw_no0368_01, ltop.heap_1) := by k_fill; rfl
theorem _root_.Mine.rowsX7_1 : True := by
  k_with_none
  k_with "subscriptTail" => (k_here; (with_reducible show wpAny _ _ (subscriptTail _ _ (Value.bytes _ _) (Value.int _ _)) _ _ _); k_dflt (refine b_item rfl (by assumption) (by assumption) ?_); intro _ _)
  k_with "subscriptTail" => (k_here; (with_reducible show wpAny _ _ (subscriptTail _ (Expr.Slice (some _) (some _) none _) (Value.bytes _ _) (Value.ref _)) _ _ _); (with_reducible rename Fr _ _ _ _ => F'); (with_reducible rename News _ _ _ _ => N'); k_dflt (refine b_slice (s := ⟨_, _, _, _, _⟩) F' N' (by constructor) (by constructor) (by assumption) (by first | exact cut1 rfl rfl (by assumption) | exact cut0 rfl rfl (by assumption) | exact cut2 rfl rfl (by assumption)) ?_); intro _ _ _ _ _)
  k_with "compareOp Eq bytes bytes" => (k_here; (with_reducible show wpAny _ _ (compareOp CmpOp.Eq (Value.bytes _ _) (Value.bytes _ _)) _ _ _); k_dflt (refine b_eq (by first | exact beq_cons_false (by assumption) | exact beq_self_true | exact (rfl : _ = false) | exact (rfl : _ = true)) ?_))
  k_with "compareOp NotEq bytes bytes" => (k_here; (with_reducible show wpAny _ _ (compareOp CmpOp.NotEq (Value.bytes _ _) (Value.bytes _ _)) _ _ _); k_dflt (refine b_ne (by first | exact bne_cons_true (by assumption) | exact bne_self_false | exact (rfl : _ = false) | exact (rfl : _ = true)) ?_))
  k_with "call builtin:len" => (k_here; (with_reducible show wpAny _ _ (call (Value.builtin "len") [Value.bytes _ _]) _ _ _); k_dflt (refine b_len (by assumption) ?_); intro _ _)
  k_with "compareOp In int bytes" => (k_here; (with_reducible show wpAny _ _ (compareOp CmpOp.In (Value.int _ _) (Value.bytes _ _)) _ _ _); k_dflt (refine b_in rfl (by first | assumption | rfl) ?_))
  k_with "exec Raise some none" => (k_here; k_dflt (refine raise_wf (by assumption) ?_))
  k_with "ktr_unf" => ((refine' enter (by assumption) ?k6 ?k7 ?k9 ?kl ?c2 ?c3 ?c4 ?c5 ?_); (case k6 => k_is); (case k7 => k_is); (case k9 => exact BindsTo.of_eq rfl); (case kl => exact locs rfl); (case c2 => exact rfl); (case c3 => exact rfl); (case c4 => exact rfl); (case c5 => decide); intro A le L h₁ hh B hd hu X T F N; (try (have hHd := hh rfl)); (try k_unmd); (try dsimp only); k_fold)
  k_with "ktr_rel" => ((try dsimp only); (refine ret_end (by assumption) ?_))
  k_with "call ref" => (k_here; (with_reducible show wpAny _ _ (call (Value.ref 59) _) _ _ _); k_dflt (refine wf_make_K (by assumption) (by assumption) (by assumption) (by omega) (by first | exact .inr ⟨_, _, rfl⟩ | exact .inl rfl) ?_); intro h' tk' e' H'; k_dflt (refine leave_new (by assumption) (by assumption) H' rfl ?_))
  k_with "ite" => (k_here; k_dflt (first
    | (refine ite_pos (by first | omega | (simp only [decide_eq_true_eq, beq_iff_eq, bne_iff_ne, ne_eq, Bool.and_eq_true, Bool.or_eq_true, Bool.not_eq_true', decide_eq_false_iff_not, beq_eq_false_iff_ne]; omega) | exact beq_self_eq_true _) ?_; walk_say "PRUNED here")
    | (refine ite_neg (by first | omega | (simp only [decide_eq_true_eq, beq_iff_eq, bne_iff_ne, ne_eq, Bool.and_eq_true, Bool.or_eq_true, Bool.not_eq_true', decide_eq_false_iff_not, beq_eq_false_iff_ne]; omega) | exact beq_self_eq_true _) ?_; walk_say "PRUNED here")))
  k_with "compareOp In int ref" => (k_here; (with_reducible show wpAny _ _ (compareOp CmpOp.In (Value.int _ _) (Value.ref 62)) _ _ _); k_dflt (refine in_nev (by assumption) (by assumption) ?_))
  k_with "exec While Compare" => (k_here; (with_reducible show wpAny _ _ (exec (Stmt.While _ _ _ _) _) _ _ _); (refine hold ?_); walk_say "HELD")
  k_with "assign Tuple" => (k_here; (with_reducible show wpAny _ _ (assign (Expr.Tuple _ _ _) _ (Value.ref _)) _ _ _); k_dflt (refine unpackN_ (by k_asm) (by k_asm) (News.isTup (by k_asm) (by k_mem)) (by assumption) rfl rfl ?_); intro h' F' N'; (try k_sweep))
  k_with "call builtin:list.append" => (k_here; (with_reducible show wpAny _ _ (call (Value.builtin _) [Value.ref _, _]) _ _ _); k_dflt (refine' append_K (by k_asm) (by k_asm) (by k_upd) ?_ (by first | size_fits | (rw [sizeLine_eq]; show List.length _ ≤ _; omega)); k_whole); intro h' F' N'; (try simp only [List.push_toArray] at N'); (try k_sweep))
  k_with "pyIter bytes" => (k_here; (refine hold ?_); walk_say "HELD")
  trivial
section
variable {w : World} {mean : ExcName → Option Value} {mg mb : Str → Option Value} {base : Heap} {s : Shared} {l r : List UInt8} {td ta tk tb : Tok} {n : Int} {k : UInt8} {bl : List UInt8}
theorem plain_spec (hb : Bas w mean mg mb base) :
    Spec w base 130 [.bytes l.toArray td, .int n ta] false 20 400 s (fun v h' => v = .none ∧ l.all plainB = true) (l.all plainB = false) := by
  ktr_unf
  k_steps
  refine unhold ?_
  refine bytes_for [] (fun pre => pre.all plainB = true) (by assumption) (by assumption) rfl ?_ ?_
  · intro pre post c t u h tk own e hp F N
    dsimp only at F N
    by_cases hc : plain c
    · have hc2 : (pre ++ [c]).all plainB = true := by simp [List.all_append, hp, hc]
      obtain ⟨a1, a2⟩ := id hc
      k_unmd
      k_fold
      k_steps
      all_goals exact fturn_next (by assumption) (by assumption) (fun z h1 h3 => (if_neg h1).trans (by rw [h3]; rfl)) hc2
    · have hc' : ¬ (c.toNat ≤ 126 ∧ (32 ≤ c.toNat ∨ c.toNat = 9)) := hc
      have hx : l.all plainB = false := by rw [e, List.all_append, List.all_cons, show plainB c = false from decide_eq_false hc]; simp
      k_unmd
      k_fold
      k_steps
      all_goals exact hx
  · intro u h tk hp F N
    dsimp only
    refine wpAny_execs_nil ?_
    ktr_rel
    exact ⟨rfl, hp⟩
end
end Mine
end
section
open PySem PySem.W PySem.Spec PySem.Calls PyProof.Rows
namespace Mine
noncomputable def CEnd (g : Heap) (L : Addr) (m : Str → Option Value) (s₁ : Shared) (I : Addr) (oI : Obj) (C : Addr) (oC : Obj) (D : Addr) (ys : List Value) (J : List (Addr × Obj) → Prop) (s₂ : Shared) : Prop :=
  ∃ h' tk news', s₂ = { s₁ with heap := h', toks := tk } ∧ Fr g L h' m ∧ News g L h' ((I, oI) :: (C, oC) :: (D, LCg.lst ys) :: news') ∧ LCg.Off3 I C D news' ∧ J news'
theorem CEnd.intro {g : Heap} {L I C D : Addr} {m : Str → Option Value} {s₁ : Shared} {oI oC : Obj} {ys : List Value} {J : List (Addr × Obj) → Prop} {h' : Heap} {tk : Nat} {all : List (Addr × Obj)}
    (F : Fr g L h' m) (N : News g L h' all) (news' : List (Addr × Obj)) (sub : ∀ p ∈ (I, oI) :: (C, oC) :: (D, LCg.lst ys) :: news', p ∈ all) (off : LCg.Off3 I C D news') (hJ : J news') :
    CEnd g L m s₁ I oI C oC D ys J { s₁ with heap := h', toks := tk } := ⟨h', tk, news', rfl, F, fun p hp => N p (sub p hp), off, hJ⟩
section
variable {prog : Program} {w : World} {A : Around} {E : Value → Shared → Prop} {s : Shared} {g : Heap} {L : Addr} {m : Str → Option Value} {env : Env}
theorem comp_core {elt iter : Expr} {ifs : List Expr} {x : Str} {px : Pos} {scope : Scope} {cl : List (Str × Addr)} {pos : Pos} {s₂ : Shared} {I : Addr} {fp : List Addr} {n : Nat} {P : Nat → Value → Prop} {St : Nat → Heap → Prop} {J : Nat → List Value → List (Addr × Obj) → Prop} {news : List (Addr × Obj)}
    {EC : Addr → Value → Shared → Prop} {RR : Value → Addr → Result → Shared → Prop}
    (W : Walks prog w A I fp [I] n P St) (hsz : n ≤ sizeLine) (hIo : ∀ i h, St i h → ∃ o, h.get? I = some o)
    (hSt : ∀ i i' h h' o nw ys, St i h → h.get? I = some o → h'.get? I = some o → (∀ b o, g.get? b = some o → h'.get? b = some o) → News g L h' nw → J i' ys nw → St i h')
    (hcell : ∀ y ∈ scope.names, y.2 ≠ .cell) (hkind : scope.kind = .function) (hx : scope.names.lookup x = some .local) (hst : St 0 s₂.heap) (hfp : ∀ b ∈ fp, b < s₂.heap.objs.size)
    (F : Fr g L s₂.heap m) (N : News g L s₂.heap news) (hI₀ : g.get? I = none) (off : ∀ p ∈ news, p.1 ≠ I) (hIL : L ≠ I) (h0 : J 0 [] news)
    (turn : ∀ i v ys news I oI C oC D m₂ h tk, i < n → P i v → ys.length ≤ i → J i ys news → LCg.NsObj oC m₂ → m₂ x = some v → Fr g L h m → News g L h ((I, oI) :: (C, oC) :: (D, LCg.lst ys) :: news) → LCg.Off3 I C D news → ((@Ne Nat I C) ∧ (@Ne Nat I D) ∧ (@Ne Nat C D)) → s₂.heap.objs.size ≤ C →
      wpAny (model prog w) A (forIn ifs true fun c r => if r = true then do let ok ← isTrue c (compEnvC scope cl C env) (eval c (compEnvC scope cl C env)); pure (ForInStep.yield ok) else pure (ForInStep.yield r))
        (fun ok s₃ => if ok = true then wpAny (model prog w) A (eval elt (compEnvC scope cl C env)) (fun y s₄ => CEnd g L m { s₂ with heap := h, toks := tk } I oI C oC D ys (fun news' => J (i + 1) (ys ++ [y]) news') s₄) (EC C) s₃
          else CEnd g L m { s₂ with heap := h, toks := tk } I oI C oC D ys (fun news' => J (i + 1) ys news') s₃) (EC C) { s₂ with heap := h, toks := tk })
    (hEC : ∀ D C e s', g.get? C = none → EC C e s' → notedBy (model prog w) A (compEnvC scope cl C env) (fun e s' => RR (.ref D) C (.error e) s') e s')
    (done : ∀ D C h tk m' ys news', Fr g L h m → News g L h ((D, LCg.lst ys) :: news') → LCg.Off1 D news' → h.Ns C m' → g.get? C = none → C ≠ L → C ≠ D → (∀ p ∈ news', p.1 ≠ C) → ys.length ≤ n → J n ys news' → RR (.ref D) C (.ok .next) { s₂ with heap := h, toks := tk }) :
    wpAny (model prog w) A (newList []) (fun acc s₃ => wpAny (model prog w) A (newFunctionEnv scope env.globals cl [] env.qual none .none (some env)) (fun cenv s₄ =>
      codeAny (model prog w) A (.compStart (.ListComp elt [⟨.Name x px, iter, ifs, 0⟩] scope pos) 0 (.ref I) acc { cenv with scope := relabel scope env }) (RR acc cenv.locals) s₄) E s₃) E s₂ := by
  refine wpAny_newObj_type (wpAny_newFunctionEnv hcell (by intro y hy; simp at hy) (fun h₁ nsC sb => ?_) hkind)
  dsimp only at nsC sb ⊢
  generalize hH : s₂.heap.push { cls := .type "list", dict := none, data := .seq ([] : List Value).toArray } = H at nsC sb ⊢
  have szC : H.objs.size = s₂.heap.objs.size + 1 := by rw [← hH, Heap.size_push]
  have up : ∀ b o, s₂.heap.get? b = some o → h₁.get? b = some o := fun b o e => by
    have lt := Heap.lt_size e
    exact sb.extBut b o (fun q => by rw [q, szC] at lt; exact Nat.not_succ_lt_self lt) (Heap.get?_push_of_some _ (hH ▸ Heap.get?_push_of_some _ e))
  have new : ∀ b, s₂.heap.objs.size ≤ b → g.get? b = none := fun b hb => by
    cases e : g.get? b with
    | none => rfl
    | some o => exact absurd (Heap.lt_size (F.keep b o e)) (Nat.not_lt.mpr hb)
  obtain ⟨oI0, heI0⟩ := hIo _ _ hst
  have ltI := Heap.lt_size heI0
  have ltL : L < s₂.heap.objs.size := F.ns.lt
  have nDC : s₂.heap.objs.size ≠ H.objs.size := by rw [szC]; exact Nat.ne_of_lt (Nat.lt_succ_self _)
  have nIC : I ≠ H.objs.size := fun q => by rw [q, szC] at ltI; exact Nat.not_succ_lt_self ltI
  have nID : I ≠ s₂.heap.objs.size := Nat.ne_of_lt ltI
  have nCL : H.objs.size ≠ L := fun q => by rw [← q, szC] at ltL; exact Nat.not_succ_lt_self ltL
  have nDL : s₂.heap.objs.size ≠ L := Ne.symm (Nat.ne_of_lt ltL)
  have gC : g.get? H.objs.size = none := new _ (by rw [szC]; exact Nat.le_succ _)
  have gD : g.get? s₂.heap.objs.size = none := new _ (Nat.le_refl _)
  have fC : H.objs.size ∉ fp := fun q => by have := hfp _ q; rw [szC] at this; exact Nat.not_succ_lt_self this
  have fD : s₂.heap.objs.size ∉ fp := fun q => Nat.lt_irrefl _ (hfp _ q)
  have lst0 : h₁.get? s₂.heap.objs.size = some (LCg.lst []) := sb.extBut _ _ nDC (Heap.get?_push_of_some _ (hH ▸ Heap.get?_push_size _ rfl))
  have key : codeAny (model prog w) A (.compLoop (.ListComp elt [⟨.Name x px, iter, ifs, 0⟩] scope pos) 0 (.ref I) (.ref s₂.heap.objs.size) (compEnvC scope cl H.objs.size env))
      (RR (.ref s₂.heap.objs.size) H.objs.size) { s₂ with heap := h₁, toks := s₂.toks + ([] : List (Str × Value)).length } := by
    refine codeAny_compLoop_tests
      (fun k s' => ∃ h' tk i ys m' news', s' = { s₂ with heap := h', toks := tk } ∧ i ≤ n ∧ k = n + 1 - i ∧ ys.length ≤ i ∧ St i h' ∧ Fr g L h' m ∧ h'.Ns H.objs.size m' ∧ News g L h' ((s₂.heap.objs.size, LCg.lst ys) :: news') ∧ LCg.Off3 I H.objs.size s₂.heap.objs.size news' ∧ J i ys news')
      ?_ (n + 1) ⟨h₁, _, 0, [], _, news, rfl, Nat.zero_le _, rfl, Nat.zero_le _, W.frame _ _ _ hst fun b _ o e => up b o e, F.keeps up, nsC, ?_, ?_, h0⟩
    · rintro k s' ⟨h', tk, i, ys, m', news', rfl, hi, rfl, hl, hs, F', n', N', o', hJ⟩
      rcases Nat.lt_or_ge i n with hlt | hge
      · refine W.item i _ _ _ hlt hs fun v h₂ tk₂ hP hs₂ hk₂ => ?_
        have onlyI : ∀ b, b ≠ I → ∀ o, h'.get? b = some o → h₂.get? b = some o := fun b hb o e => hk₂ b o (fun q => hb (List.mem_singleton.mp q)) e
        refine wpAny_assign_Name (wpAny_storeName_local (lookup_relabel_local hx) (n'.at' fun o e => onlyI _ (Ne.symm nIC) o e) (fun h₃ n₃ s₃ => ?_) (by simp [compEnvC, relabel, hkind]))
        have hs₃ : St (i + 1) h₃ := W.frame _ _ _ hs₂ fun b hb o e => s₃.extBut b o (fun q => fC (by have q' : b = H.objs.size := q; rw [← q']; exact hb)) e
        obtain ⟨oI, eI⟩ := hIo _ _ hs₃
        obtain ⟨oC, eC, hoC⟩ := LCg.ns_obj n₃
        have F₃ : Fr g L h₃ m := (LCg.fr_but F' hk₂ hIL hI₀).change s₃ nCL gC
        have N₃ : News g L h₃ ((I, oI) :: (H.objs.size, oC) :: (s₂.heap.objs.size, LCg.lst ys) :: news') := fun p hp => by
          rcases List.mem_cons.mp hp with rfl | hp
          · exact ⟨eI, Ne.symm hIL, hI₀⟩
          rcases List.mem_cons.mp hp with rfl | hp
          · exact ⟨eC, nCL, gC⟩
          have z := N' p hp
          have off3 : p.1 ≠ I ∧ p.1 ≠ H.objs.size := by
            rcases List.mem_cons.mp hp with rfl | hp
            · exact ⟨Ne.symm nID, nDC⟩
            · exact ⟨(o'.mem p hp).1, (o'.mem p hp).2.1⟩
          exact ⟨s₃.extBut _ _ off3.2 (onlyI _ off3.1 _ z.1), z.2⟩
        have step : ∀ (ys' : List Value) (s₄ : Shared), CEnd g L m { s₂ with heap := h₃, toks := tk₂ + 1 } I oI H.objs.size oC s₂.heap.objs.size ys (fun nw => J (i + 1) ys' nw) s₄ →
            ∃ h₄ tk₄ news₄, s₄ = { s₂ with heap := h₄, toks := tk₄ } ∧ St (i + 1) h₄ ∧ Fr g L h₄ m ∧ h₄.get? H.objs.size = some oC ∧ h₄.get? s₂.heap.objs.size = some (LCg.lst ys) ∧ News g L h₄ news₄ ∧ LCg.Off3 I H.objs.size s₂.heap.objs.size news₄ ∧ J (i + 1) ys' news₄ := by
          rintro ys' s₄ ⟨h₄, tk₄, news₄, rfl, F₄, N₄, o₄, J₄⟩
          have zI := (N₄ (I, oI) (.head _)).1
          have N₄' : News g L h₄ news₄ := fun p hp => N₄ p (.tail _ (.tail _ (.tail _ hp)))
          exact ⟨h₄, tk₄, news₄, rfl, hSt _ _ _ _ _ _ _ hs₃ eI zI F₄.keep N₄' J₄, F₄, (N₄ (H.objs.size, oC) (.tail _ (.head _))).1, (N₄ (s₂.heap.objs.size, LCg.lst ys) (.tail _ (.tail _ (.head _)))).1, N₄', o₄, J₄⟩
        refine wpAny_mono (turn i v ys news' I oI H.objs.size oC s₂.heap.objs.size _ h₃ _ hlt hP hl hJ hoC (by simp) F₃ N₃ o' ⟨nIC, nID, Ne.symm nDC⟩ (by rw [szC]; exact Nat.le_succ _)) (fun ok s₄ h₄ => ?_) fun e s' he => hEC _ _ _ _ gC he
        cases ok with
        | false =>
          obtain ⟨hx₄, tk₄, news₄, rfl, St₄, F₄, eC₄, eD₄, N₄, o₄, J₄⟩ := step ys s₄ h₄
          exact ⟨n + 1 - (i + 1), by omega, hx₄, tk₄, i + 1, ys, _, news₄, rfl, hlt, rfl, Nat.le_succ_of_le hl, St₄, F₄, hoC.ns eC₄, fun p hp => by
            rcases List.mem_cons.mp hp with rfl | hp
            · exact ⟨eD₄, nDL, gD⟩
            · exact N₄ p hp, o₄, J₄⟩
        | true =>
          refine wpAny_mono h₄ (fun y s₅ h₅ => ?_) fun e s' he => hEC _ _ _ _ gC he
          obtain ⟨h₄, tk₄, news₄, rfl, St₄, F₄, eC₄, eD₄, N₄, o₄, J₄⟩ := step (ys ++ [y]) s₅ h₅
          refine append_at (hsz := by show ys.toArray.size ≤ sizeLine; rw [List.size_toArray]; omega) eD₄ fun h₅ s₅ e₅ => ?_
          exact ⟨n + 1 - (i + 1), by omega, h₅, tk₄, i + 1, ys ++ [y], _, news₄, rfl, hlt, rfl, by rw [List.length_append, List.length_singleton]; omega,
            W.frame _ _ _ St₄ fun b hb o e => s₅.extBut b o (fun q => fD (q ▸ hb)) e, F₄.change s₅ nDL gD, (hoC.ns eC₄).sameBut s₅ (Ne.symm nDC), fun p hp => by
            rcases List.mem_cons.mp hp with rfl | hp
            · exact ⟨e₅.trans (congrArg some (LCg.lst_snoc ys y)), nDL, gD⟩
            · exact ⟨s₅.extBut _ _ (o₄.mem p hp).2.2 (N₄ p hp).1, (N₄ p hp).2⟩, o₄, J₄⟩
      · obtain rfl : i = n := Nat.le_antisymm hi hge
        refine W.done _ _ _ hs fun h₂ tk₂ hk₂ => ?_
        exact done _ _ h₂ tk₂ _ ys news' (LCg.fr_but F' hk₂ hIL hI₀) (LCg.news_but N' hk₂ fun p hp => by
          rcases List.mem_cons.mp hp with rfl | hp
          · exact Ne.symm nID
          · exact (o'.mem p hp).1) o'.one (n'.at' fun o e => hk₂ _ o (fun q => nIC (List.mem_singleton.mp q).symm) e) gC nCL (Ne.symm nDC) (fun p hp => (o'.mem p hp).2.1) hl hJ
    · intro p hp
      rcases List.mem_cons.mp hp with rfl | hp
      · exact ⟨lst0, nDL, gD⟩
      · exact ⟨up _ _ (N p hp).1, (N p hp).2⟩
    · exact LCg.Off3.of fun p hp => by
        have lt := Heap.lt_size (N p hp).1
        exact ⟨off p hp, fun q => by rw [q, szC] at lt; exact Nat.not_succ_lt_self lt, Nat.ne_of_lt lt⟩
  exact codeAny_compStart_list key (W.self 0 _ _ _ (W.frame _ _ _ hst fun b _ o e => up b o e) key)
end
end Mine
end
section
open PySem PySem.W PySem.Spec PySem.Calls PyProof.Rows
namespace Mine
noncomputable abbrev ctests (prog : Program) (w : World) (A : Around) (ifs : List Expr) (ce : Env) (Q : Bool → Shared → Prop) (E : Value → Shared → Prop) (s : Shared) : Prop :=
  wpAny (model prog w) A (forIn ifs true fun c r => if r = true then do let ok ← isTrue c ce (eval c ce); pure (ForInStep.yield ok) else pure (ForInStep.yield r)) Q E s
noncomputable abbrev CTurn (prog : Program) (w : World) (A : Around) (ifs : List Expr) (elt : Expr) (ce : Env) (g : Heap) (L : Addr) (m : Str → Option Value) (I : Addr) (oI : Obj) (C : Addr) (oC : Obj) (D : Addr) (ys : List Value) (J : List Value → List (Addr × Obj) → Prop) (E : Value → Shared → Prop) (s : Shared) : Prop :=
  ctests prog w A ifs ce (fun ok s₃ => if ok = true then wpAny (model prog w) A (eval elt ce) (fun y s₄ => CEnd g L m s I oI C oC D ys (fun news' => J (ys ++ [y]) news') s₄) E s₃
    else CEnd g L m s I oI C oC D ys (fun news' => J ys news') s₃) E s
/-- the rest of a comprehension, its source given -/
noncomputable def CompAt (prog : Program) (w : World) (A : Around) (elt iter : Expr) (ifs : List Expr) (x : Str) (px : Pos) (scope : Scope) (cl : List (Str × Addr)) (pos : Pos) (env : Env) (Q : Value → Shared → Prop) (E : Value → Shared → Prop) (xv : Value) (s₁ : Shared) : Prop :=
  wpAny (model prog w) A (pyIter xv) (fun it s₂ => wpAny (model prog w) A (newList []) (fun acc s₃ => wpAny (model prog w) A (newFunctionEnv scope env.globals cl [] env.qual none .none (some env)) (fun cenv s₄ =>
    codeAny (model prog w) A (.compStart (.ListComp elt [⟨.Name x px, iter, ifs, 0⟩] scope pos) 0 it acc { cenv with scope := relabel scope env }) (compPost (model prog w) A E none Q acc cenv.locals) s₄) E s₃) E s₂) E s₁
section
variable {prog : Program} {w : World} {A : Around} {E : Value → Shared → Prop} {s : Shared} {g : Heap} {L : Addr} {m : Str → Option Value} {env : Env} {elt iter : Expr} {ifs : List Expr} {x : Str} {px : Pos} {scope : Scope} {cl : List (Str × Addr)} {pos : Pos} {Q : Value → Shared → Prop}
theorem comp_eval (hclos : closureFor scope env = pure cl) (hkind : scope.kind = .function) (hnames : ∀ y ∈ scope.names, y.2 = .local → scope.names.lookup y.1 = some .local)
    (h : wpAny (model prog w) A (eval iter env) (CompAt prog w A elt iter ifs x px scope cl pos env Q E) E s)
    (hs : ∀ x, foldedSetIterable iter env x = pure x := by intro _; rfl) :
    wpAny (model prog w) A (eval (.ListComp elt [⟨.Name x px, iter, ifs, 0⟩] scope pos) env) Q E s := by
  rw [eval_ListComp]
  exact wpAny_comprehension_free (use := none) rfl hs hclos hkind hnames h
theorem comp_end {D C : Addr} {h : Heap} {tk : Nat} {m' : Str → Option Value} {ys : List Value} {news' : List (Addr × Obj)} (fin : ∀ h' tk', Fr g L h' m → News g L h' ((D, LCg.lst ys) :: news') → LCg.Off1 D news' → Q (.ref D) { s with heap := h', toks := tk' })
    (F : Fr g L h m) (N : News g L h ((D, LCg.lst ys) :: news')) (o : LCg.Off1 D news') (n : h.Ns C m') (gC : g.get? C = none) (hCL : C ≠ L) (hCD : C ≠ D) (off : ∀ p ∈ news', p.1 ≠ C) :
    compPost (model prog w) A E none Q (.ref D) C (.ok .next) { s with heap := h, toks := tk } :=
  ⟨m', n, fun h' s' => fin h' tk (F.change s' hCL gC) (fun p hp => by
    refine ⟨s'.extBut _ _ ?_ (N p hp).1, (N p hp).2⟩
    rcases List.mem_cons.mp hp with rfl | hp
    · exact Ne.symm hCD
    · exact off p hp) o⟩
theorem new_frame {news : List (Addr × Obj)} {o : Obj} (F : Fr g L s.heap m) (N : News g L s.heap news) : Fr g L (s.heap.push o) m ∧ News g L (s.heap.push o) news ∧ g.get? s.heap.objs.size = none ∧ (∀ p ∈ news, p.1 ≠ s.heap.objs.size) ∧ L ≠ s.heap.objs.size :=
  ⟨F.push o, fun p hp => ⟨Heap.get?_push_of_some _ (N p hp).1, (N p hp).2⟩, next_is_new F, fun p hp => Nat.ne_of_lt (Heap.lt_size (N p hp).1), Nat.ne_of_lt F.ns.lt⟩
section
variable {news : List (Addr × Obj)} {EC : Addr → Value → Shared → Prop}
theorem comp_bytes {l : List UInt8} {t : Tok} (J : List UInt8 → List Value → List (Addr × Obj) → Prop) (hh : A.handled = none) (F : Fr g L s.heap m) (N : News g L s.heap news) (hsz : l.length ≤ 16777216)
    (hcell : ∀ y ∈ scope.names, y.2 ≠ .cell) (hkind : scope.kind = .function) (hx : scope.names.lookup x = some .local) (h0 : J [] [] news)
    (turn : ∀ pre post c u ys news I oI C oC D m₂ h tk, l = pre ++ c :: post → J pre ys news → LCg.NsObj oC m₂ → m₂ x = some (.int (c.toNat : Int) u) → Fr g L h m → News g L h ((I, oI) :: (C, oC) :: (D, LCg.lst ys) :: news) → LCg.Off3 I C D news → ((@Ne Nat I C) ∧ (@Ne Nat I D) ∧ (@Ne Nat C D)) →
      CTurn prog w A ifs elt (compEnvC scope cl C env) g L m I oI C oC D ys (J (pre ++ [c])) (EC C) { s with heap := h, toks := tk })
    (hEC : ∀ D C e s', g.get? C = none → EC C e s' → notedBy (model prog w) A (compEnvC scope cl C env) (fun e s' => compPost (model prog w) A E none Q (.ref D) C (.error e) s') e s')
    (fin : ∀ D ys news' h' tk', ys.length ≤ l.length → J l ys news' → Fr g L h' m → News g L h' ((D, LCg.lst ys) :: news') → LCg.Off1 D news' → Q (.ref D) { s with heap := h', toks := tk' }) :
    CompAt prog w A elt iter ifs x px scope cl pos env Q E (.bytes l.toArray t) s := by
  refine KBw.pyIter_bytes ?_
  obtain ⟨F', N', a, b, c⟩ := new_frame (o := { cls := .type "bytes_iterator", data := .fields #[.bytes l.toArray t, .int 0 0] }) F N
  refine comp_core (J := fun i ys nw => J (l.take i) ys nw) (EC := EC) (RR := compPost (model prog w) A E none Q) (s₂ := { s with heap := s.heap.push { cls := .type "bytes_iterator", data := .fields #[.bytes l.toArray t, .int 0 0] } })
    (KBw.walks hh s.heap.objs.size l.toArray t) (by rw [sizeLine_eq]; exact hsz) (fun i h st => let ⟨o, e, _⟩ := st; ⟨o, e⟩) (fun i i' h h' o nw ys st e e' k N J => by obtain ⟨o', q, r⟩ := st; rw [e] at q; cases q; exact ⟨o, e', r⟩)
    hcell hkind hx ⟨_, Heap.get?_push_size _ rfl, rfl, rfl⟩ (fun b hb => by rw [List.mem_singleton.mp hb]; show _ < (s.heap.push _).objs.size; rw [Heap.size_push]; exact Nat.lt_succ_self _) F' N' a b c (by simpa using h0) ?_ hEC ?_
  · intro i v ys nw I oI C oC D m₂ h tk hi hP hl hJ hC hv F N o ne _
    obtain ⟨ch, u, e, rfl⟩ := hP
    have hi : i < l.length := hi
    have e : l[i]? = some ch := by simpa using e
    have et : l.take (i + 1) = l.take i ++ [ch] := by rw [List.take_add_one, e]; rfl
    have el : l = l.take i ++ ch :: l.drop (i + 1) := by
      have := (List.take_append_drop (i + 1) l).symm
      rw [et, List.append_assoc] at this
      exact this
    dsimp only
    rw [et]
    exact turn _ _ ch u ys nw I oI C oC D m₂ h tk el hJ hC hv F N o ne
  · intro D C h tk m' ys nw F N o n gC hCL hCD off hl hJ
    have hJ : J (l.take l.length) ys nw := hJ
    rw [List.take_length] at hJ
    exact comp_end (s := s) (fun h' tk' F N o => fin D ys nw h' tk' hl hJ F N o) F N o n gC hCL hCD off
end
end
end Mine
end
section
open PySem PySem.W PySem.Spec PySem.Calls PyProof.Rows
namespace Mine
section
variable {prog : Program} {w : World} {A : Around} {E : Value → Shared → Prop} {s : Shared}
theorem eq_nil {a b : Addr} {ys : List Value} {Q : Value → Shared → Prop} (hl : s.heap.IsList a ys.toArray) (hb : s.heap.IsList b (List.toArray [])) (hu : A.units < cLine) (h : Q (.bool ys.isEmpty) s) : wpAny (model prog w) A (compareOp .Eq (.ref a) (.ref b)) Q E s := by
  cases ys with
  | nil => exact PySem.SeqAt.eq_listAt (e := fun _ => true) hl hb rfl hu (fun j h1 => absurd h1 (Nat.not_lt_zero _)) h
  | cons y ys => exact PySem.SeqAt.eq_list_lengthsAt hl hb (by simp) hu h
end
end Mine
end
section
open PySem PySem.W PySem.Spec PySem.Calls PyProof.Rows
namespace Mine
theorem fillX8 : (PySem.Challenge.rw_no0368_01, ltop.heap_1) = (PySem.Challenge.rw_no0368_01, ltop.heap_1) := by k_fill; rfl
theorem _root_.Mine.rowsX8_1 : True := by
  k_with_none
  k_with "subscriptTail" => (k_here; (with_reducible show wpAny _ _ (subscriptTail _ _ (Value.bytes _ _) (Value.int _ _)) _ _ _); k_dflt (refine b_item rfl (by assumption) (by assumption) ?_); intro _ _)
  k_with "subscriptTail" => (k_here; (with_reducible show wpAny _ _ (subscriptTail _ (Expr.Slice (some _) (some _) none _) (Value.bytes _ _) (Value.ref _)) _ _ _); (with_reducible rename Fr _ _ _ _ => F'); (with_reducible rename News _ _ _ _ => N'); k_dflt (refine b_slice (s := ⟨_, _, _, _, _⟩) F' N' (by constructor) (by constructor) (by assumption) (by first | exact cut1 rfl rfl (by assumption) | exact cut0 rfl rfl (by assumption) | exact cut2 rfl rfl (by assumption)) ?_); intro _ _ _ _ _)
  k_with "compareOp Eq bytes bytes" => (k_here; (with_reducible show wpAny _ _ (compareOp CmpOp.Eq (Value.bytes _ _) (Value.bytes _ _)) _ _ _); k_dflt (refine b_eq (by first | exact beq_cons_false (by assumption) | exact beq_self_true | exact (rfl : _ = false) | exact (rfl : _ = true)) ?_))
  k_with "compareOp NotEq bytes bytes" => (k_here; (with_reducible show wpAny _ _ (compareOp CmpOp.NotEq (Value.bytes _ _) (Value.bytes _ _)) _ _ _); k_dflt (refine b_ne (by first | exact bne_cons_true (by assumption) | exact bne_self_false | exact (rfl : _ = false) | exact (rfl : _ = true)) ?_))
  k_with "call builtin:len" => (k_here; (with_reducible show wpAny _ _ (call (Value.builtin "len") [Value.bytes _ _]) _ _ _); k_dflt (refine b_len (by assumption) ?_); intro _ _)
  k_with "compareOp In int bytes" => (k_here; (with_reducible show wpAny _ _ (compareOp CmpOp.In (Value.int _ _) (Value.bytes _ _)) _ _ _); k_dflt (refine b_in rfl (by first | assumption | rfl) ?_))
  k_with "exec Raise some none" => (k_here; k_dflt (refine raise_wf (by assumption) ?_))
  k_with "ktr_unf" => ((refine' enter (by assumption) ?k6 ?k7 ?k9 ?kl ?c2 ?c3 ?c4 ?c5 ?_); (case k6 => k_is); (case k7 => k_is); (case k9 => exact BindsTo.of_eq rfl); (case kl => exact locs rfl); (case c2 => exact rfl); (case c3 => exact rfl); (case c4 => exact rfl); (case c5 => decide); intro A le L h₁ hh B hd hu X T F N; (try (have hHd := hh rfl)); (try k_unmd); (try dsimp only); k_fold)
  k_with "ktr_rel" => ((try dsimp only); (refine ret_end (by assumption) ?_))
  k_with "call ref" => (k_here; (with_reducible show wpAny _ _ (call (Value.ref 59) _) _ _ _); k_dflt (refine wf_make_K (by assumption) (by assumption) (by assumption) (by omega) (by first | exact .inr ⟨_, _, rfl⟩ | exact .inl rfl) ?_); intro h' tk' e' H'; k_dflt (refine leave_new (by assumption) (by assumption) H' rfl ?_))
  k_with "ite" => (k_here; k_dflt (first
    | (refine ite_pos (by first | omega | (simp only [decide_eq_true_eq, beq_iff_eq, bne_iff_ne, ne_eq, Bool.and_eq_true, Bool.or_eq_true, Bool.not_eq_true', decide_eq_false_iff_not, beq_eq_false_iff_ne]; omega) | exact beq_self_eq_true _) ?_; walk_say "PRUNED here")
    | (refine ite_neg (by first | omega | (simp only [decide_eq_true_eq, beq_iff_eq, bne_iff_ne, ne_eq, Bool.and_eq_true, Bool.or_eq_true, Bool.not_eq_true', decide_eq_false_iff_not, beq_eq_false_iff_ne]; omega) | exact beq_self_eq_true _) ?_; walk_say "PRUNED here")))
  k_with "compareOp In int ref" => (k_here; (with_reducible show wpAny _ _ (compareOp CmpOp.In (Value.int _ _) (Value.ref 62)) _ _ _); k_dflt (refine in_nev (by assumption) (by assumption) ?_))
  k_with "exec While Compare" => (k_here; (with_reducible show wpAny _ _ (exec (Stmt.While _ _ _ _) _) _ _ _); (refine hold ?_); walk_say "HELD")
  k_with "assign Tuple" => (k_here; (with_reducible show wpAny _ _ (assign (Expr.Tuple _ _ _) _ (Value.ref _)) _ _ _); k_dflt (refine unpackN_ (by k_asm) (by k_asm) (News.isTup (by k_asm) (by k_mem)) (by assumption) rfl rfl ?_); intro h' F' N'; (try k_sweep))
  k_with "call builtin:list.append" => (k_here; (with_reducible show wpAny _ _ (call (Value.builtin _) [Value.ref _, _]) _ _ _); k_dflt (refine' append_K (by k_asm) (by k_asm) (by k_upd) ?_ (by first | size_fits | (rw [sizeLine_eq]; show List.length _ ≤ _; omega)); k_whole); intro h' F' N'; (try simp only [List.push_toArray] at N'); (try k_sweep))
  k_with "pyIter bytes" => (k_here; (refine hold ?_); walk_say "HELD")
  k_with "exec While BoolOp" => (k_here; (with_reducible show wpAny _ _ (exec (Stmt.While _ _ _ _) _) _ _ _); (refine hold ?_); walk_say "HELD")
  k_with "call ref" => (k_here; (with_reducible show wpAny _ _ (call (Value.ref 111) _) _ _ _); k_dflt (refine call_spec (irun_spec (by assumption)) (by assumption) (by assumption) (by assumption) (fun q => by cases q) (by omega) (by omega) rfl ?_ (fun x => x.elim)); intro _ _ _ _ _ _ er'; subst er'; (try dsimp only); (try simp only [*]))
  k_with "eval ListComp" => (k_here; (with_reducible show wpAny _ _ (eval (Expr.ListComp _ _ _ _) _) _ _ _); (refine hold ?_); walk_say "HELD")
  k_with "compareOp Eq ref ref" => (k_here; (with_reducible show wpAny _ _ (compareOp CmpOp.Eq (Value.ref _) (Value.ref _)) _ _ _); k_dflt (refine eq_nil (by is_list) (by is_list) (by show _ + 1 < _; omega) ?_))
  trivial
section
variable {w : World} {mean : ExcName → Option Value} {mg mb : Str → Option Value} {base : Heap} {s : Shared} {l r : List UInt8} {td ta tk tb : Tok} {n : Int} {k : UInt8} {bl : List UInt8}
theorem isrun_spec (hb : Bas w mean mg mb base) (hz : l.length ≤ 16777216) :
    Spec w base 116 [.bytes l.toArray td] false 20 400 s (fun v h' => v = .bool (!l.isEmpty && l.all isRun)) False := by
  cases l with
  | nil =>
    ktr_unf
    k_steps
    all_goals ktr_rel
    all_goals rfl
  | cons c0 l0 =>
  have hpos : 0 < (c0 :: l0).length := Nat.succ_pos _
  generalize (c0 :: l0) = l at *
  have hne : l.isEmpty = false := by cases l with | nil => exact absurd hpos (Nat.lt_irrefl 0) | cons _ _ => rfl
  ktr_unf
  k_steps
  refine unhold ?_
  refine comp_eval (by with_unfolding_all rfl) rfl (by decide) ?_
  k_steps
  refine comp_bytes (fun pre ys news => ys.isEmpty = pre.all isRun) (EC := fun _ _ _ => False) (by assumption) (by assumption) (by assumption) (by assumption) (by decide) rfl rfl rfl ?turn (fun D C e s' h hf => hf.elim) ?fin
  case turn =>
    intro pre post c u ys news I oI C oC D m₂ h tk el hJ hC hv F N o ne
    refine wpAny_tests_one ?_
    cases hr : isRun c with
    | true =>
      k_unmd
      k_fold
      k_steps
      exact CEnd.intro (by assumption) (by assumption) _ (fun p hp => hp) o (by rw [hJ, List.all_append, List.all_cons, hr]; simp)
    | false =>
      k_unmd
      k_fold
      k_steps
      exact CEnd.intro (by assumption) (by assumption) _ (fun p hp => hp) o (by rw [List.all_append, List.all_cons, hr]; simp)
  case fin =>
    intro D ys news h tk hl hJ F N o
    k_unmd
    k_fold
    k_steps
    all_goals ktr_rel
    all_goals (show Value.bool _ = _; rw [hJ, hne]; rfl)
end
end Mine
end
section
open PySem PySem.W PySem.Spec PySem.Calls PyProof.Rows
namespace Mine
theorem closed_suffix (k : UInt8) (bl : List UInt8) : ∀ (l p rest : List UInt8), closed k bl l = some (p, rest) → rest <:+ l := by
  have aux : ∀ (n : Nat) (l p rest : List UInt8), l.length ≤ n → closed k bl l = some (p, rest) → rest <:+ l := by
    intro n
    induction n with
    | zero =>
      intro l p rest h e
      have : l = [] := List.eq_nil_of_length_eq_zero (by omega)
      subst this
      rw [closed.eq_def] at e; cases e
    | succ n ih =>
      intro l p rest h e
      cases l with
      | nil => rw [closed.eq_def] at e; cases e
      | cons c r =>
        rw [closed_cons] at e
        simp only [List.length_cons] at h
        split at e
        · cases e; exact List.suffix_cons _ _
        split at e
        · cases e
        split at e
        · cases r with
          | nil => cases e
          | cons d r =>
            simp only [Option.map_eq_some_iff] at e
            obtain ⟨⟨p', q'⟩, e1, e2⟩ := e
            cases e2
            simp only [List.length_cons] at h
            exact ((ih r _ _ (by omega) e1).trans (List.suffix_cons _ _)).trans (List.suffix_cons _ _)
        · simp only [Option.map_eq_some_iff] at e
          obtain ⟨⟨p', q'⟩, e1, e2⟩ := e
          cases e2
          exact (ih r _ _ (by omega) e1).trans (List.suffix_cons _ _)
  exact fun l p rest h => aux _ l p rest (Nat.le_refl _) h
theorem comment_suffix : ∀ (n d : Nat) (l rest : List UInt8), l.length ≤ n → comment d l = some rest → rest <:+ l := by
  intro n
  induction n with
  | zero =>
    intro d l rest h e
    have : l = [] := List.eq_nil_of_length_eq_zero (by omega)
    subst this
    cases d with
    | zero => rw [comment_zero] at e; cases e; exact List.suffix_refl _
    | succ d => rw [comment_nil] at e; cases e
  | succ n ih =>
    intro d l rest h e
    cases d with
    | zero => rw [comment_zero] at e; cases e; exact List.suffix_refl _
    | succ d =>
      cases l with
      | nil => rw [comment_nil] at e; cases e
      | cons c r =>
        rw [comment_cons] at e
        simp only [List.length_cons] at h
        split at e
        · split at e
          · cases e
          · exact (ih _ _ _ (by omega) e).trans (List.suffix_cons _ _)
        split at e
        · exact (ih _ _ _ (by omega) e).trans (List.suffix_cons _ _)
        split at e
        · cases r with
          | nil => cases e
          | cons d r =>
            simp only [List.length_cons] at h
            exact ((ih _ _ _ (by omega) e).trans (List.suffix_cons _ _)).trans (List.suffix_cons _ _)
        · exact (ih _ _ _ (by omega) e).trans (List.suffix_cons _ _)
theorem suffix_drop {l r rest : List UInt8} {n : Nat} (D : l.drop n = r) (h : rest <:+ r) : l.drop (l.length - rest.length) = rest ∧ l.length - rest.length ≤ l.length := by
  have : rest <:+ l := h.trans (D ▸ List.drop_suffix n l)
  exact ⟨(List.suffix_iff_eq_drop.mp this).symm, Nat.sub_le _ _⟩
noncomputable def runOf (l : List UInt8) : Option (List UInt8 × List UInt8) := if l.takeWhile isRun = [] then none else some (l.takeWhile isRun, l.dropWhile isRun)
theorem tw_drop {l : List UInt8} {n : Nat} (hn : n ≤ l.length) : l.drop (n + (tw l n).length) = (l.drop n).dropWhile isRun := by
  rw [← List.drop_drop]
  have h := List.takeWhile_append_dropWhile (p := isRun) (l := l.drop n)
  have : (tw l n ++ (l.drop n).dropWhile isRun).drop (tw l n).length = (l.drop n).dropWhile isRun := List.drop_left
  rw [show tw l n ++ (l.drop n).dropWhile isRun = l.drop n from h] at this
  exact this
section
variable {w : World} {mean : ExcName → Option Value} {mg mb : Str → Option Value} {base g : Heap} {s : Shared} {l r : List UInt8} {td ta tk tb : Tok} {n j n' : Nat} {k c : UInt8} {bl : List UInt8} {A : Around} {le : List Env} {L a : Addr} {m : Str → Option Value} {news : List (Addr × Obj)} {name : Str} {scope : Scope} {cd : Value} {Q E : Value → Shared → Prop}
theorem call_closed (hb : Bas w mean mg mb base) (hz : l.length ≤ 16777216) (hl : NoBad l) (B : Below A base le g) (F : Fr g L s.heap m) (N : News g L s.heap news) (hh : A.handled = none) (hd : A.depth + 21 < recursionLimit) (hu : A.units + 403 < cLine) (hk : scope.kind = .function)
    (ret : ∀ p rest sp D t1 t2 ep h' tk', closed k bl (l.drop (n + 1)) = some (p, rest) → l.drop sp = rest → sp ≤ l.length → p.length ≤ l.length → Fr g L h' m → News g L h' ((D, tupOf [.bytes p.toArray t1, .int (sp : Nat) t2] ep) :: news) → AllNe D news → Q (.ref D) { s with heap := h', toks := tk' })
    (exn : closed k bl (l.drop (n + 1)) = none → ∀ e h' tk', Raised s.heap (envOf name scope L a cd :: le) e h' → E (.ref e) { s with heap := h', toks := tk' })
    (hp : ∀ p rest, closed k bl (l.drop (n + 1)) = some (p, rest) → p.length ≤ l.length) :
    wpAny (model PySem.Challenge.rw_no0368_01.row.toRowW.prog w) (A.deeper (envOf name scope L a cd)) (call (.ref 90) [.bytes l.toArray td, .int (n : Int) ta, .bytes [k].toArray tk, .bytes bl.toArray tb]) Q E s := by
  refine call_spec (closed_spec hb hz hl) B F N (fun _ => hh) hd hu hk (fun r h' tk' F' N' K hr => ?_) exn
  obtain ⟨p, rest, hi, D, t1, t2, ep, rfl, hD, ho⟩ := hr
  have q := suffix_drop rfl (closed_suffix k bl _ _ _ hi)
  exact ret p rest _ D t1 t2 ep h' tk' hi q.1 q.2 (hp _ _ hi) F' (news_cons' F hD N' ho) (allNe_of (news_ne N hD))
theorem call_run (hb : Bas w mean mg mb base) (hz : l.length ≤ 16777216) (B : Below A base le g) (F : Fr g L s.heap m) (N : News g L s.heap news) (hh : A.handled = none) (hd : A.depth + 21 < recursionLimit) (hu : A.units + 403 < cLine) (hk : scope.kind = .function)
    (ret : ∀ p rest sp D t1 t2 ep h' tk', runOf (l.drop n) = some (p, rest) → l.drop sp = rest → sp ≤ l.length → p.length ≤ l.length → Fr g L h' m → News g L h' ((D, tupOf [.bytes p.toArray t1, .int (sp : Nat) t2] ep) :: news) → AllNe D news → Q (.ref D) { s with heap := h', toks := tk' })
    (exn : runOf (l.drop n) = none → ∀ e h' tk', Raised s.heap (envOf name scope L a cd :: le) e h' → E (.ref e) { s with heap := h', toks := tk' }) :
    wpAny (model PySem.Challenge.rw_no0368_01.row.toRowW.prog w) (A.deeper (envOf name scope L a cd)) (call (.ref 123) [.bytes l.toArray td, .int (n : Int) ta]) Q E s := by
  refine call_spec (run_spec hb hz) B F N (fun _ => hh) hd hu hk (fun r h' tk' F' N' K hr => ?_) fun h => exn (by unfold runOf; rw [if_pos h])
  obtain ⟨hne, D, t1, t2, ep, rfl, hD, ho⟩ := hr
  have hn : n ≤ l.length := by
    rcases Nat.lt_or_ge l.length n with h | h
    · exact absurd (tw_nil (List.drop_eq_nil_of_le (Nat.le_of_lt h))) hne
    · exact h
  have hlen := tw_len hn
  exact ret _ _ _ D t1 t2 ep h' tk' (by unfold runOf; rw [if_neg hne]) (tw_drop hn) hlen (by omega) F' (news_cons' F hD N' ho) (allNe_of (news_ne N hD))
end
noncomputable def sideL : List UInt8 → Option (List UInt8 × List UInt8)
  | [] => none
  | c :: r => if c = 34 then closed 34 [] r else runOf (c :: r)
noncomputable def sideR : List UInt8 → Option (List UInt8 × List UInt8)
  | [] => none
  | c :: r => if c = 91 then (closed 93 [91] r).map (fun p => (91 :: p.1 ++ [93], p.2)) else runOf (c :: r)
noncomputable def idEnd (p q : List UInt8) : List UInt8 → Option (List UInt8 × List UInt8)
  | [] => none
  | d :: r => if d = 62 then (if (p ++ q).all plainB then some (p ++ 64 :: q, r) else none) else none
noncomputable def idMid (p : List UInt8) : List UInt8 → Option (List UInt8 × List UInt8)
  | [] => none
  | c :: r => if c = 64 then (sideR r).bind fun q => idEnd p q.1 q.2 else none
noncomputable def idOf (l : List UInt8) : Option (List UInt8 × List UInt8) := (sideL l).bind fun p => idMid p.1 p.2
theorem closed_length (k : UInt8) (bl : List UInt8) : ∀ (n : Nat) (l p rest : List UInt8), l.length ≤ n → closed k bl l = some (p, rest) → p.length + rest.length + 1 ≤ l.length := by
  intro n
  induction n with
  | zero =>
    intro l p rest h e
    have : l = [] := List.eq_nil_of_length_eq_zero (by omega)
    subst this
    rw [closed.eq_def] at e; cases e
  | succ n ih =>
    intro l p rest h e
    cases l with
    | nil => rw [closed.eq_def] at e; cases e
    | cons c r =>
      rw [closed_cons] at e
      simp only [List.length_cons] at h ⊢
      split at e
      · cases e; simp
      split at e
      · cases e
      split at e
      · cases r with
        | nil => cases e
        | cons d r =>
          simp only [Option.map_eq_some_iff] at e
          obtain ⟨⟨p', q'⟩, e1, e2⟩ := e
          cases e2
          simp only [List.length_cons] at h ⊢
          have := ih r _ _ (by omega) e1
          omega
      · simp only [Option.map_eq_some_iff] at e
        obtain ⟨⟨p', q'⟩, e1, e2⟩ := e
        cases e2
        have := ih r _ _ (by omega) e1
        simp only [List.length_cons]
        omega
theorem closed_len {l p rest bl : List UInt8} {k : UInt8} {n : Nat} (h : closed k bl (l.drop n) = some (p, rest)) : p.length ≤ l.length := by
  have := closed_length k bl _ _ _ _ (Nat.le_refl _) h
  rw [List.length_drop] at this
  omega
end Mine
end
section
open PySem PySem.W PySem.Spec PySem.Calls PyProof.Rows
namespace Mine
noncomputable def strB (bs : List UInt8) : Str := ⟨(bs.map UInt8.toNat).toArray⟩
noncomputable def IdRet (s : Shared) (p : List UInt8) (n' : Nat) (v : Value) (h' : Heap) : Prop := ∃ D t1 t2 k, v = .ref D ∧ s.heap.get? D = none ∧ h'.get? D = some (tupOf [.str (strB p) t1, .int (n' : Nat) t2] k)
theorem id_end {s : Shared} {D L : Addr} {h' : Heap} {t1 t2 : Tok} {n : Nat} {x : Int} {news : List (Addr × Obj)} {b : List UInt8} {k : Nat} (N : News s.heap L h' ((D, tupOf [.str (strB b) t1, .int x t2] k) :: news)) (hx : x = (n : Nat)) : IdRet s b n (.ref D) h' := by
  subst hx
  have z := N _ (.head _)
  exact ⟨D, t1, t2, k, rfl, z.2.2, z.1⟩
noncomputable def MidS (l : List UInt8) (g : Heap) (L : Addr) (m₀ : Str → Option Value) (s0 : Shared) (a b : Str) (side : Option (List UInt8 × List UInt8)) (f : Flow) (s' : Shared) : Prop :=
  ∃ p rest sp t1 t2 h' tk, f = .next ∧ s' = { s0 with heap := h', toks := tk } ∧ side = some (p, rest) ∧ l.drop sp = rest ∧ sp ≤ l.length ∧ p.length ≤ l.length + 2 ∧ Fr g L h' (fun y => if y = b then some (.int (sp : Nat) t2) else if y = a then some (.bytes p.toArray t1) else m₀ y)
theorem mid_cut {M : Model} {A : Around} {c : Sem Flow} {Q : Flow → Shared → Prop} {E : Value → Shared → Prop} {s0 : Shared} {l : List UInt8} {g : Heap} {L : Addr} {m₀ : Str → Option Value} (a b : Str) (side : Option (List UInt8 × List UInt8)) (F : Fr g L s0.heap m₀)
    (h : wpAny M A c (MidS l g L m₀ s0 a b side) E s0)
    (k : ∀ p rest sp t1 t2 h' tk, side = some (p, rest) → l.drop sp = rest → sp ≤ l.length → p.length ≤ l.length + 2 → Fr g L h' (fun y => if y = b then some (.int (sp : Nat) t2) else if y = a then some (.bytes p.toArray t1) else m₀ y) → News g L h' [] → Q .next { s0 with heap := h', toks := tk }) :
    wpAny M A c Q E s0 := by
  refine wpAny_mono h (fun f s' hq => ?_) fun _ _ h => h
  obtain ⟨p, rest, sp, t1, t2, h', tk, rfl, rfl, h1, h2, h3, h4, F'⟩ := hq
  exact k p rest sp t1 t2 h' tk h1 h2 h3 h4 F' News.nil
theorem mid_end {l : List UInt8} {g : Heap} {L : Addr} {m₀ m' : Str → Option Value} {s0 : Shared} {a b : Str} {side : Option (List UInt8 × List UInt8)} {p rest : List UInt8} {sp : Nat} {t1 t2 : Tok} {h' : Heap} {tk : Nat}
    (F : Fr g L h' m') (h1 : side = some (p, rest)) (h2 : l.drop sp = rest) (h3 : sp ≤ l.length) (h4 : p.length ≤ l.length + 2) (e : m' = fun y => if y = b then some (.int (sp : Nat) t2) else if y = a then some (.bytes p.toArray t1) else m₀ y) : MidS l g L m₀ s0 a b side .next { s0 with heap := h', toks := tk } :=
  ⟨p, rest, sp, t1, t2, h', tk, rfl, rfl, h1, h2, h3, h4, e ▸ F⟩
theorem map_swap {a b : Str} {v v' u : Option Value} {m : Str → Option Value} (h : a ≠ b) : (fun y => if y = a then v else if y = b then v' else if y = a then u else m y) = fun y => if y = b then v' else if y = a then v else m y := by
  funext y
  by_cases h1 : y = a
  · subst h1; simp [h]
  · simp [h1]
noncomputable def Go : Prop := True
theorem go : Go := trivial
theorem idOf_l {l : List UInt8} (h : sideL l = none) : idOf l = none := by unfold idOf; rw [h]; rfl
theorem idOf_m {l p r : List UInt8} (h : sideL l = some (p, r)) (h2 : idMid p r = none) : idOf l = none := by unfold idOf; rw [h]; exact h2
theorem idMid_c {p r : List UInt8} {c : UInt8} (h : c ≠ 64) : idMid p (c :: r) = none := by unfold idMid; dsimp only; rw [if_neg h]
theorem idMid_r {p r : List UInt8} (h : sideR r = none) : idMid p (64 :: r) = none := by unfold idMid; dsimp only; rw [if_pos rfl, h]; rfl
theorem idMid_e {p r q r2 : List UInt8} (h : sideR r = some (q, r2)) : idMid p (64 :: r) = idEnd p q r2 := by unfold idMid; dsimp only; rw [if_pos rfl, h]; rfl
theorem idEnd_c {p q r : List UInt8} {c : UInt8} (h : c ≠ 62) : idEnd p q (c :: r) = none := by unfold idEnd; dsimp only; rw [if_neg h]
theorem idEnd_p {p q r : List UInt8} (h : (p ++ q).all plainB = false) : idEnd p q (62 :: r) = none := by unfold idEnd; dsimp only; rw [if_pos rfl, h]; rfl
theorem idEnd_s {p q r : List UInt8} (h : (p ++ q).all plainB = true) : idEnd p q (62 :: r) = some (p ++ 64 :: q, r) := by unfold idEnd; dsimp only; rw [if_pos rfl, h]; rfl
theorem b_add {prog : Program} {w : World} {A : Around} {E : Value → Shared → Prop} {s : Shared} {a b : List UInt8} {t u : Tok} {Q : Value → Shared → Prop} (hsz : a.length + b.length ≤ 16777216) (h : ∀ t' k, Q (.bytes (a ++ b).toArray t') { s with toks := k }) :
    wpAny (model prog w) A (binaryOp .Add (.bytes a.toArray t) (.bytes b.toArray u)) Q E s :=
  KBy.add_bytes (by rw [List.size_toArray, List.size_toArray]; exact hsz) fun t' k => by rw [List.append_toArray]; exact h t' k
noncomputable def chB (c : UInt8) : Str := ⟨#[c.toNat]⟩
theorem StrsAre.snoc {vs : List Value} {ys : List Str} {y : Str} {t : Tok} (h : StrsAre vs ys) : StrsAre (vs ++ [.str y t]) (ys ++ [y]) := by
  induction h with
  | nil => exact .cons _ _ .nil
  | cons y t _ ih => exact .cons _ _ ih
theorem join_chB : ∀ cs : List UInt8, Str.join ⟨#[]⟩ (cs.map chB) = strB cs
  | [] => rfl
  | c :: r => by
    rw [List.map_cons, join_nil_cons, join_chB r]
    show (⟨#[c.toNat] ++ (r.map UInt8.toNat).toArray⟩ : Str) = ⟨((c :: r).map UInt8.toNat).toArray⟩
    rw [List.map_cons]
    simp
theorem sum_chB : ∀ cs : List UInt8, ((cs.map chB).map (·.length)).sum = cs.length
  | [] => rfl
  | c :: r => by
    rw [List.map_cons, List.map_cons, List.sum_cons, sum_chB r, List.length_cons]
    show 1 + r.length = _
    omega
theorem join_chars {prog : Program} {w : World} {A : Around} {E : Value → Shared → Prop} {s : Shared} {D : Addr} {ys : List Value} {cs : List UInt8} {x : Str} {t : Tok} {Q : Value → Shared → Prop} (hl : s.heap.IsList D ys.toArray) (hi : StrsAre ys (cs.map chB)) (hx : x = ⟨#[]⟩) (hsz : cs.length ≤ 200000)
    (h : ∀ t' k, Q (.str (strB cs) t') { s with toks := k }) : wpAny (model prog w) A (call (.builtin "str.join") [.str x t, .ref D]) Q E s := by
  subst hx
  refine join_listC hl hi (by show 0 ≤ 64; omega) (by rw [sum_chB, List.length_map]; omega) fun t' k => ?_
  have e : Txt.join ⟨#[]⟩ (cs.map chB) = strB cs := (eq_of_beq (join_plain_closes _ _)).trans (join_chB cs)
  rw [e]
  exact h t' k
theorem chr_b {prog : Program} {w : World} {A : Around} {E : Value → Shared → Prop} {s : Shared} {c : UInt8} {t : Tok} {Q : Value → Shared → Prop} (h : Q (.str (chB c) s.toks) { s with toks := s.toks + 1 }) :
    wpAny (model prog w) A (call (.builtin "chr") [.int (c.toNat : Int) t]) Q E s :=
  chr_of_range (by omega) (by have := c.toNat_lt; omega) h
theorem ofs_empty : Str.ofString "" = ⟨#[]⟩ := by decide +kernel
end Mine
end
section
open PySem PySem.W PySem.Spec PySem.Calls PyProof.Rows
namespace Mine
theorem fillX9 : (PySem.Challenge.rw_no0368_01, ltop.heap_1) = (PySem.Challenge.rw_no0368_01, ltop.heap_1) := by k_fill; rfl
theorem take1_eq {l sg : List UInt8} {c : UInt8} (h : sg = l.take 1) (e : (sg == [c]) = true) : ∃ r, l = c :: r := by
  rw [beq_iff_eq, h] at e
  cases l with
  | nil => cases e
  | cons a r => exact ⟨r, by rw [(List.cons.inj e).1]⟩
theorem take1_ne {l sg : List UInt8} {c : UInt8} (h : sg = l.take 1) (e : (sg == [c]) = false) (r : List UInt8) : l ≠ c :: r := fun q => by
  rw [h, q] at e
  exact absurd e (by simp)
theorem sideL_n {l : List UInt8} (h : ∀ r, l ≠ 34 :: r) : sideL l = runOf l := by
  cases l with
  | nil => rfl
  | cons c r => unfold sideL; dsimp only; rw [if_neg (fun e => h r (by rw [e]))]
theorem sideR_n {l : List UInt8} (h : ∀ r, l ≠ 91 :: r) : sideR l = runOf l := by
  cases l with
  | nil => rfl
  | cons c r => unfold sideR; dsimp only; rw [if_neg (fun e => h r (by rw [e]))]
theorem idMid_n {p r : List UInt8} (h : ∀ x, r ≠ 64 :: x) : idMid p r = none := by
  cases r with
  | nil => rfl
  | cons c r => exact idMid_c fun e => h r (by rw [e])
theorem idEnd_n {p q r : List UInt8} (h : ∀ x, r ≠ 62 :: x) : idEnd p q r = none := by
  cases r with
  | nil => rfl
  | cons c r => exact idEnd_c fun e => h r (by rw [e])
theorem _root_.Mine.rowsX9_1 : True := by
  k_with_none
  k_with "subscriptTail" => (k_here; (with_reducible show wpAny _ _ (subscriptTail _ _ (Value.bytes _ _) (Value.int _ _)) _ _ _); k_dflt (refine b_item rfl (by assumption) (by assumption) ?_); intro _ _)
  k_with "subscriptTail" => (k_here; (with_reducible show wpAny _ _ (subscriptTail _ (Expr.Slice (some _) (some _) none _) (Value.bytes _ _) (Value.ref _)) _ _ _); (with_reducible rename Fr _ _ _ _ => F'); (with_reducible rename News _ _ _ _ => N'); k_dflt (refine b_slice (s := ⟨_, _, _, _, _⟩) F' N' (by constructor) (by constructor) (by assumption) (by first | exact cut1 rfl rfl (by assumption) | exact cut0 rfl rfl (by assumption) | exact cut2 rfl rfl (by assumption)) ?_); intro _ _ _ _ _)
  k_with "compareOp Eq bytes bytes" => (k_here; (with_reducible show wpAny _ _ (compareOp CmpOp.Eq (Value.bytes _ _) (Value.bytes _ _)) _ _ _); k_dflt (refine b_eq (by first | exact beq_cons_false (by assumption) | exact beq_self_true | exact (rfl : _ = false) | exact (rfl : _ = true)) ?_))
  k_with "compareOp NotEq bytes bytes" => (k_here; (with_reducible show wpAny _ _ (compareOp CmpOp.NotEq (Value.bytes _ _) (Value.bytes _ _)) _ _ _); k_dflt (refine b_ne (by first | exact bne_cons_true (by assumption) | exact bne_self_false | exact (rfl : _ = false) | exact (rfl : _ = true)) ?_))
  k_with "call builtin:len" => (k_here; (with_reducible show wpAny _ _ (call (Value.builtin "len") [Value.bytes _ _]) _ _ _); k_dflt (refine b_len (by assumption) ?_); intro _ _)
  k_with "compareOp In int bytes" => (k_here; (with_reducible show wpAny _ _ (compareOp CmpOp.In (Value.int _ _) (Value.bytes _ _)) _ _ _); k_dflt (refine b_in rfl (by first | assumption | rfl) ?_))
  k_with "exec Raise some none" => (k_here; k_dflt (refine raise_wf (by assumption) ?_))
  k_with "ktr_unf" => ((refine' enter (by assumption) ?k6 ?k7 ?k9 ?kl ?c2 ?c3 ?c4 ?c5 ?_); (case k6 => k_is); (case k7 => k_is); (case k9 => exact BindsTo.of_eq rfl); (case kl => exact locs rfl); (case c2 => exact rfl); (case c3 => exact rfl); (case c4 => exact rfl); (case c5 => decide); intro A le L h₁ hh B hd hu X T F N; (try (have hHd := hh rfl)); (try k_unmd); (try dsimp only); k_fold)
  k_with "ktr_rel" => ((try dsimp only); (refine ret_end (by assumption) ?_))
  k_with "call ref" => (k_here; (with_reducible show wpAny _ _ (call (Value.ref 59) _) _ _ _); k_dflt (refine wf_make_K (by assumption) (by assumption) (by assumption) (by omega) (by first | exact .inr ⟨_, _, rfl⟩ | exact .inl rfl) ?_); intro h' tk' e' H'; k_dflt (refine leave_new (by assumption) (by assumption) H' rfl ?_))
  k_with "ite" => (k_here; k_dflt (first
    | (refine ite_pos (by first | omega | (simp only [decide_eq_true_eq, beq_iff_eq, bne_iff_ne, ne_eq, Bool.and_eq_true, Bool.or_eq_true, Bool.not_eq_true', decide_eq_false_iff_not, beq_eq_false_iff_ne]; omega) | exact beq_self_eq_true _) ?_; walk_say "PRUNED here")
    | (refine ite_neg (by first | omega | (simp only [decide_eq_true_eq, beq_iff_eq, bne_iff_ne, ne_eq, Bool.and_eq_true, Bool.or_eq_true, Bool.not_eq_true', decide_eq_false_iff_not, beq_eq_false_iff_ne]; omega) | exact beq_self_eq_true _) ?_; walk_say "PRUNED here")))
  k_with "compareOp In int ref" => (k_here; (with_reducible show wpAny _ _ (compareOp CmpOp.In (Value.int _ _) (Value.ref 62)) _ _ _); k_dflt (refine in_nev (by assumption) (by assumption) ?_))
  k_with "exec While Compare" => (k_here; (with_reducible show wpAny _ _ (exec (Stmt.While _ _ _ _) _) _ _ _); (refine hold ?_); walk_say "HELD")
  k_with "assign Tuple" => (k_here; (with_reducible show wpAny _ _ (assign (Expr.Tuple _ _ _) _ (Value.ref _)) _ _ _); k_dflt (refine unpackN_ (by k_asm) (by k_asm) (News.isTup (by k_asm) (by k_mem)) (by assumption) rfl rfl ?_); intro h' F' N'; (try k_sweep))
  k_with "call builtin:list.append" => (k_here; (with_reducible show wpAny _ _ (call (Value.builtin _) [Value.ref _, _]) _ _ _); k_dflt (refine' append_K (by k_asm) (by k_asm) (by k_upd) ?_ (by first | size_fits | (rw [sizeLine_eq]; show List.length _ ≤ _; omega)); k_whole); intro h' F' N'; (try simp only [List.push_toArray] at N'); (try k_sweep))
  k_with "pyIter bytes" => (k_here; (refine hold ?_); walk_say "HELD")
  k_with "eval ListComp" => (k_here; (with_reducible show wpAny _ _ (eval (Expr.ListComp _ _ _ _) _) _ _ _); (refine hold ?_); walk_say "HELD")
  k_with "exec If" => (k_here; (fail_if_success (with_reducible rename Go => hGo9)); (with_reducible show wpAny _ _ (exec (Stmt.If _ _ (_ :: _) _) _) _ _ _); (refine hold ?_); walk_say "HELD")
  k_with "call ref" => (k_here; (with_reducible show wpAny _ _ (call (Value.ref 90) _) _ _ _); k_dflt (refine call_closed (by assumption) (by assumption) (by assumption) (by assumption) (by assumption) (by assumption) (by assumption) (by omega) (by omega) rfl ?_ ?_ (fun _ _ h => closed_len h)); (case' refine_1 => intro p' rest' sp' D' _ _ _ _ _ hC' hD' hsp' hpl' _ _ ne'; (try simp only [AllNe, and_true] at ne')); (case' refine_2 => intro hC' _ _ _ R'; (refine leave_pass (by assumption) (by assumption) R' rfl ?_)))
  k_with "call ref" => (k_here; (with_reducible show wpAny _ _ (call (Value.ref 123) _) _ _ _); k_dflt (refine call_run (by assumption) (by assumption) (by assumption) (by assumption) (by assumption) (by assumption) (by omega) (by omega) rfl ?_ ?_); (case' refine_1 => intro p' rest' sp' D' _ _ _ _ _ hC' hD' hsp' hpl' _ _ ne'; (try simp only [AllNe, and_true] at ne')); (case' refine_2 => intro hC' _ _ _ R'; (refine leave_pass (by assumption) (by assumption) R' rfl ?_)))
  k_with "binaryOp Add bytes bytes" => (k_here; (with_reducible show wpAny _ _ (binaryOp Operator.Add (Value.bytes _ _) (Value.bytes _ _)) _ _ _); k_dflt (refine b_add (by first | omega | (simp only [List.length_append, List.length_cons, List.length_nil]; omega)) ?_); intro _ _)
  k_with "call ref" => (k_here; (with_reducible show wpAny _ _ (call (Value.ref 130) _) _ _ _); k_dflt (refine call_spec (plain_spec (by assumption)) (by assumption) (by assumption) (by assumption) (fun _ => by assumption) (by omega) (by omega) rfl ?_ ?_); (case' refine_1 => intro _ _ _ _ _ _ er'; obtain ⟨er', hP'⟩ := er'; subst er'; (try dsimp only)); (case' refine_2 => intro hP' _ _ _ R'; (refine leave_pass (by assumption) (by assumption) R' rfl ?_)))
  k_with "call builtin:chr" => (k_here; (with_reducible show wpAny _ _ (call (Value.builtin _) [Value.int _ _]) _ _ _); k_dflt (refine chr_b ?_))
  k_with "call builtin:str.join" => (k_here; (with_reducible show wpAny _ _ (call (Value.builtin _) [Value.str _ _, Value.ref _]) _ _ _); k_dflt (refine join_chars (by is_list) (by assumption) ofs_empty (by first | omega | (simp only [List.length_append, List.length_cons, List.length_nil]; omega)) ?_); intro _ _)
  k_with "subscriptTail" => (k_here; (with_reducible show wpAny _ _ (subscriptTail _ (Expr.Slice (some _) (some _) none _) (Value.bytes _ _) (Value.ref _)) _ _ _); (with_reducible rename Fr _ _ _ _ => F'); (with_reducible rename News _ _ _ _ => N'); k_dflt (refine b_slice (s := ⟨_, _, _, _, _⟩) F' N' (by constructor) (by constructor) (by assumption) (by exact cutX rfl rfl (by assumption)) ?_); intro _ _ _ _ _)
  k_with "compareOp Eq bytes bytes" => (k_here; (with_reducible show wpAny _ _ (compareOp CmpOp.Eq (Value.bytes _ _) (Value.bytes _ _)) _ _ _); k_dflt (refine b_eq (by assumption) ?_))
  k_with "compareOp NotEq bytes bytes" => (k_here; (with_reducible show wpAny _ _ (compareOp CmpOp.NotEq (Value.bytes _ _) (Value.bytes _ _)) _ _ _); k_dflt (refine b_ne (by assumption) ?_))
  trivial
section
variable {w : World} {mean : ExcName → Option Value} {mg mb : Str → Option Value} {base : Heap} {s : Shared} {l r : List UInt8} {td ta tk tb : Tok} {n : Nat} {k : UInt8} {bl : List UInt8}
theorem id_spec (hb : Bas w mean mg mb base) (hz : l.length ≤ 65536) (hl : NoBad l) :
    Spec w base 135 [.bytes l.toArray td, .int (n : Int) ta] false 50 900 s (fun v h' => ∃ p rest, idOf (l.drop (n + 1)) = some (p, rest) ∧ IdRet s p (l.length - rest.length) v h') (idOf (l.drop (n + 1)) = none) := by
  have hz : l.length ≤ 16777216 := by omega
  ktr_unf
  k_steps
  refine unhold ?_
  refine mid_cut (l := l) (Str.ofString "left") (Str.ofString "spot") (sideL (l.drop (n + 1))) (by assumption) ?mid ?rest
  case mid =>
    have hgo := go
    obtain ⟨sg, hsg⟩ : ∃ sg, sg = (l.drop (n + 1)).take 1 := ⟨_, rfl⟩
    cases hq : (sg == [34]) with
    | false =>
      have hs : ∀ x, runOf (l.drop (n + 1)) = x → sideL (l.drop (n + 1)) = x := fun x h => by rw [sideL_n (take1_ne hsg hq)]; exact h
      k_unmd
      k_fold
      k_steps
      all_goals first | exact idOf_l (hs _ (by assumption)) | exact mid_end (by assumption) (hs _ (by assumption)) (by assumption) (by assumption) (by omega) rfl
    | true =>
      obtain ⟨r, D⟩ := take1_eq hsg hq
      have h1 := drop_lt D
      have hs : ∀ x, closed 34 [] (l.drop (n + 1 + 1)) = x → sideL (l.drop (n + 1)) = x := fun x h => by rw [D]; rw [drop_succ D] at h; exact h
      clear D
      k_unmd
      k_fold
      k_steps
      all_goals first | exact idOf_l (hs _ (by assumption)) | exact mid_end (by assumption) (hs _ (by assumption)) (by assumption) (by assumption) (by omega) rfl
  case rest =>
    intro p rest sp t1 t2 h' tk hS hD hsp hpl F N
    obtain ⟨sg, hsg⟩ : ∃ sg, sg = (l.drop sp).take 1 := ⟨_, rfl⟩
    cases hq : (sg == [64]) with
    | false =>
      have hx := idOf_m hS (idMid_n (p := p) (by rw [← hD]; exact take1_ne hsg hq))
      have hq' : (sg != [64]) = true := by rw [bne, hq]; rfl
      dsimp only
      k_unmd
      (try k_fold)
      k_steps
      all_goals exact hx
    | true =>
      obtain ⟨r, hD'⟩ := take1_eq hsg hq
      rw [hD] at hD'
      subst hD'
      have h1 := drop_lt hD
      have hq' : (sg != [64]) = false := by rw [bne, hq]; rfl
      dsimp only
      k_unmd
      (try k_fold)
      k_steps
      refine unhold ?_
      refine mid_cut (l := l) (Str.ofString "right") (Str.ofString "behind") (sideR (l.drop (sp + 1))) (by assumption) ?mid2 ?rest2
      case mid2 =>
        have hgo := go
        have hi : sideR (l.drop (sp + 1)) = none → idOf (l.drop (n + 1)) = none := fun h => idOf_m hS (idMid_r (by rw [drop_succ hD] at h; exact h))
        clear hq hq' hsg sg
        obtain ⟨sg, hsg⟩ : ∃ sg, sg = (l.drop (sp + 1)).take 1 := ⟨_, rfl⟩
        cases hq : (sg == [91]) with
        | false =>
          have hs : ∀ x, runOf (l.drop (sp + 1)) = x → sideR (l.drop (sp + 1)) = x := fun x h => by rw [sideR_n (take1_ne hsg hq)]; exact h
          k_unmd
          (try k_fold)
          k_steps
          all_goals first | exact hi (hs _ (by assumption)) | exact mid_end (by assumption) (hs _ (by assumption)) (by assumption) (by assumption) (by omega) rfl
        | true =>
          obtain ⟨r, D⟩ := take1_eq hsg hq
          have h1 := drop_lt D
          have hs : closed 93 [91] (l.drop (sp + 1 + 1)) = none → idOf (l.drop (n + 1)) = none := fun h => hi (by rw [D]; rw [drop_succ D] at h; unfold sideR; dsimp only; rw [if_pos rfl, h]; rfl)
          have hs2 : ∀ p r2, closed 93 [91] (l.drop (sp + 1 + 1)) = some (p, r2) → sideR (l.drop (sp + 1)) = some ([91] ++ p ++ [93], r2) := fun p r2 h => by rw [D]; rw [drop_succ D] at h; unfold sideR; dsimp only; rw [if_pos rfl, h]; rfl
          clear D
          k_unmd
          (try k_fold)
          k_steps
          all_goals first | exact hs (by assumption) | exact mid_end (by assumption) (hs2 _ _ (by assumption)) (by assumption) (by assumption) (by simp only [List.length_append, List.length_cons, List.length_nil]; omega) (map_swap (by decide))
      case rest2 =>
        intro q rest2 sp2 t3 t4 h2 tk2 hS2 hD2 hsp2 hpl2 F N
        have hm : ∀ x, idEnd p q rest2 = x → idOf (l.drop (n + 1)) = x := fun x e => by
          unfold idOf
          rw [hS]
          exact (idMid_e (drop_succ hD ▸ hS2)).trans e
        clear hq hq' hsg sg
        obtain ⟨sg, hsg⟩ : ∃ sg, sg = (l.drop sp2).take 1 := ⟨_, rfl⟩
        cases hq : (sg == [62]) with
        | false =>
          have hx := hm none (idEnd_n (by rw [← hD2]; exact take1_ne hsg hq))
          have hq' : (sg != [62]) = true := by rw [bne, hq]; rfl
          clear hm
          dsimp only
          k_unmd
          (try k_fold)
          k_steps
          all_goals exact hx
        | true =>
          obtain ⟨r2, hD'⟩ := take1_eq hsg hq
          rw [hD2] at hD'
          subst hD'
          have h1 := drop_lt hD2
          have hq' : (sg != [62]) = false := by rw [bne, hq]; rfl
          have hx1 : (p ++ q).all plainB = false → idOf (l.drop (n + 1)) = none := fun e => hm none (idEnd_p e)
          have hx2 : (p ++ q).all plainB = true → idOf (l.drop (n + 1)) = some (p ++ [64] ++ q, r2) := fun e => by rw [List.append_assoc]; exact hm _ (idEnd_s e)
          have hlen2 : l.length = sp2 + 1 + r2.length := by
            have := congrArg List.length hD2
            rw [List.length_drop] at this
            simp at this; omega
          clear hm
          dsimp only
          k_unmd
          (try k_fold)
          k_steps
          all_goals (try exact hx1 (by assumption))
          refine unhold ?_
          refine comp_eval (by with_unfolding_all rfl) rfl (by decide) ?_
          k_steps
          refine comp_bytes (fun pre ys news => StrsAre ys (pre.map chB)) (EC := fun _ _ _ => False) (by assumption) (by assumption) (by assumption) (by simp only [List.length_append, List.length_cons, List.length_nil]; omega) (by decide) rfl rfl .nil ?turn (fun D C e s' h hf => hf.elim) ?fin
          case turn =>
            intro pre post c u ys news I oI C oC D m₂ h tk el hJ hC hv F N o ne
            refine wpAny_tests_nil ?_
            simp only [if_true]
            k_unmd
            (try k_fold)
            k_steps
            exact CEnd.intro (by assumption) (by assumption) _ (fun p hp => hp) o (by rw [List.map_append]; exact StrsAre.snoc hJ)
          case fin =>
            intro D ys news h tk hl hJ F N o
            have hx3 := hx2 (by assumption)
            simp only [List.cons_append, List.nil_append]
            k_unmd
            (try k_fold)
            k_steps
            all_goals ktr_rel
            all_goals exact ⟨_, _, hx3, id_end (by assumption) (by omega)⟩
end
end Mine
end
section
open PySem PySem.W PySem.Spec PySem.Calls PyProof.Rows
namespace Mine
open Builtin Builtin.Str
/-- what is in hand while a handler runs: nothing, or an exception without a context -/
noncomputable def Hd (A : Around) (h : Heap) : Prop := A.handled = none ∨ ∃ e o vs, A.handled = some (.ref e) ∧ h.get? e = some o ∧ o.data = .fields vs ∧ vs[2]? = some .none
theorem Hd.keeps {A : Around} {h h' : Heap} (H : Hd A h) (k : ∀ b o, h.get? b = some o → h'.get? b = some o) : Hd A h' := by
  rcases H with H | ⟨e, o, vs, h1, h2, h3, h4⟩
  · exact .inl H
  · exact .inr ⟨e, o, vs, h1, k _ _ h2, h3, h4⟩
theorem Hd.keepsI {A : Around} {h h' : Heap} (H : Hd A h) {it : Addr} {oi : Obj} {x y : Value} (hi : h.get? it = some oi) (hd : oi.data = .fields #[x, y]) (_ : True) (k : ∀ b o, b ≠ it → h.get? b = some o → h'.get? b = some o) : Hd A h' := by
  rcases H with H | ⟨e, o, vs, h1, h2, h3, h4⟩
  · exact .inl H
  · refine .inr ⟨e, o, vs, h1, k _ _ (fun q => ?_) h2, h3, h4⟩
    subst q
    rw [hi] at h2
    cases h2
    rw [hd] at h3
    cases h3
    cases h4
theorem entry_unchain : entryFor table "proto.unchain" = some Builtin.«proto.unchain» := entryFor_of_fast (by kernel_rfl)
section
variable {prog : Program} {w : World} {A : Around} {E : Value → Shared → Prop} {s : Shared}
theorem unchain_none {x : Value} {e : Addr} {o : Obj} {vs : Array Value} {Q : Value → Shared → Prop} (ho : s.heap.get? e = some o) (hd : o.data = .fields vs) (h2 : vs[2]? = some .none) (h : Q .none s) :
    wpAny (model prog w) A (runValue (.builtin "proto.unchain" ⟨[x, .ref e, .ref e, .bool false], []⟩)) Q E s := by
  refine wpAny_runValue (codeAny_builtin entry_unchain ?_)
  show wpAny _ _ (field (.ref e) 2 >>= _) _ _ s
  refine wpAny_bind (wpAny_field ho hd h2 ?_)
  show wpAny _ _ (if (Value.none == Value.none) = true then _ else _) _ _ s
  rw [if_pos (by rfl)]
  exact wpAny_pure h
theorem raiseNew_hd {α : Type} {e : Addr} {oe : Obj} {fs : Array Value} {Q : α → Shared → Prop} (H : Hd A s.heap) (he : s.heap.get? e = some oe) (hde : oe.data = .fields fs) (hfs : 2 < fs.size) (hn : ∀ x, A.handled = some (.ref x) → x ≠ e)
    (h : ∀ h' o', h'.get? e = some o' → o'.cls = oe.cls → Heap.SameBut e s.heap h' → E (.ref e) { s with heap := h' }) : wpAny (model prog w) A (raiseNew (.ref e) : Sem α) Q E s := by
  unfold raiseNew
  refine wpAny_bind (wpAny_handled ?_)
  rcases H with H | ⟨x, o, vs, h1, h2, h3, h4⟩
  · rw [H]
    exact wpAny_bind (wpAny_pure (wpAny_throw (h _ oe he rfl (Heap.SameBut.refl _ _))))
  · rw [h1]
    dsimp only
    have hne : ((Value.ref x != Value.ref e) = true) := by
      have := hn x h1
      rw [bne_iff_ne]; intro q; exact this (Value.ref.inj q)
    rw [if_pos hne]
    refine wpAny_bind (wpAny_holding (unchain_none h2 h3 h4 ?_))
    refine wpAny_bind ?_
    unfold updateField
    refine wpAny_bind (wpAny_load he ?_)
    rw [hde]
    dsimp only
    rw [if_pos hfs]
    refine wpAny_update he ?_
    refine wpAny_throw ?_
    refine h _ (Obj.mapFields (·.setIfInBounds 2 (.ref x)) oe) (Heap.get?_update_self _ he (Obj.isFreed_of_fields (Obj.data_mapFields hde _))) (Obj.cls_mapFields ..) (Heap.SameBut.update ..)
theorem ascii_end_hd {it : Addr} {x : Str} {t : Tok} {i : Nat} {Q : Option Value → Shared → Prop} (H : Hd A s.heap)
    (hit : s.heap.IsStrIter it "str_ascii_iterator" x t i) (hx : x.cps[i]? = none)
    (hQ : ∀ h', Heap.ExtBut it s.heap h' → Q none { s with heap := h' }) : wpAny (model prog w) A (pyNext (.ref it)) Q E s := by
  obtain ⟨o, ho, hc, hd⟩ := id hit
  unfold pyNext
  refine wpAny_bind (wpAny_attempt (wpAny_callSpecial?_slot (name := Str.ofString "__next__") hit.typeIs F.slot_str_ascii_iterator_next
    (wpAny_call_entry F.slot_str_ascii_iterator_next hit.typeIs F.entry_str_ascii_iterator_next ?_ (F.args_str_ascii_iterator_next_1 _))))
  show wpAny _ _ (field (.ref it) 0 >>= _) _ _ s
  refine wpAny_bind (wpAny_field ho hd (x := .str x t) rfl ?_)
  show wpAny _ _ (field (.ref it) 1 >>= _) _ _ s
  refine wpAny_bind (wpAny_field ho hd (x := .int i 0) rfl ?_)
  simp only [Int.toNat_natCast, hx]
  refine wpAny_bind (wpAny_rule (wpAny_bind (wpAny_setField ho hd (by simp) (wpAny_bind (wpAny_letGo ?_)))))
  show wpAny _ _ (newExc (.type "StopIteration") [] >>= _) _ _ _
  refine wpAny_bind ?_
  simp only [newExc, newTuple]
  refine wpAny_bind (wpAny_newObj_type ?_ (by size_fits))
  refine wpAny_bind (m := firstArgMember _ _) (wpAny_of_eq (a := Value.none) (by first | rfl | (simp only [firstArgMember]; rfl)) ?_)
  refine wpAny_newObj_type ?_ (by size_fits)
  refine raiseNew_hd (A := A.in1) (Hd.keepsI (A := A.in1) H ho hd trivial ?_) (Heap.get?_push_size _ rfl) rfl (by rw [Array.size_append]; show 2 < 6 + _; omega) ?_ fun h' o' ho' hc' hs => ?_
  · intro b o hb e
    exact Heap.get?_push_of_some _ (Heap.get?_push_of_some _ ((Heap.get?_update_other _ _ (Ne.symm hb)).trans e))
  · intro x hx q
    rcases H with H | ⟨e, o, vs, h1, h2, h3, h4⟩
    · rw [show A.in1.handled = A.handled from rfl, H] at hx; cases hx
    · rw [show A.in1.handled = A.handled from rfl, h1] at hx
      cases hx
      refine absurd (Heap.lt_size h2) (Nat.not_lt.mpr ?_)
      rw [q]
      simp only [Heap.size_push, Heap.size_update]
      exact Nat.le_succ _
  refine wpAny_bind (wpAny_isInstance (T := "StopIteration") (b := true) ⟨_, ho', hc'⟩ isSubtype_stop ?_)
  refine wpAny_pure (hQ _ fun b o hb e => ?_)
  refine hs.extBut b o (fun q => ?_) (Heap.get?_push_of_some _ (Heap.get?_push_of_some _ ((Heap.get?_update_other _ _ (Ne.symm hb)).trans e)))
  refine absurd (Heap.lt_size e) (Nat.not_lt.mpr ?_)
  rw [q]
  simp only [Heap.size_push, Heap.size_update]
  exact Nat.le_succ _
theorem wide_end_hd {it : Addr} {x : Str} {t : Tok} {i : Nat} {Q : Option Value → Shared → Prop} (H : Hd A s.heap)
    (hit : s.heap.IsStrIter it "str_iterator" x t i) (hx : x.cps[i]? = none)
    (hQ : ∀ h', Heap.ExtBut it s.heap h' → Q none { s with heap := h' }) : wpAny (model prog w) A (pyNext (.ref it)) Q E s := by
  obtain ⟨o, ho, hc, hd⟩ := id hit
  unfold pyNext
  refine wpAny_bind (wpAny_attempt (wpAny_callSpecial?_slot (name := Str.ofString "__next__") hit.typeIs F.slot_str_iterator_next
    (wpAny_call_entry F.slot_str_iterator_next hit.typeIs F.entry_str_iterator_next ?_ (F.args_str_iterator_next_1 _))))
  show wpAny _ _ (field (.ref it) 0 >>= _) _ _ s
  refine wpAny_bind (wpAny_field ho hd (x := .str x t) rfl ?_)
  show wpAny _ _ (field (.ref it) 1 >>= _) _ _ s
  refine wpAny_bind (wpAny_field ho hd (x := .int i 0) rfl ?_)
  simp only [Int.toNat_natCast, hx]
  refine wpAny_bind (wpAny_rule (wpAny_bind (wpAny_setField ho hd (by simp) (wpAny_bind (wpAny_letGo ?_)))))
  show wpAny _ _ (newExc (.type "StopIteration") [] >>= _) _ _ _
  refine wpAny_bind ?_
  simp only [newExc, newTuple]
  refine wpAny_bind (wpAny_newObj_type ?_ (by size_fits))
  refine wpAny_bind (m := firstArgMember _ _) (wpAny_of_eq (a := Value.none) (by first | rfl | (simp only [firstArgMember]; rfl)) ?_)
  refine wpAny_newObj_type ?_ (by size_fits)
  refine raiseNew_hd (A := A.in1) (Hd.keepsI (A := A.in1) H ho hd trivial ?_) (Heap.get?_push_size _ rfl) rfl (by rw [Array.size_append]; show 2 < 6 + _; omega) ?_ fun h' o' ho' hc' hs => ?_
  · intro b o hb e
    exact Heap.get?_push_of_some _ (Heap.get?_push_of_some _ ((Heap.get?_update_other _ _ (Ne.symm hb)).trans e))
  · intro x hx q
    rcases H with H | ⟨e, o, vs, h1, h2, h3, h4⟩
    · rw [show A.in1.handled = A.handled from rfl, H] at hx; cases hx
    · rw [show A.in1.handled = A.handled from rfl, h1] at hx
      cases hx
      refine absurd (Heap.lt_size h2) (Nat.not_lt.mpr ?_)
      rw [q]
      simp only [Heap.size_push, Heap.size_update]
      exact Nat.le_succ _
  refine wpAny_bind (wpAny_isInstance (T := "StopIteration") (b := true) ⟨_, ho', hc'⟩ isSubtype_stop ?_)
  refine wpAny_pure (hQ _ fun b o hb e => ?_)
  refine hs.extBut b o (fun q => ?_) (Heap.get?_push_of_some _ (Heap.get?_push_of_some _ ((Heap.get?_update_other _ _ (Ne.symm hb)).trans e)))
  refine absurd (Heap.lt_size e) (Nat.not_lt.mpr ?_)
  rw [q]
  simp only [Heap.size_push, Heap.size_update]
  exact Nat.le_succ _
end
noncomputable def hdl (A : Around) : List Addr := match A.handled with | some (.ref e) => [e] | _ => []
theorem Hd.frame {A : Around} {h h' : Heap} {I : Addr} (H : Hd A h) (k : ∀ b ∈ I :: hdl A, ∀ o, h.get? b = some o → h'.get? b = some o) : Hd A h' := by
  rcases H with H | ⟨e, o, vs, h1, h2, h3, h4⟩
  · exact .inl H
  · exact .inr ⟨e, o, vs, h1, k e (.tail _ (by unfold hdl; rw [h1]; exact .head _)) _ h2, h3, h4⟩
theorem Hd.lt {A : Around} {h : Heap} (H : Hd A h) : ∀ b ∈ hdl A, b < h.objs.size := fun b hb => by
  rcases H with H | ⟨e, o, vs, h1, h2, h3, h4⟩
  · unfold hdl at hb; rw [H] at hb; cases hb
  · unfold hdl at hb; rw [h1] at hb
    rw [List.mem_singleton.mp hb]; exact Heap.lt_size h2
theorem walks_ascii {prog : Program} {w : World} {A : Around} (I : Addr) (x : Str) (t : Tok) :
    Walks prog w A I (I :: hdl A) [I] x.cps.size (SignAt x) (fun i h => h.IsStrIter I "str_ascii_iterator" x t i ∧ Hd A h) where
  sub := fun b hb => by rw [List.mem_singleton.mp hb]; exact .head _
  frame := fun _ _ _ st hk => ⟨let ⟨o, ho, r⟩ := st.1; ⟨o, hk I (.head _) o ho, r⟩, st.2.frame hk⟩
  item := fun i s Q E hi st hQ => by
    refine wpAny_pyNext_ascii_item st.1 (c := x.cps[i]) (by simp [hi]) fun h' hit' hs' => ?_
    obtain ⟨o, ho, _, hd⟩ := st.1
    have k : ∀ b o, b ≠ I → s.heap.get? b = some o → h'.get? b = some o := fun b o hb e => hs'.extBut b o hb e
    exact hQ _ h' (s.toks + 1) ⟨_, _, by simp [hi], rfl⟩ ⟨hit', st.2.keepsI ho hd trivial k⟩ fun b o hb e => k b o (fun h => hb (by simp [h])) e
  done := fun s Q E st hQ => ascii_end_hd st.2 st.1 (by simp) fun h' he' => hQ h' s.toks fun b o hb e => he' b o (fun h => hb (by simp [h])) e
  self := fun _ _ _ _ st hQ => wpAny_pyIter_striter_ascii st.1 hQ
theorem walks_wide {prog : Program} {w : World} {A : Around} (I : Addr) (x : Str) (t : Tok) :
    Walks prog w A I (I :: hdl A) [I] x.cps.size (SignAt x) (fun i h => h.IsStrIter I "str_iterator" x t i ∧ Hd A h) where
  sub := fun b hb => by rw [List.mem_singleton.mp hb]; exact .head _
  frame := fun _ _ _ st hk => ⟨let ⟨o, ho, r⟩ := st.1; ⟨o, hk I (.head _) o ho, r⟩, st.2.frame hk⟩
  item := fun i s Q E hi st hQ => by
    refine wpAny_pyNext_wide_item st.1 (c := x.cps[i]) (by simp [hi]) fun h' hit' hs' => ?_
    obtain ⟨o, ho, _, hd⟩ := st.1
    have k : ∀ b o, b ≠ I → s.heap.get? b = some o → h'.get? b = some o := fun b o hb e => hs'.extBut b o hb e
    exact hQ _ h' (s.toks + 1) ⟨_, _, by simp [hi], rfl⟩ ⟨hit', st.2.keepsI ho hd trivial k⟩ fun b o hb e => k b o (fun h => hb (by simp [h])) e
  done := fun s Q E st hQ => wide_end_hd st.2 st.1 (by simp) fun h' he' => hQ h' s.toks fun b o hb e => he' b o (fun h => hb (by simp [h])) e
  self := fun _ _ _ _ st hQ => wpAny_pyIter_striter_wide st.1 hQ
section
variable {prog : Program} {w : World} {A : Around} {E : Value → Shared → Prop} {s : Shared} {g : Heap} {L : Addr} {m : Str → Option Value} {env : Env} {elt iter : Expr} {ifs : List Expr} {x : Str} {px : Pos} {scope : Scope} {cl : List (Str × Addr)} {pos : Pos} {Q : Value → Shared → Prop} {news : List (Addr × Obj)} {EC : Addr → Value → Shared → Prop}
theorem strB_at {l : List UInt8} {i : Nat} {v : Value} (hP : SignAt (strB l) i v) : ∃ c u, l[i]? = some c ∧ v = .str (chB c) u := by
  obtain ⟨c, u, e, rfl⟩ := hP
  have e : ((l.map UInt8.toNat).toArray)[i]? = some c := e
  rw [List.getElem?_toArray, List.getElem?_map] at e
  cases q : l[i]? with
  | none => rw [q] at e; cases e
  | some b => rw [q] at e; cases e; exact ⟨b, u, rfl, rfl⟩
theorem strB_size {l : List UInt8} : (strB l).cps.size = l.length := by show ((l.map UInt8.toNat).toArray).size = _; simp
theorem comp_text {l : List UInt8} {t : Tok} (J : List UInt8 → List Value → List (Addr × Obj) → Prop) (H : Hd A g) (F : Fr g L s.heap m) (N : News g L s.heap news) (hsz : l.length ≤ 16777216)
    (hcell : ∀ y ∈ scope.names, y.2 ≠ .cell) (hkind : scope.kind = .function) (hx : scope.names.lookup x = some .local) (h0 : J [] [] news)
    (turn : ∀ pre post c u ys news I oI C oC D m₂ h tk, l = pre ++ c :: post → J pre ys news → LCg.NsObj oC m₂ → m₂ x = some (.str (chB c) u) → Fr g L h m → News g L h ((I, oI) :: (C, oC) :: (D, LCg.lst ys) :: news) → LCg.Off3 I C D news → ((@Ne Nat I C) ∧ (@Ne Nat I D) ∧ (@Ne Nat C D)) →
      CTurn prog w A ifs elt (compEnvC scope cl C env) g L m I oI C oC D ys (J (pre ++ [c])) (EC C) { s with heap := h, toks := tk })
    (hEC : ∀ D C e s', g.get? C = none → EC C e s' → notedBy (model prog w) A (compEnvC scope cl C env) (fun e s' => compPost (model prog w) A E none Q (.ref D) C (.error e) s') e s')
    (fin : ∀ D ys news' h' tk', ys.length ≤ l.length → J l ys news' → Fr g L h' m → News g L h' ((D, LCg.lst ys) :: news') → LCg.Off1 D news' → Q (.ref D) { s with heap := h', toks := tk' }) :
    CompAt prog w A elt iter ifs x px scope cl pos env Q E (.str (strB l) t) s := by
  have key : ∀ (o : Obj) (ty : String), (Walks prog w A s.heap.objs.size (s.heap.objs.size :: hdl A) [s.heap.objs.size] (strB l).cps.size (SignAt (strB l)) (fun i h => h.IsStrIter s.heap.objs.size ty (strB l) t i ∧ Hd A h)) → (s.heap.push o).IsStrIter s.heap.objs.size ty (strB l) t 0 →
      wpAny (model prog w) A (newList []) (fun acc s₃ => wpAny (model prog w) A (newFunctionEnv scope env.globals cl [] env.qual none .none (some env)) (fun cenv s₄ =>
        codeAny (model prog w) A (.compStart (.ListComp elt [⟨.Name x px, iter, ifs, 0⟩] scope pos) 0 (.ref s.heap.objs.size) acc { cenv with scope := relabel scope env }) (compPost (model prog w) A E none Q acc cenv.locals) s₄) E s₃) E { s with heap := s.heap.push o } := by
    intro o ty W hst
    obtain ⟨F', N', a, b, c⟩ := new_frame (o := o) F N
    refine comp_core (J := fun i ys nw => J (l.take i) ys nw) (EC := EC) (RR := compPost (model prog w) A E none Q) (s₂ := { s with heap := s.heap.push o })
      W (by rw [sizeLine_eq, strB_size]; exact hsz) (fun i h st => let ⟨o, e, _⟩ := st.1; ⟨o, e⟩) (fun i i' h h' o nw ys st e e' k N J => ⟨by obtain ⟨o', q, r⟩ := st.1; rw [e] at q; cases q; exact ⟨o, e', r⟩, H.keeps k⟩)
      hcell hkind hx ⟨hst, H.keeps F'.keep⟩ (fun b hb => ?_) F' N' a b c (by simpa using h0) ?_ hEC ?_
    · show b < (s.heap.push _).objs.size
      rw [Heap.size_push]
      rcases List.mem_cons.mp hb with rfl | hb
      · exact Nat.lt_succ_self _
      · exact Nat.lt_succ_of_lt ((H.keeps F.keep).lt b hb)
    · intro i v ys nw I oI C oC D m₂ h tk hi hP hl hJ hC hv F N o ne _
      obtain ⟨ch, u, e, rfl⟩ := strB_at hP
      have et : l.take (i + 1) = l.take i ++ [ch] := by rw [List.take_add_one, e]; rfl
      have el : l = l.take i ++ ch :: l.drop (i + 1) := by
        have := (List.take_append_drop (i + 1) l).symm
        rw [et, List.append_assoc] at this
        exact this
      dsimp only
      rw [et]
      exact turn _ _ ch u ys nw I oI C oC D m₂ h tk el hJ hC hv F N o ne
    · intro D C h tk m' ys nw F N o n gC hCL hCD off hl hJ
      rw [strB_size] at hl
      have hJ : J (l.take (strB l).cps.size) ys nw := hJ
      rw [strB_size, List.take_length] at hJ
      exact comp_end (s := s) (fun h' tk' F N o => fin D ys nw h' tk' hl hJ F N o) F N o n gC hCL hCD off
  cases ha : (strB l).cps.all (· < 128)
  · exact wpAny_pyIter_wide ha (key _ _ (walks_wide _ _ _) ⟨_, Heap.get?_push_size _ rfl, rfl, rfl⟩)
  · exact wpAny_pyIter_ascii ha (key _ _ (walks_ascii _ _ _) ⟨_, Heap.get?_push_size _ rfl, rfl, rfl⟩)
theorem comp_vals {items : List Value} {P0 : Addr} (J : List Value → List Value → List (Addr × Obj) → Prop) (hh : A.handled = none) (F : Fr g L s.heap m) (N : News g L s.heap news) (hS : ∀ pre ys nw, J pre ys nw → LCg.SrcAt g P0 items.toArray nw) (hsz : items.length ≤ 16777216)
    (hcell : ∀ y ∈ scope.names, y.2 ≠ .cell) (hkind : scope.kind = .function) (hx : scope.names.lookup x = some .local) (h0 : J [] [] news)
    (turn : ∀ pre v post ys news I oI C oC D m₂ h tk, items = pre ++ v :: post → J pre ys news → LCg.NsObj oC m₂ → m₂ x = some v → Fr g L h m → News g L h ((I, oI) :: (C, oC) :: (D, LCg.lst ys) :: news) → LCg.Off3 I C D news → ((@Ne Nat I C) ∧ (@Ne Nat I D) ∧ (@Ne Nat C D)) →
      CTurn prog w A ifs elt (compEnvC scope cl C env) g L m I oI C oC D ys (J (pre ++ [v])) (EC C) { s with heap := h, toks := tk })
    (hEC : ∀ D C e s', g.get? C = none → EC C e s' → notedBy (model prog w) A (compEnvC scope cl C env) (fun e s' => compPost (model prog w) A E none Q (.ref D) C (.error e) s') e s')
    (fin : ∀ D ys news' h' tk', ys.length ≤ items.length → J items ys news' → Fr g L h' m → News g L h' ((D, LCg.lst ys) :: news') → LCg.Off1 D news' → Q (.ref D) { s with heap := h', toks := tk' }) :
    CompAt prog w A elt iter ifs x px scope cl pos env Q E (.ref P0) s := by
  have hl := (hS _ _ _ h0).list F.keep N
  have hlt : P0 < s.heap.objs.size := by obtain ⟨_, e, _⟩ := hl; exact Heap.lt_size e
  refine wpAny_pyIter_list hl ?_
  obtain ⟨F', N', a, b, c⟩ := new_frame (o := { cls := .type "list_iterator", data := .fields #[.ref P0, .int 0 0] }) F N
  refine comp_core (J := fun i ys nw => J (items.take i) ys nw) (EC := EC) (RR := compPost (model prog w) A E none Q) (s₂ := { s with heap := s.heap.push { cls := .type "list_iterator", data := .fields #[.ref P0, .int 0 0] } })
    (Walks.list hh s.heap.objs.size P0 (Nat.ne_of_lt hlt) items.toArray) (by rw [sizeLine_eq, List.size_toArray]; exact hsz) (fun i h st => by obtain ⟨o, e, _⟩ := st.1; exact ⟨o, e⟩) (fun i i' h h' o nw ys st e e' k N hJ => LCg.list_st i h h' o nw st e e' k N (hS _ _ _ hJ))
    hcell hkind hx ⟨⟨_, Heap.get?_push_size _ rfl, rfl, rfl⟩, hl.push _⟩ (fun b hb => ?_) F' N' a b c (by simpa using h0) ?_ hEC ?_
  · show b < (s.heap.push _).objs.size
    rw [Heap.size_push]
    rcases List.mem_cons.mp hb with rfl | hb
    · exact Nat.lt_succ_self _
    · rw [List.mem_singleton.mp hb]; exact Nat.lt_succ_of_lt hlt
  · intro i v ys nw I oI C oC D m₂ h tk hi hP hl hJ hC hv F N o ne _
    have e : items[i]? = some v := by simpa using hP
    have et : items.take (i + 1) = items.take i ++ [v] := by rw [List.take_add_one, e]; rfl
    have el : items = items.take i ++ v :: items.drop (i + 1) := by
      have := (List.take_append_drop (i + 1) items).symm
      rw [et, List.append_assoc] at this
      exact this
    dsimp only
    rw [et]
    exact turn _ v _ ys nw I oI C oC D m₂ h tk el hJ hC hv F N o ne
  · intro D C h tk m' ys nw F N o n gC hCL hCD off hl hJ
    rw [List.size_toArray] at hl
    have hJ : J (items.take items.toArray.size) ys nw := hJ
    rw [List.size_toArray, List.take_length] at hJ
    exact comp_end (s := s) (fun h' tk' F N o => fin D ys nw h' tk' hl hJ F N o) F N o n gC hCL hCD off
end
end Mine
end
section
open PySem PySem.W PySem.Spec PySem.Calls PyProof.Rows
namespace Mine
section
variable {prog : Program} {w : World} {A : Around} {E : Value → Shared → Prop} {s : Shared} {g : Heap} {L : Addr} {m : Str → Option Value} {env : Env} {elt iter : Expr} {ifs : List Expr} {x : Str} {px : Pos} {scope : Scope} {cl : List (Str × Addr)} {pos : Pos} {Q : Value → Shared → Prop} {news : List (Addr × Obj)} {EC : Addr → Value → Shared → Prop}
theorem IntsAre.at {vs : List Value} {cs : List UInt8} (h : IntsAre vs (cs.map ofB)) : ∀ {pre : List Value} {v : Value} {post : List Value}, vs = pre ++ v :: post → ∃ c u, cs = cs.take pre.length ++ c :: cs.drop (pre.length + 1) ∧ v = .int (c.toNat : Int) u ∧ cs.take (pre ++ [v]).length = cs.take pre.length ++ [c] := by
  generalize hk : cs.map ofB = ks at h
  induction h generalizing cs with
  | nil => intro pre v post e; cases pre <;> cases e
  | @cons n t vs ks h ih =>
    intro pre v post e
    cases cs with
    | nil => cases hk
    | cons c cs =>
      rw [List.map_cons] at hk
      injection hk with h1 h2
      cases pre with
      | nil =>
        cases e
        exact ⟨c, t, rfl, by rw [← h1], rfl⟩
      | cons p pre =>
        injection e with e1 e2
        obtain ⟨c', u, a1, a2, a3⟩ := ih h2 e2
        refine ⟨c', u, ?_, a2, ?_⟩
        · rw [List.length_cons, List.take_succ_cons, List.drop_succ_cons, List.cons_append, ← a1]
        · rw [List.cons_append, List.length_cons, List.length_cons, List.take_succ_cons, List.take_succ_cons, a3, List.cons_append]
/-- a list of signs' codes, of the ledger; the ledger stays -/
theorem comp_intsF {items : List Value} {P0 : Addr} {cs : List UInt8} {ep : Nat} (hi : IntsAre items (cs.map ofB)) (P : List UInt8 → List Value → Prop) (hh : A.handled = none) (F : Fr g L s.heap m) (N : News g L s.heap news) (hS : (P0, listOf (List.toArray items) ep) ∈ news) (hsz : cs.length ≤ 16777216)
    (hcell : ∀ y ∈ scope.names, y.2 ≠ .cell) (hkind : scope.kind = .function) (hx : scope.names.lookup x = some .local) (h0 : P [] [])
    (turn : ∀ pre post c u ys I oI C oC D m₂ h tk, cs = pre ++ c :: post → P pre ys → LCg.NsObj oC m₂ → m₂ x = some (.int (c.toNat : Int) u) → Fr g L h m → News g L h ((I, oI) :: (C, oC) :: (D, LCg.lst ys) :: news) → LCg.Off3 I C D news → ((@Ne Nat I C) ∧ (@Ne Nat I D) ∧ (@Ne Nat C D)) →
      CTurn prog w A ifs elt (compEnvC scope cl C env) g L m I oI C oC D ys (fun ys nw => nw = news ∧ P (pre ++ [c]) ys) (EC C) { s with heap := h, toks := tk })
    (hEC : ∀ D C e s', g.get? C = none → EC C e s' → notedBy (model prog w) A (compEnvC scope cl C env) (fun e s' => compPost (model prog w) A E none Q (.ref D) C (.error e) s') e s')
    (fin : ∀ D ys h' tk', ys.length ≤ cs.length → P cs ys → Fr g L h' m → News g L h' ((D, LCg.lst ys) :: news) → LCg.Off1 D news → Q (.ref D) { s with heap := h', toks := tk' }) :
    CompAt prog w A elt iter ifs x px scope cl pos env Q E (.ref P0) s := by
  have hlen : items.length = cs.length := by rw [hi.length, List.length_map]
  refine comp_vals (items := items) (fun pre ys nw => nw = news ∧ P (cs.take pre.length) ys) hh F N (fun pre ys nw hJ => by rw [hJ.1]; exact .inr ⟨_, hS, rfl, ep, rfl⟩) (by rw [hlen]; exact hsz) hcell hkind hx ⟨rfl, h0⟩ ?_ hEC ?_
  · intro pre v post ys nw I oI C oC D m₂ h tk e hJ hC hv F N' o ne
    obtain ⟨rfl, hP⟩ := hJ
    obtain ⟨c, u, a1, rfl, a3⟩ := IntsAre.at hi e
    rw [a3]
    exact turn _ _ c u ys I oI C oC D m₂ h tk a1 hP hC hv F N' o ne
  · intro D ys nw h' tk' hl hJ F N' o
    obtain ⟨rfl, hP⟩ := hJ
    rw [hlen, List.take_length] at hP
    exact fin D ys h' tk' (by omega) hP F N' o
theorem comp_textF {l : List UInt8} {t : Tok} (P : List UInt8 → List Value → Prop) (H : Hd A g) (F : Fr g L s.heap m) (N : News g L s.heap news) (hsz : l.length ≤ 16777216)
    (hcell : ∀ y ∈ scope.names, y.2 ≠ .cell) (hkind : scope.kind = .function) (hx : scope.names.lookup x = some .local) (h0 : P [] [])
    (turn : ∀ pre post c u ys I oI C oC D m₂ h tk, l = pre ++ c :: post → P pre ys → LCg.NsObj oC m₂ → m₂ x = some (.str (chB c) u) → Fr g L h m → News g L h ((I, oI) :: (C, oC) :: (D, LCg.lst ys) :: news) → LCg.Off3 I C D news → ((@Ne Nat I C) ∧ (@Ne Nat I D) ∧ (@Ne Nat C D)) →
      CTurn prog w A ifs elt (compEnvC scope cl C env) g L m I oI C oC D ys (fun ys nw => nw = news ∧ P (pre ++ [c]) ys) (EC C) { s with heap := h, toks := tk })
    (hEC : ∀ D C e s', g.get? C = none → EC C e s' → notedBy (model prog w) A (compEnvC scope cl C env) (fun e s' => compPost (model prog w) A E none Q (.ref D) C (.error e) s') e s')
    (fin : ∀ D ys h' tk', ys.length ≤ l.length → P l ys → Fr g L h' m → News g L h' ((D, LCg.lst ys) :: news) → LCg.Off1 D news → Q (.ref D) { s with heap := h', toks := tk' }) :
    CompAt prog w A elt iter ifs x px scope cl pos env Q E (.str (strB l) t) s := by
  refine comp_text (fun pre ys nw => nw = news ∧ P pre ys) H F N hsz hcell hkind hx ⟨rfl, h0⟩ ?_ hEC ?_
  · intro pre post c u ys nw I oI C oC D m₂ h tk e hJ hC hv F N' o ne
    obtain ⟨rfl, hP⟩ := hJ
    exact turn pre post c u ys I oI C oC D m₂ h tk e hP hC hv F N' o ne
  · intro D ys nw h' tk' hl hJ F N' o
    obtain ⟨rfl, hP⟩ := hJ
    exact fin D ys h' tk' hl hP F N' o
/-- range(n) -/
theorem comp_range {r : Addr} {n : Nat} {t u v : Tok} (J : Nat → List Value → List (Addr × Obj) → Prop) (hh : A.handled = none) (F : Fr g L s.heap m) (N : News g L s.heap news) (hr : IsRange s.heap r 0 (n : Int) 1 t u v) (hsm : Builtin.Range.small 0 (n : Int) 1 = true) (hn : Builtin.Range.rangeSize 0 (n : Int) 1 = ((n : Nat) : Int)) (hsz : n ≤ 16777216)
    (hcell : ∀ y ∈ scope.names, y.2 ≠ .cell) (hkind : scope.kind = .function) (hx : scope.names.lookup x = some .local) (h0 : J 0 [] news)
    (turn : ∀ i ys u news I oI C oC D m₂ h tk, i < n → ys.length ≤ i → J i ys news → LCg.NsObj oC m₂ → m₂ x = some (.int (i : Int) u) → Fr g L h m → News g L h ((I, oI) :: (C, oC) :: (D, LCg.lst ys) :: news) → LCg.Off3 I C D news → ((@Ne Nat I C) ∧ (@Ne Nat I D) ∧ (@Ne Nat C D)) →
      CTurn prog w A ifs elt (compEnvC scope cl C env) g L m I oI C oC D ys (J (i + 1)) (EC C) { s with heap := h, toks := tk })
    (hEC : ∀ D C e s', g.get? C = none → EC C e s' → notedBy (model prog w) A (compEnvC scope cl C env) (fun e s' => compPost (model prog w) A E none Q (.ref D) C (.error e) s') e s')
    (fin : ∀ D ys news' h' tk', ys.length ≤ n → J n ys news' → Fr g L h' m → News g L h' ((D, LCg.lst ys) :: news') → LCg.Off1 D news' → Q (.ref D) { s with heap := h', toks := tk' }) :
    CompAt prog w A elt iter ifs x px scope cl pos env Q E (.ref r) s := by
  refine wpAny_pyIter_range hr hsm ?_
  obtain ⟨F', N', a, b, c⟩ := new_frame (o := { cls := .type "range_iterator", dict := none, data := .fields #[rawInt 0, rawInt (Builtin.Range.rangeSize 0 (n : Int) 1), rawInt 1], slots := #[] }) F N
  refine comp_core (J := J) (EC := EC) (RR := compPost (model prog w) A E none Q)
    (LCg.range_walks (I := s.heap.objs.size) hh 0 n) (by rw [sizeLine_eq]; exact hsz) (fun i h st => ⟨_, st⟩) (fun i i' h h' o nw ys st e e' k N hJ => LCg.range_st i h h' o nw st e e' k N trivial)
    hcell hkind hx (by show IsRangeIter _ _ _ _ _; rw [hn]; simpa using Heap.get?_push_size _ rfl) (fun b hb => ?_) F' N' a b c h0 ?_ hEC ?_
  · rw [List.mem_singleton.mp hb]
    show s.heap.objs.size < (s.heap.push _).objs.size
    rw [Heap.size_push]; exact Nat.lt_succ_self _
  · intro i v ys nw I oI C oC D m₂ h tk hi hP hl hJ hC hv F N o ne _
    obtain ⟨t, rfl⟩ := hP
    rw [Int.zero_add] at hv
    exact turn i ys t nw I oI C oC D m₂ h tk hi hl hJ hC hv F N o ne
  · intro D C h tk m' ys nw F N o n gC hCL hCD off hl hJ
    exact comp_end (s := s) (fun h' tk' F N o => fin D ys nw h' tk' hl hJ F N o) F N o n gC hCL hCD off
end
theorem funFrames_but {h h' base : Heap} {C : Addr} (k : ∀ b, b ≠ C → h'.get? b = h.get? b) : ∀ {l : List Env}, h.FunFrames base l → C ∉ frs l → h'.FunFrames base l
  | [], _, _ => trivial
  | env :: l, ⟨hk, ⟨L, o, hf, hb, ho, hd⟩, r⟩, hn => by
    have hL : C ≠ L := fun q => hn (List.mem_filterMap.mpr ⟨env, .head _, by rw [hf, q]⟩)
    refine ⟨hk, ⟨L, o, hf, hb, (k L (Ne.symm hL)).trans ho, hd⟩, funFrames_but k r fun q => hn ?_⟩
    obtain ⟨e, he, q⟩ := List.mem_filterMap.mp q
    exact List.mem_filterMap.mpr ⟨e, .tail _ he, q⟩
/-- what is known where an element raised -/
noncomputable def CExn (g : Heap) (L : Addr) (s : Shared) (envs : List Env) (C : Addr) (e : Value) (s' : Shared) : Prop :=
  ∃ a G h tk m m', e = .ref a ∧ s' = { s with heap := h, toks := tk } ∧ Fr g L G m ∧ G.Ns C m' ∧ C ≠ L ∧ Raised G envs a h
section
variable {prog : Program} {w : World} {A : Around} {base : Heap} {l : List Env} {s : Shared} {L a : Addr} {name : Str} {scope sc : Scope} {cd : Value} {cl : List (Str × Addr)} {Exn : Prop} {Q : Value → Shared → Prop}
theorem comp_raised (B : Below A base l s.heap) (D C : Addr) (e : Value) (s' : Shared) (hC : s.heap.get? C = none) (h : Exn ∧ CExn s.heap L s (envOf name scope L a cd :: l) C e s')
    (hk : scope.kind = .function := by rfl) :
    notedBy (model prog w) (A.deeper (envOf name scope L a cd)) (compEnvC sc cl C (envOf name scope L a cd)) (fun e s' => compPost (model prog w) (A.deeper (envOf name scope L a cd))
      (fun e s' => wpAny (model prog w) (A.deeper (envOf name scope L a cd)) (leaving (envOf name scope L a cd) e) (fun _ s'' => ExnK s l Exn e s'') (fun e' s'' => ExnK s l Exn e' s'') s') none Q (.ref D) C (.error e) s') e s' := by
  obtain ⟨x, ea, G, h, tk, m, m', rfl, rfl, F, nC, hCL, ⟨a0, f1, f2, f3, f4⟩, hsm, hc⟩ := h
  have hfr := Around.frames_deeper (env := envOf name scope L a cd) B.stack
  have sub := hide_in (name := name) (scope := scope) (a := a) (cd := cd) B F
  have hCf : C ∉ frs (envOf name scope L a cd :: l) := fun q => by
    rcases kts_mem q with z | z
    · exact hCL z
    · obtain ⟨_, o, ho, _⟩ := B.frames.mem z
      rw [hC] at ho; cases ho
  show wpAny _ _ (noteFrame (.ref ea) (envOf name scope L a cd)) _ _ _
  refine note_nextC hfr rfl f4 (by rfl) f1 f2 f3 hc fun h₁ held sm₁ c₁ => ?_
  obtain ⟨k1, k2, k3, k4⟩ := heldW_base sub held
  have nC₁ := (hsm.trans sm₁).ns nC
  refine ⟨_, nC₁, fun h₂ sb cenv hcenv => ?_⟩
  have hb : ∀ b, b ≠ C → h₂.get? b = h₁.get? b := fun b hb => sb.2 b hb
  have bC : ∀ b o, (hideAll s.heap (frs l)).get? b = some o → b ≠ C := fun b o q z => by
    have := of_hideAll _ q
    rw [z, hC] at this; cases this
  have dC : ∀ b o vs, h₁.get? b = some o → o.data = .fields vs → b ≠ C := fun b o vs q hd z => by
    obtain ⟨oC, _, _, q2, hd2, _⟩ := nC₁
    rw [z, q2] at q; cases q
    rw [hd2] at hd; cases hd
  obtain ⟨oe, vs, T, oT, ts, he, hcls, hd, h1, hnT, hTe, hT, hdT, h3⟩ := k4
  have t₂ : h₂.TracedAtW (hideAll s.heap (frs l)) ea (.ref 59) a0 (rawInt L) := ⟨oe, vs, T, oT, ts, (hb _ (dC _ _ _ he hd)).trans he, hcls, hd, h1, hnT, hTe, (hb _ (dC _ _ _ hT hdT)).trans hT, hdT, h3⟩
  have s₂ : (hideAll s.heap (frs l)).StaysIn h₂ := fun b o q => (hb b (bC b o q)).trans (k1 b o q)
  have ff₂ : h₂.FunFrames (hideAll s.heap (frs l)) (envOf name scope L a cd :: l) := funFrames_but hb k3 hCf
  have cx₂ : Ctx ea h₂ := by
    obtain ⟨o', vs', q1, q2, q3⟩ := c₁
    exact ⟨o', vs', (hb _ (dC _ _ _ q1 q2)).trans q1, q2, q3⟩
  have up : s.heap.UpToSlots h₂ := fun b o q hn => by
    obtain ⟨sl, z⟩ := (((Heap.UpToSlots.of_keeps F.keep).trans hsm).trans sm₁) b o q hn
    exact ⟨sl, (hb b fun y => by rw [y, hC] at q; cases q).trans z⟩
  unfold PySem.passOn
  refine wpAny_bind (wpAny_field ((hb _ (dC _ _ _ he hd)).trans he) hd h1 ?_)
  rw [if_neg (by intro q; cases q)]
  refine wpAny_bind (setFlightC s₂ ff₂ t₂ cx₂ fun h₃ x1 x2 x3 x4 x5 => ?_)
  refine wpAny_throw ?_
  refine leaving_nextC hfr rfl x3 x1 k2 x2 x5 fun h₄ y1 y2 y3 => ?_
  exact ⟨x, ea, h₄, tk, rfl, rfl, ⟨a0, y1⟩, (up.trans x4).trans y2, y3⟩
end
end Mine
end
section
open PySem PySem.W PySem.Spec PySem.Calls PyProof.Rows
namespace Mine
section
variable {w : World} {mean : ExcName → Option Value} {mg mb : Str → Option Value} {base g : Heap} {s : Shared} {l r : List UInt8} {td ta tk tb : Tok} {n j n' : Nat} {k c : UInt8} {bl : List UInt8} {A : Around} {le : List Env} {L a : Addr} {m : Str → Option Value} {news : List (Addr × Obj)} {name : Str} {scope : Scope} {cd : Value} {Q E : Value → Shared → Prop}
theorem call_comment (hb : Bas w mean mg mb base) (hz : l.length ≤ 16777216) (hl : NoBad l) (B : Below A base le g) (F : Fr g L s.heap m) (N : News g L s.heap news) (hh : A.handled = none) (hd : A.depth + 21 < recursionLimit) (hu : A.units + 403 < cLine) (hk : scope.kind = .function)
    (ret : ∀ p rest sp D t1 t2 ep h' tk', comment 1 (l.drop (n + 1)) = some rest → sp = l.length - rest.length → Fr g L h' m → News g L h' ((D, tupOf [.bytes (List.toArray p) t1, .int (sp : Nat) t2] ep) :: news) → AllNe D news → Q (.ref D) { s with heap := h', toks := tk' })
    (exn : comment 1 (l.drop (n + 1)) = none → ∀ e h' tk', Raised s.heap (envOf name scope L a cd :: le) e h' → E (.ref e) { s with heap := h', toks := tk' }) :
    wpAny (model PySem.Challenge.rw_no0368_01.row.toRowW.prog w) (A.deeper (envOf name scope L a cd)) (call (.ref 97) [.bytes l.toArray td, .int (n : Int) ta]) Q E s := by
  refine call_spec (comment_spec hb hz hl) B F N (fun _ => hh) hd hu hk (fun r h' tk' F' N' K hr => ?_) exn
  obtain ⟨p, rest, hi, D, t1, t2, ep, rfl, hD, ho⟩ := hr
  exact ret p rest _ D t1 t2 ep h' tk' hi rfl F' (news_cons' F hD N' ho) (allNe_of (news_ne N hD))
theorem call_closed' (hb : Bas w mean mg mb base) (hz : l.length ≤ 16777216) (hl : NoBad l) (B : Below A base le g) (F : Fr g L s.heap m) (N : News g L s.heap news) (hh : A.handled = none) (hd : A.depth + 21 < recursionLimit) (hu : A.units + 403 < cLine) (hk : scope.kind = .function)
    (ret : ∀ p rest sp D t1 t2 ep h' tk', closed k bl (l.drop (n + 1)) = some (p, rest) → sp = l.length - rest.length → Fr g L h' m → News g L h' ((D, tupOf [.bytes (List.toArray p) t1, .int (sp : Nat) t2] ep) :: news) → AllNe D news → Q (.ref D) { s with heap := h', toks := tk' })
    (exn : closed k bl (l.drop (n + 1)) = none → ∀ e h' tk', Raised s.heap (envOf name scope L a cd :: le) e h' → E (.ref e) { s with heap := h', toks := tk' }) :
    wpAny (model PySem.Challenge.rw_no0368_01.row.toRowW.prog w) (A.deeper (envOf name scope L a cd)) (call (.ref 90) [.bytes l.toArray td, .int (n : Int) ta, .bytes [k].toArray tk, .bytes bl.toArray tb]) Q E s := by
  refine call_spec (closed_spec hb hz hl) B F N (fun _ => hh) hd hu hk (fun r h' tk' F' N' K hr => ?_) exn
  obtain ⟨p, rest, hi, D, t1, t2, ep, rfl, hD, ho⟩ := hr
  exact ret p rest _ D t1 t2 ep h' tk' hi rfl F' (news_cons' F hD N' ho) (allNe_of (news_ne N hD))
end
noncomputable def pastWord (l : List UInt8) (n : Nat) : Nat :=
  match l.drop n with
  | [] => n + 1
  | c :: r => if c = 34 then (match closed 34 [] r with | some p => l.length - p.2.length | none => n + 1) else (match comment 1 r with | some rest => l.length - rest.length | none => n + 1)
end Mine
end
section
open PySem PySem.W PySem.Spec PySem.Calls PyProof.Rows
namespace Mine
theorem fillX11 : (PySem.Challenge.rw_no0368_01, ltop.heap_1) = (PySem.Challenge.rw_no0368_01, ltop.heap_1) := by k_fill; rfl
theorem _root_.Mine.rowsX11_1 : True := by
  k_with_none
  k_with "subscriptTail" => (k_here; (with_reducible show wpAny _ _ (subscriptTail _ _ (Value.bytes _ _) (Value.int _ _)) _ _ _); k_dflt (refine b_item rfl (by assumption) (by assumption) ?_); intro _ _)
  k_with "subscriptTail" => (k_here; (with_reducible show wpAny _ _ (subscriptTail _ (Expr.Slice (some _) (some _) none _) (Value.bytes _ _) (Value.ref _)) _ _ _); (with_reducible rename Fr _ _ _ _ => F'); (with_reducible rename News _ _ _ _ => N'); k_dflt (refine b_slice (s := ⟨_, _, _, _, _⟩) F' N' (by constructor) (by constructor) (by assumption) (by first | exact cut1 rfl rfl (by assumption) | exact cut0 rfl rfl (by assumption) | exact cut2 rfl rfl (by assumption)) ?_); intro _ _ _ _ _)
  k_with "compareOp Eq bytes bytes" => (k_here; (with_reducible show wpAny _ _ (compareOp CmpOp.Eq (Value.bytes _ _) (Value.bytes _ _)) _ _ _); k_dflt (refine b_eq (by first | exact beq_cons_false (by assumption) | exact beq_self_true | exact (rfl : _ = false) | exact (rfl : _ = true)) ?_))
  k_with "compareOp NotEq bytes bytes" => (k_here; (with_reducible show wpAny _ _ (compareOp CmpOp.NotEq (Value.bytes _ _) (Value.bytes _ _)) _ _ _); k_dflt (refine b_ne (by first | exact bne_cons_true (by assumption) | exact bne_self_false | exact (rfl : _ = false) | exact (rfl : _ = true)) ?_))
  k_with "call builtin:len" => (k_here; (with_reducible show wpAny _ _ (call (Value.builtin "len") [Value.bytes _ _]) _ _ _); k_dflt (refine b_len (by assumption) ?_); intro _ _)
  k_with "compareOp In int bytes" => (k_here; (with_reducible show wpAny _ _ (compareOp CmpOp.In (Value.int _ _) (Value.bytes _ _)) _ _ _); k_dflt (refine b_in rfl (by first | assumption | rfl) ?_))
  k_with "exec Raise some none" => (k_here; k_dflt (refine raise_wf (by assumption) ?_))
  k_with "ktr_unf" => ((refine' enter (by assumption) ?k6 ?k7 ?k9 ?kl ?c2 ?c3 ?c4 ?c5 ?_); (case k6 => k_is); (case k7 => k_is); (case k9 => exact BindsTo.of_eq rfl); (case kl => exact locs rfl); (case c2 => exact rfl); (case c3 => exact rfl); (case c4 => exact rfl); (case c5 => decide); intro A le L h₁ hh B hd hu X T F N; (try (have hHd := hh rfl)); (try k_unmd); (try dsimp only); k_fold)
  k_with "ktr_rel" => ((try dsimp only); (refine ret_end (by assumption) ?_))
  k_with "call ref" => (k_here; (with_reducible show wpAny _ _ (call (Value.ref 59) _) _ _ _); k_dflt (refine wf_make_K (by assumption) (by assumption) (by assumption) (by omega) (by first | exact .inr ⟨_, _, rfl⟩ | exact .inl rfl) ?_); intro h' tk' e' H'; k_dflt (refine leave_new (by assumption) (by assumption) H' rfl ?_))
  k_with "ite" => (k_here; k_dflt (first
    | (refine ite_pos (by first | omega | (simp only [decide_eq_true_eq, beq_iff_eq, bne_iff_ne, ne_eq, Bool.and_eq_true, Bool.or_eq_true, Bool.not_eq_true', decide_eq_false_iff_not, beq_eq_false_iff_ne]; omega) | exact beq_self_eq_true _) ?_; walk_say "PRUNED here")
    | (refine ite_neg (by first | omega | (simp only [decide_eq_true_eq, beq_iff_eq, bne_iff_ne, ne_eq, Bool.and_eq_true, Bool.or_eq_true, Bool.not_eq_true', decide_eq_false_iff_not, beq_eq_false_iff_ne]; omega) | exact beq_self_eq_true _) ?_; walk_say "PRUNED here")))
  k_with "compareOp In int ref" => (k_here; (with_reducible show wpAny _ _ (compareOp CmpOp.In (Value.int _ _) (Value.ref 62)) _ _ _); k_dflt (refine in_nev (by assumption) (by assumption) ?_))
  k_with "exec While Compare" => (k_here; (with_reducible show wpAny _ _ (exec (Stmt.While _ _ _ _) _) _ _ _); (refine hold ?_); walk_say "HELD")
  k_with "assign Tuple" => (k_here; (with_reducible show wpAny _ _ (assign (Expr.Tuple _ _ _) _ (Value.ref _)) _ _ _); k_dflt (refine unpackN_ (by k_asm) (by k_asm) (News.isTup (by k_asm) (by k_mem)) (by assumption) rfl rfl ?_); intro h' F' N'; (try k_sweep))
  k_with "call builtin:list.append" => (k_here; (with_reducible show wpAny _ _ (call (Value.builtin _) [Value.ref _, _]) _ _ _); k_dflt (refine' append_K (by k_asm) (by k_asm) (by k_upd) ?_ (by first | size_fits | (rw [sizeLine_eq]; show List.length _ ≤ _; omega)); k_whole); intro h' F' N'; (try simp only [List.push_toArray] at N'); (try k_sweep))
  k_with "pyIter bytes" => (k_here; (refine hold ?_); walk_say "HELD")
  k_with "ktr_unf" => ((refine' enterC (by assumption) ?k6 ?k7 ?k9 ?kl ?c2 ?c3 ?c4 ?c5 ?_); (case k6 => k_is); (case k7 => k_is); (case k9 => exact BindsTo.of_eq rfl); (case kl => exact locs rfl); (case c2 => exact rfl); (case c3 => exact rfl); (case c4 => exact rfl); (case c5 => decide); intro A le L h₁ hh B hd hu X T F N; (try (have hHd := hh rfl)); (try k_unmd); (try dsimp only); k_fold)
  k_with "ktr_rel" => ((try dsimp only); (first | refine retC_end (by assumption) (by assumption) ?_ | refine retC_end KtsTurn.refl (by assumption) ?_))
  k_with "call ref" => (k_here; (with_reducible show wpAny _ _ (call (Value.ref 90) _) _ _ _); k_dflt (refine call_closed' (by assumption) (by assumption) (by assumption) (by assumption) (by assumption) (by assumption) (by assumption) (by omega) (by omega) rfl ?_ ?_); (case' refine_1 => intro p' rest' sp' D' _ _ _ _ _ hC' hs' _ _ ne'; (try simp only [AllNe, and_true] at ne')); (case' refine_2 => intro hC' _ _ _ R'; (refine caught (by assumption) (by assumption) (by assumption) (by assumption) R' ?_); intro h' g' T' F' N' K' X' P'; (try k_lift K'); (try k_sweep)))
  k_with "call ref" => (k_here; (with_reducible show wpAny _ _ (call (Value.ref 97) _) _ _ _); k_dflt (refine call_comment (by assumption) (by assumption) (by assumption) (by assumption) (by assumption) (by assumption) (by assumption) (by omega) (by omega) rfl ?_ ?_); (case' refine_1 => intro p' rest' sp' D' _ _ _ _ _ hC' hs' _ _ ne'; (try simp only [AllNe, and_true] at ne')); (case' refine_2 => intro hC' _ _ _ R'; (refine caught (by assumption) (by assumption) (by assumption) (by assumption) R' ?_); intro h' g' T' F' N' K' X' P'; (try k_lift K'); (try k_sweep)))
  trivial
section
variable {w : World} {mean : ExcName → Option Value} {mg mb : Str → Option Value} {base : Heap} {s : Shared} {l r : List UInt8} {td ta tk tb : Tok} {n : Nat} {k c : UInt8} {bl : List UInt8}
theorem past_spec (hb : Bas w mean mg mb base) (hz : l.length ≤ 16777216) (hl : NoBad l) (D : l.drop n = c :: r) :
    SpecC w base 142 [.bytes l.toArray td, .int (n : Int) ta] false 50 900 s (fun v h' => ∃ t, v = .int (pastWord l n : Nat) t) False := by
  have h1 := drop_lt D
  have D1 := drop_succ D
  by_cases h34 : c = 34
  · subst h34
    have h34' : (34 : UInt8).toNat = 34 := rfl
    have hpw : ∀ x, closed 34 [] (l.drop (n + 1)) = x → pastWord l n = (match x with | some p => l.length - p.2.length | none => n + 1) := fun x h => by
      unfold pastWord; rw [D]; dsimp only; rw [if_pos rfl, ← D1, h]; try (cases x <;> rfl)
    ktr_unf
    k_steps
    all_goals ktr_rel
    all_goals (have e := hpw _ (by assumption); dsimp only at e; rw [e]; subst_vars; exact ⟨_, rfl⟩)
  · have h34' : c.toNat ≠ 34 := fun h => h34 (UInt8.toNat_inj.mp h)
    have hpw : ∀ x, comment 1 (l.drop (n + 1)) = x → pastWord l n = (match x with | some rest => l.length - rest.length | none => n + 1) := fun x h => by
      unfold pastWord; rw [D]; dsimp only; rw [if_neg h34, ← D1, h]; try (cases x <;> rfl)
    ktr_unf
    k_steps
    all_goals ktr_rel
    all_goals (have e := hpw _ (by assumption); dsimp only at e; rw [e]; subst_vars; exact ⟨_, rfl⟩)
end
end Mine
end
section
open PySem PySem.W PySem.Spec PySem.Calls PyProof.Rows
namespace Mine
section
variable {prog : Program} {w : World} {A : Around} {E : Value → Shared → Prop} {Q : Flow → Shared → Prop} {s : Shared} {env : Env} {g : Heap} {L P : Addr}
noncomputable def VTurn {σ : Type} (G : Heap → Prop) (L P : Addr) (s : Shared) (o : σ → Obj) (ps : σ → List (Str × Value)) (stored : List Str) (m₀ : Str → Option Value) (Pr : σ → Prop) (μ : σ → Nat) (Q : Flow → Shared → Prop) (c : σ) (f : Flow) (s₂ : Shared) : Prop :=
  match f with
  | .ret v => Q (.ret v) s₂
  | .brk => Q .next s₂
  | _ => ∃ c' g' h' tk m', s₂ = { s with heap := h', toks := tk } ∧ G g' ∧ Fr g' L h' m' ∧ News g' L h' [(P, o c')] ∧ (∀ p ∈ ps c', m' p.1 = some p.2) ∧ (∀ z, (∀ p ∈ ps c', z ≠ p.1) → stored.contains z = false → m' z = m₀ z) ∧ Pr c' ∧ μ c' < μ c
theorem vturn_next {σ : Type} {G : Heap → Prop} {o : σ → Obj} {ps : σ → List (Str × Value)} {stored : List Str} {m₀ m' : Str → Option Value} {Pr : σ → Prop} {μ : σ → Nat} {c : σ} {g' h' : Heap} {tk : Nat} {news : List (Addr × Obj)} (c' : σ)
    (hG : G g') (F : Fr g' L h' m') (N : News g' L h' news) (hn : (P, o c') ∈ news) (hk : ∀ p ∈ ps c', m' p.1 = some p.2) (hr : ∀ z, (∀ p ∈ ps c', z ≠ p.1) → stored.contains z = false → m' z = m₀ z) (hp : Pr c') (hm : μ c' < μ c) :
    VTurn G L P s o ps stored m₀ Pr μ Q c .next { s with heap := h', toks := tk } :=
  ⟨c', g', h', tk, m', rfl, hG, F, fun p hp => by rw [List.mem_singleton.mp hp]; exact N _ hn, hk, hr, hp, hm⟩
theorem while_v {σ : Type} {test : Expr} {body : List Stmt} {pos : Pos} {m₀ : Str → Option Value} (o : σ → Obj) (ps : σ → List (Str × Value)) (stored : List Str) (Pr : σ → Prop) (μ : σ → Nat) (G : Heap → Prop) (c₀ : σ)
    (hG : G g) (F : Fr g L s.heap m₀) (N : News g L s.heap [(P, o c₀)]) (hk : ∀ p ∈ ps c₀, m₀ p.1 = some p.2) (hp : Pr c₀)
    (turn : ∀ (c : σ) (u : Str → Option Value) h tk g', G g' → Pr c → Fr g' L h (kstB (fun z => if stored.contains z then u z else m₀ z) (ps c)) → News g' L h [(P, o c)] →
      wpAny (model prog w) A (isTrue test env (eval test env)) (fun b s₂ =>
        if b = true then wpAny (model prog w) A (execs body env) (VTurn G L P s o ps stored m₀ Pr μ Q c) E s₂ else Q .next s₂) E { s with heap := h, toks := tk })
    (hE : PassesOwn (model prog w) A env E := by passes_own) :
    wpAny (model prog w) A (exec (.While test body [] pos) env) Q E s := by
  refine wpAny_While (codeAny_whileLoop (fun n s' => ∃ c g' h tk m', n = μ c ∧ s' = { s with heap := h, toks := tk } ∧ G g' ∧ Fr g' L h m' ∧ News g' L h [(P, o c)] ∧ (∀ p ∈ ps c, m' p.1 = some p.2) ∧ (∀ z, (∀ p ∈ ps c, z ≠ p.1) → stored.contains z = false → m' z = m₀ z) ∧ Pr c) ?_ (μ c₀)
    ⟨c₀, g, s.heap, s.toks, m₀, rfl, rfl, hG, F, N, hk, fun _ _ _ => rfl, hp⟩)
  rintro n s' ⟨c, g', h, tk, m', rfl, rfl, hG, F, N, h1, h2, hp⟩
  refine wpAny_mono (turn c m' h tk g' hG hp (ksw_fr h1 h2 F) N) (fun b s₂ q => ?_) hE
  cases b with
  | false =>
    simp only [Bool.false_eq_true, if_false] at q ⊢
    exact wpAny_execs_nil q
  | true =>
    simp only [if_true] at q ⊢
    refine wpAny_mono q (fun f s₃ q => ?_) hE
    cases f with
    | ret v => exact q
    | brk => exact q
    | next =>
      obtain ⟨c', g', h', tk, m', rfl, a1, a2, a3, a4, a5, a6, a7⟩ := q
      exact ⟨μ c', a7, c', g', h', tk, m', rfl, rfl, a1, a2, a3, a4, a5, a6⟩
    | cont =>
      obtain ⟨c', g', h', tk, m', rfl, a1, a2, a3, a4, a5, a6, a7⟩ := q
      exact ⟨μ c', a7, c', g', h', tk, m', rfl, rfl, a1, a2, a3, a4, a5, a6⟩
end
noncomputable def skip (c : UInt8) (r : List UInt8) : List UInt8 :=
  if c = 34 then (match closed 34 [] r with | some p => p.2 | none => r) else if c = 40 then (match comment 1 r with | some q => q | none => r) else r
noncomputable def readF : Nat → List UInt8 → List (List UInt8)
  | 0, _ => []
  | _ + 1, [] => []
  | f + 1, c :: r => if c = 60 then (match idOf r with | some p => p.1 :: readF f p.2 | none => readF f r) else readF f (skip c r)
theorem skip_suffix (c : UInt8) (r : List UInt8) : skip c r <:+ r := by
  unfold skip
  split
  · split
    · rename_i p h; exact closed_suffix _ _ _ p.1 p.2 h
    · exact List.suffix_refl _
  · split
    · split
      · rename_i q h; exact comment_suffix _ _ _ _ (Nat.le_refl _) h
      · exact List.suffix_refl _
    · exact List.suffix_refl _
theorem runOf_suffix {l p r : List UInt8} (h : runOf l = some (p, r)) : r <:+ l := by
  unfold runOf at h
  split at h
  · cases h
  · cases h; exact List.dropWhile_suffix _
theorem sideL_suffix {l p r : List UInt8} (h : sideL l = some (p, r)) : r <:+ l := by
  unfold sideL at h
  split at h
  · cases h
  · split at h
    · exact (closed_suffix _ _ _ _ _ h).trans (List.suffix_cons _ _)
    · exact runOf_suffix h
theorem sideR_suffix {l p r : List UInt8} (h : sideR l = some (p, r)) : r <:+ l := by
  unfold sideR at h
  split at h
  · cases h
  · split at h
    · simp only [Option.map_eq_some_iff] at h
      obtain ⟨⟨p', q'⟩, e1, e2⟩ := h
      cases e2
      exact (closed_suffix _ _ _ _ _ e1).trans (List.suffix_cons _ _)
    · exact runOf_suffix h
theorem idOf_suffix {l p r : List UInt8} (h : idOf l = some (p, r)) : r <:+ l := by
  unfold idOf at h
  rw [Option.bind_eq_some_iff] at h
  obtain ⟨⟨p1, r1⟩, h1, h2⟩ := h
  unfold idMid at h2
  dsimp only at h2
  split at h2
  · cases h2
  · split at h2
    · rw [Option.bind_eq_some_iff] at h2
      obtain ⟨⟨p2, r2⟩, h3, h4⟩ := h2
      unfold idEnd at h4
      dsimp only at h4
      split at h4
      · cases h4
      · split at h4
        · split at h4
          · cases h4
            exact ((((List.suffix_cons _ _).trans (sideR_suffix h3)).trans (List.suffix_cons _ _)).trans (sideL_suffix h1))
          · cases h4
        · cases h4
    · cases h2
theorem readF_eq : ∀ (f f' : Nat) (l : List UInt8), l.length ≤ f → l.length ≤ f' → readF f l = readF f' l := by
  intro f
  induction f with
  | zero =>
    intro f' l h h'
    have : l = [] := List.eq_nil_of_length_eq_zero (by omega)
    subst this
    cases f' <;> rfl
  | succ f ih =>
    intro f' l h h'
    cases l with
    | nil => cases f' <;> rfl
    | cons c r =>
      cases f' with
      | zero => simp at h'
      | succ f' =>
        simp only [List.length_cons] at h h'
        unfold readF
        by_cases h60 : c = 60
        · rw [if_pos h60, if_pos h60]
          cases e : idOf r with
          | none => exact ih _ _ (by omega) (by omega)
          | some p =>
            have := (idOf_suffix (p := p.1) (r := p.2) e).length_le
            dsimp only
            rw [ih f' p.2 (by omega) (by omega)]
        · rw [if_neg h60, if_neg h60]
          have := (skip_suffix c r).length_le
          exact ih _ _ (by omega) (by omega)
noncomputable def readS (l : List UInt8) : List (List UInt8) := readF l.length l
theorem readS_nil : readS [] = [] := rfl
theorem readS_id {r p q : List UInt8} (h : idOf r = some (p, q)) : readS (60 :: r) = p :: readS q := by
  have := (idOf_suffix h).length_le
  show readF (r.length + 1) (60 :: r) = _
  unfold readF
  rw [if_pos rfl, h]
  dsimp only
  rw [readF_eq r.length q.length q (by omega) (Nat.le_refl _)]
  rfl
theorem readS_noid {r : List UInt8} (h : idOf r = none) : readS (60 :: r) = readS r := by
  show readF (r.length + 1) (60 :: r) = _
  unfold readF
  rw [if_pos rfl, h]
  rfl
theorem readS_skip {c : UInt8} {r : List UInt8} (h : c ≠ 60) : readS (c :: r) = readS (skip c r) := by
  have := (skip_suffix c r).length_le
  show readF (r.length + 1) (c :: r) = _
  unfold readF
  rw [if_neg h]
  exact readF_eq _ _ _ (by omega) (Nat.le_refl _)
theorem past_skip {l r : List UInt8} {n : Nat} {c : UInt8} (D : l.drop n = c :: r) (h : c = 34 ∨ c = 40) : l.drop (pastWord l n) = skip c r ∧ n < pastWord l n ∧ pastWord l n ≤ l.length := by
  have h1 := drop_lt D
  have D1 := drop_succ D
  have hlen : l.length = n + 1 + r.length := by
    have := congrArg List.length D
    rw [List.length_drop] at this
    simp at this; omega
  unfold pastWord skip
  rw [D]
  dsimp only
  by_cases h34 : c = 34
  · rw [if_pos h34, if_pos h34]
    cases e : closed 34 [] r with
    | none => exact ⟨D1, by dsimp only; omega, by dsimp only; omega⟩
    | some p =>
      have q := closed_suffix 34 [] r p.1 p.2 e
      have q2 := q.length_le
      exact ⟨(suffix_drop D1 q).1, by dsimp only; omega, by dsimp only; omega⟩
  · have h40 : c = 40 := h.resolve_left h34
    rw [if_neg h34, if_neg h34, if_pos h40]
    cases e : comment 1 r with
    | none => exact ⟨D1, by dsimp only; omega, by dsimp only; omega⟩
    | some p =>
      have q := comment_suffix _ _ _ _ (Nat.le_refl _) e
      have q2 := q.length_le
      exact ⟨(suffix_drop D1 q).1, by dsimp only; omega, by dsimp only; omega⟩
theorem skip_other {c : UInt8} {r : List UInt8} (h : c ≠ 34) (h2 : c ≠ 40) : skip c r = r := by unfold skip; rw [if_neg h, if_neg h2]
end Mine
end
section
open PySem PySem.W PySem.Spec PySem.Calls PyProof.Rows
namespace Mine
section
variable {w : World} {mean : ExcName → Option Value} {mg mb : Str → Option Value} {base g : Heap} {s : Shared} {l r : List UInt8} {td ta tk tb : Tok} {n j n' : Nat} {k c : UInt8} {bl : List UInt8} {A : Around} {le : List Env} {L a : Addr} {m : Str → Option Value} {news : List (Addr × Obj)} {name : Str} {scope : Scope} {cd : Value} {Q E : Value → Shared → Prop}
theorem call_id (hb : Bas w mean mg mb base) (hz : l.length ≤ 65536) (hl : NoBad l) (B : Below A base le g) (F : Fr g L s.heap m) (N : News g L s.heap news) (hh : A.handled = none) (hd : A.depth + 51 < recursionLimit) (hu : A.units + 903 < cLine) (hk : scope.kind = .function)
    (ret : ∀ p rest sp D t1 t2 ep h' tk', idOf (l.drop (n + 1)) = some (p, rest) → sp = l.length - rest.length → Fr g L h' m → News g L h' ((D, tupOf [.str (strB p) t1, .int (sp : Nat) t2] ep) :: news) → AllNe D news → Q (.ref D) { s with heap := h', toks := tk' })
    (exn : idOf (l.drop (n + 1)) = none → ∀ e h' tk', Raised s.heap (envOf name scope L a cd :: le) e h' → E (.ref e) { s with heap := h', toks := tk' }) :
    wpAny (model PySem.Challenge.rw_no0368_01.row.toRowW.prog w) (A.deeper (envOf name scope L a cd)) (call (.ref 135) [.bytes l.toArray td, .int (n : Int) ta]) Q E s := by
  refine call_spec (id_spec hb hz hl) B F N (fun _ => hh) hd hu hk (fun r h' tk' F' N' K hr => ?_) exn
  obtain ⟨p, rest, hi, D, t1, t2, ep, rfl, hD, ho⟩ := hr
  exact ret p rest _ D t1 t2 ep h' tk' hi rfl F' (news_cons' F hD N' ho) (allNe_of (news_ne N hD))
end
/-- a list of texts, made new -/
noncomputable def TextsRet (s : Shared) (ps : List (List UInt8)) (v : Value) (h' : Heap) : Prop := ∃ D vs ep, v = .ref D ∧ s.heap.get? D = none ∧ h'.get? D = some (listOf (List.toArray vs) ep) ∧ StrsAre vs (ps.map strB)
theorem StrsAre.len {vs : List Value} {ys : List Str} (h : StrsAre vs ys) : vs.length = ys.length := by
  induction h with
  | nil => rfl
  | cons _ _ _ ih => simp [ih]
theorem while_g {σ : Type} {prog : Program} {w : World} {A A₀ : Around} {le : List Env} {base : Heap} {E : Value → Shared → Prop} {Q : Flow → Shared → Prop} {s : Shared} {env : Env} {g : Heap} {L P : Addr} {test : Expr} {body : List Stmt} {pos : Pos} {m₀ : Str → Option Value} (o : σ → Obj) (ps : σ → List (Str × Value)) (stored : List Str) (Pr : σ → Prop) (μ : σ → Nat) (c₀ : σ)
    (B : Below A₀ base le g) (F : Fr g L s.heap m₀) (N : News g L s.heap [(P, o c₀)]) (hk : ∀ p ∈ ps c₀, m₀ p.1 = some p.2) (hp : Pr c₀)
    (turn : ∀ (c : σ) (u : Str → Option Value) h tk g', KtsTurn (frs le) g g' → Below A₀ base le g' → Pr c → Fr g' L h (kstB (fun z => if stored.contains z then u z else m₀ z) (ps c)) → News g' L h [(P, o c)] →
      wpAny (model prog w) A (isTrue test env (eval test env)) (fun b s₂ =>
        if b = true then wpAny (model prog w) A (execs body env) (VTurn (fun g' => KtsTurn (frs le) g g' ∧ Below A₀ base le g') L P s o ps stored m₀ Pr μ Q c) E s₂ else Q .next s₂) E { s with heap := h, toks := tk })
    (hE : PassesOwn (model prog w) A env E := by passes_own) :
    wpAny (model prog w) A (exec (.While test body [] pos) env) Q E s :=
  while_v o ps stored Pr μ (fun g' => KtsTurn (frs le) g g' ∧ Below A₀ base le g') c₀ ⟨KtsTurn.refl, B⟩ F N hk hp (fun c u h tk g' hG hp F N => turn c u h tk g' hG.1 hG.2 hp F N) hE
end Mine
end
section
open PySem PySem.W PySem.Spec PySem.Calls PyProof.Rows
namespace Mine
theorem fillX12 : (PySem.Challenge.rw_no0368_01, ltop.heap_1) = (PySem.Challenge.rw_no0368_01, ltop.heap_1) := by k_fill; rfl
theorem _root_.Mine.rowsX12_1 : True := by
  k_with_none
  k_with "subscriptTail" => (k_here; (with_reducible show wpAny _ _ (subscriptTail _ _ (Value.bytes _ _) (Value.int _ _)) _ _ _); k_dflt (refine b_item rfl (by assumption) (by assumption) ?_); intro _ _)
  k_with "subscriptTail" => (k_here; (with_reducible show wpAny _ _ (subscriptTail _ (Expr.Slice (some _) (some _) none _) (Value.bytes _ _) (Value.ref _)) _ _ _); (with_reducible rename Fr _ _ _ _ => F'); (with_reducible rename News _ _ _ _ => N'); k_dflt (refine b_slice (s := ⟨_, _, _, _, _⟩) F' N' (by constructor) (by constructor) (by assumption) (by first | exact cut1 rfl rfl (by assumption) | exact cut0 rfl rfl (by assumption) | exact cut2 rfl rfl (by assumption)) ?_); intro _ _ _ _ _)
  k_with "compareOp Eq bytes bytes" => (k_here; (with_reducible show wpAny _ _ (compareOp CmpOp.Eq (Value.bytes _ _) (Value.bytes _ _)) _ _ _); k_dflt (refine b_eq (by first | exact beq_cons_false (by assumption) | exact beq_self_true | exact (rfl : _ = false) | exact (rfl : _ = true)) ?_))
  k_with "compareOp NotEq bytes bytes" => (k_here; (with_reducible show wpAny _ _ (compareOp CmpOp.NotEq (Value.bytes _ _) (Value.bytes _ _)) _ _ _); k_dflt (refine b_ne (by first | exact bne_cons_true (by assumption) | exact bne_self_false | exact (rfl : _ = false) | exact (rfl : _ = true)) ?_))
  k_with "call builtin:len" => (k_here; (with_reducible show wpAny _ _ (call (Value.builtin "len") [Value.bytes _ _]) _ _ _); k_dflt (refine b_len (by assumption) ?_); intro _ _)
  k_with "compareOp In int bytes" => (k_here; (with_reducible show wpAny _ _ (compareOp CmpOp.In (Value.int _ _) (Value.bytes _ _)) _ _ _); k_dflt (refine b_in rfl (by first | assumption | rfl) ?_))
  k_with "exec Raise some none" => (k_here; k_dflt (refine raise_wf (by assumption) ?_))
  k_with "ktr_unf" => ((refine' enter (by assumption) ?k6 ?k7 ?k9 ?kl ?c2 ?c3 ?c4 ?c5 ?_); (case k6 => k_is); (case k7 => k_is); (case k9 => exact BindsTo.of_eq rfl); (case kl => exact locs rfl); (case c2 => exact rfl); (case c3 => exact rfl); (case c4 => exact rfl); (case c5 => decide); intro A le L h₁ hh B hd hu X T F N; (try (have hHd := hh rfl)); (try k_unmd); (try dsimp only); k_fold)
  k_with "ktr_rel" => ((try dsimp only); (refine ret_end (by assumption) ?_))
  k_with "call ref" => (k_here; (with_reducible show wpAny _ _ (call (Value.ref 59) _) _ _ _); k_dflt (refine wf_make_K (by assumption) (by assumption) (by assumption) (by omega) (by first | exact .inr ⟨_, _, rfl⟩ | exact .inl rfl) ?_); intro h' tk' e' H'; k_dflt (refine leave_new (by assumption) (by assumption) H' rfl ?_))
  k_with "ite" => (k_here; k_dflt (first
    | (refine ite_pos (by first | omega | (simp only [decide_eq_true_eq, beq_iff_eq, bne_iff_ne, ne_eq, Bool.and_eq_true, Bool.or_eq_true, Bool.not_eq_true', decide_eq_false_iff_not, beq_eq_false_iff_ne]; omega) | exact beq_self_eq_true _) ?_; walk_say "PRUNED here")
    | (refine ite_neg (by first | omega | (simp only [decide_eq_true_eq, beq_iff_eq, bne_iff_ne, ne_eq, Bool.and_eq_true, Bool.or_eq_true, Bool.not_eq_true', decide_eq_false_iff_not, beq_eq_false_iff_ne]; omega) | exact beq_self_eq_true _) ?_; walk_say "PRUNED here")))
  k_with "compareOp In int ref" => (k_here; (with_reducible show wpAny _ _ (compareOp CmpOp.In (Value.int _ _) (Value.ref 62)) _ _ _); k_dflt (refine in_nev (by assumption) (by assumption) ?_))
  k_with "exec While Compare" => (k_here; (with_reducible show wpAny _ _ (exec (Stmt.While _ _ _ _) _) _ _ _); (refine hold ?_); walk_say "HELD")
  k_with "exec For" => (k_here; (with_reducible show wpAny _ _ (exec (Stmt.For _ _ _ _ _) _) _ _ _); (refine hold ?_); walk_say "HELD")
  k_with "assign Tuple" => (k_here; (with_reducible show wpAny _ _ (assign (Expr.Tuple _ _ _) _ (Value.ref _)) _ _ _); k_dflt (refine unpackN_ (by k_asm) (by k_asm) (News.isTup (by k_asm) (by k_mem)) (by assumption) rfl rfl ?_); intro h' F' N'; (try k_sweep))
  k_with "call builtin:list.append" => (k_here; (with_reducible show wpAny _ _ (call (Value.builtin _) [Value.ref _, _]) _ _ _); k_dflt (refine' append_K (by k_asm) (by k_asm) (by k_upd) ?_ (by first | size_fits | (rw [sizeLine_eq]; show List.length _ ≤ _; omega)); k_whole); intro h' F' N'; (try simp only [List.push_toArray] at N'); (try k_sweep))
  k_with "ktr_unf" => ((refine' enterC (by assumption) ?k6 ?k7 ?k9 ?kl ?c2 ?c3 ?c4 ?c5 ?_); (case k6 => k_is); (case k7 => k_is); (case k9 => exact BindsTo.of_eq rfl); (case kl => exact locs rfl); (case c2 => exact rfl); (case c3 => exact rfl); (case c4 => exact rfl); (case c5 => decide); intro A le L h₁ hh B hd hu X T F N; (try (have hHd := hh rfl)); (try k_unmd); (try dsimp only); k_fold)
  k_with "ktr_rel" => ((try dsimp only); (first | refine retC_end (by assumption) (by assumption) ?_ | refine retC_end KtsTurn.refl (by assumption) ?_))
  k_with "call ref" => (k_here; (with_reducible show wpAny _ _ (call (Value.ref 90) _) _ _ _); k_dflt (refine call_closed' (by assumption) (by assumption) (by assumption) (by assumption) (by assumption) (by assumption) (by assumption) (by omega) (by omega) rfl ?_ ?_); (case' refine_1 => intro p' rest' sp' D' _ _ _ _ _ hC' hs' _ _ ne'; (try simp only [AllNe, and_true] at ne')); (case' refine_2 => intro hC' _ _ _ R'; (refine caught (by assumption) (by assumption) (by assumption) (by assumption) R' ?_); intro h' g' T' F' N' K' X' P'; (try k_lift K'); (try k_sweep)))
  k_with "call ref" => (k_here; (with_reducible show wpAny _ _ (call (Value.ref 97) _) _ _ _); k_dflt (refine call_comment (by assumption) (by assumption) (by assumption) (by assumption) (by assumption) (by assumption) (by assumption) (by omega) (by omega) rfl ?_ ?_); (case' refine_1 => intro p' rest' sp' D' _ _ _ _ _ hC' hs' _ _ ne'; (try simp only [AllNe, and_true] at ne')); (case' refine_2 => intro hC' _ _ _ R'; (refine caught (by assumption) (by assumption) (by assumption) (by assumption) R' ?_); intro h' g' T' F' N' K' X' P'; (try k_lift K'); (try k_sweep)))
  k_with "call ref" => (k_here; (with_reducible show wpAny _ _ (call (Value.ref 135) _) _ _ _); k_dflt (refine call_id (by assumption) (by assumption) (by assumption) (by assumption) (by assumption) (by assumption) (by assumption) (by omega) (by omega) rfl ?_ ?_); (case' refine_1 => intro p' rest' sp' D' _ _ _ _ _ hC' hs' _ _ ne'; (try simp only [AllNe, and_true] at ne')); (case' refine_2 => intro hC' _ _ _ R'; (refine caught (by assumption) (by assumption) (by assumption) (by assumption) R' ?_); intro h' g' T' F' N' K' X' P'; (try k_lift K'); (try k_sweep)))
  k_with "call ref" => (k_here; (with_reducible show wpAny _ _ (call (Value.ref 142) _) _ _ _); k_dflt (refine call_specC (past_spec (by assumption) (by assumption) (by assumption) (by assumption)) (by assumption) (by assumption) (by assumption) (fun _ => by assumption) (by omega) (by omega) rfl (by assumption) ?_ (fun x => x.elim)); intro _ h' _ g' T' K' F' N' X' P' _ hR'; (obtain ⟨_, er'⟩ := hR'); subst er'; (try dsimp only); (try k_lift K'); (try k_sweep))
  k_with "ite" => (k_here; k_dflt (first
    | (refine ite_pos (by simp only [List.any_cons, List.any_nil, Bool.or_false, Bool.or_eq_true, beq_iff_eq]; omega) ?_; walk_say "PRUNED here")
    | (refine ite_neg (by simp only [List.any_cons, List.any_nil, Bool.or_false, Bool.or_eq_true, beq_iff_eq]; omega) ?_; walk_say "PRUNED here")))
  trivial
section
variable {w : World} {mean : ExcName → Option Value} {mg mb : Str → Option Value} {base : Heap} {s : Shared} {l r : List UInt8} {td ta tk tb : Tok} {n : Nat} {k c : UInt8} {bl : List UInt8}
structure RdSt where
  j : Nat
  t : Tok
  vs : List Value
  acc : List (List UInt8)
  ep : Nat
theorem read_spec (hb : Bas w mean mg mb base) (hz : l.length ≤ 65536) (hl : NoBad l) :
    SpecC w base 149 [.bytes l.toArray td] false 110 2000 s (TextsRet s (readS l)) False := by
  have hz' : l.length ≤ 16777216 := by omega
  ktr_unf
  k_steps
  refine unhold ?_
  refine' while_g (σ := RdSt) (fun c => listOf c.vs.toArray c.ep) (fun c => [(Str.ofString "at", .int (c.j : Nat) c.t)]) [Str.ofString "text"]
    (fun c => StrsAre c.vs (c.acc.map strB) ∧ c.vs.length ≤ c.j ∧ c.j ≤ l.length ∧ readS l = c.acc ++ readS (l.drop c.j)) (fun c => l.length - c.j) ⟨0, ?tt, [], [], 0⟩ (by assumption) (by assumption) (by assumption) ?hk ?hp ?turn
  case hk => exact List.forall_mem_singleton.mpr (by with_unfolding_all rfl)
  case hp => exact ⟨.nil, Nat.le_refl _, Nat.zero_le _, rfl⟩
  case turn =>
  rintro ⟨j, t, vs, acc, ep⟩ u h tkk g₁ T₁ B₁ ⟨hP, hv, hj, hc⟩ F N
  dsimp only at hP hv hj hc F N
  have X₁ : (ltop.heap_1 w.params).In g₁ := hb.x.keeps B₁.stays
  have P₁ := hb.t.keeps B₁.stays
  have hvs : vs.length ≤ 16777216 := by omega
  cases D : l.drop j with
  | nil =>
    have h1 := drop_nil_le D
    have hc' : readS l = acc := by rw [hc, D, readS_nil, List.append_nil]
    k_unmd
    (try k_fold)
    k_steps
    all_goals ktr_rel
    all_goals exact ⟨_, vs, ep, rfl, turn_new T₁ (N _ (.head _)).2.2, (N _ (.head _)).1, by rw [hc']; exact hP⟩
  | cons c r =>
    have h1 := drop_lt D
    have D1 := drop_succ D
    have hlen : l.length = j + 1 + r.length := by
      have := congrArg List.length D
      rw [List.length_drop] at this
      simp at this; omega
    by_cases h60 : c = 60
    · subst h60
      have h60' : (60 : UInt8).toNat = 60 := rfl
      have hid : ∀ p rest sp, idOf (l.drop (j + 1)) = some (p, rest) → sp = l.length - rest.length → readS l = (acc ++ [p]) ++ readS (l.drop sp) ∧ j + 1 ≤ sp ∧ sp ≤ l.length := fun p rest sp h e => by
        have q := idOf_suffix h
        rw [D1] at h q
        have q2 := q.length_le
        subst e
        refine ⟨?_, by omega, by omega⟩
        rw [hc, D, readS_id h, (suffix_drop D1 q).1, List.append_assoc]
        rfl
      have hno : idOf (l.drop (j + 1)) = none → readS l = acc ++ readS (l.drop (j + 1)) := fun h => by
        rw [D1] at h ⊢
        rw [hc, D, readS_noid h]
      k_unmd
      (try k_fold)
      k_steps
      all_goals first
        | (obtain ⟨f1, f2, f3⟩ := hid _ _ _ (by assumption) (by assumption)
           exact vturn_next ⟨_, _, vs ++ [_], acc ++ [_], ep + 1⟩ ⟨T₁, B₁⟩ (by assumption) (by assumption) (by k_mem) (by kst_all) (fun z h2 h3 => (same_tac (h2 _ (.head _)) (ne_of_stored h3 (by decide))).trans (kst1_rest (h2 _ (.head _)) h3)) ⟨by rw [List.map_append]; exact StrsAre.snoc hP, (by simp only [List.length_append, List.length_singleton]; omega), f3, f1⟩ (Nat.sub_lt_sub_left h1 f2))
        | (have f1 := hno (by assumption)
           exact vturn_next ⟨j + 1, _, vs, acc, ep⟩ ⟨T₁.trans (by assumption), by assumption⟩ (by assumption) (by assumption) (by k_mem) (by kst_all) (fun z h2 h3 => (if_neg (h2 _ (.head _))).trans (kst1_rest (h2 _ (.head _)) h3)) ⟨hP, Nat.le_succ_of_le hv, h1, f1⟩ (Nat.sub_lt_sub_left h1 (Nat.lt_succ_self _)))
    · have h60' : c.toNat ≠ 60 := fun h => h60 (UInt8.toNat_inj.mp h)
      by_cases hq : c = 34 ∨ c = 40
      · have hq' : c.toNat = 34 ∨ c.toNat = 40 := hq.imp (fun h => by rw [h]; rfl) (fun h => by rw [h]; rfl)
        obtain ⟨p1, p2, p3⟩ := past_skip D hq
        have f1 : readS l = acc ++ readS (l.drop (pastWord l j)) := by rw [p1, hc, D, readS_skip h60]
        k_unmd
        (try k_fold)
        k_steps
        all_goals exact vturn_next ⟨pastWord l j, _, vs, acc, ep⟩ ⟨T₁.trans (by assumption), by assumption⟩ (by assumption) (by assumption) (by k_mem) (by kst_all) (fun z h2 h3 => (if_neg (h2 _ (.head _))).trans (kst1_rest (h2 _ (.head _)) h3)) ⟨hP, Nat.le_trans hv (Nat.le_of_lt p2), p3, f1⟩ (Nat.sub_lt_sub_left h1 p2)
      · have hq' : c.toNat ≠ 34 ∧ c.toNat ≠ 40 := ⟨fun h => hq (.inl (UInt8.toNat_inj.mp h)), fun h => hq (.inr (UInt8.toNat_inj.mp h))⟩
        have f1 : readS l = acc ++ readS (l.drop (j + 1)) := by rw [D1, hc, D, readS_skip h60, skip_other (fun h => hq (.inl h)) (fun h => hq (.inr h))]
        k_unmd
        (try k_fold)
        k_steps
        all_goals exact vturn_next ⟨j + 1, _, vs, acc, ep⟩ ⟨T₁, B₁⟩ (by assumption) (by assumption) (by k_mem) (by kst_all) (fun z h2 h3 => (if_neg (h2 _ (.head _))).trans (kst1_rest (h2 _ (.head _)) h3)) ⟨hP, Nat.le_succ_of_le hv, h1, f1⟩ (Nat.sub_lt_sub_left h1 (Nat.lt_succ_self _))
end
end Mine
end
section
open PySem PySem.W PySem.Spec PySem.Calls PyProof.Rows
namespace Mine
noncomputable def WithinRet (g : Heap) (len : Nat) (o : Option (List UInt8 × List UInt8)) (v : Value) (h' : Heap) : Prop :=
  match o with
  | none => v = .none
  | some p => ∃ T P vs t ep k, v = .ref T ∧ g.get? T = none ∧ g.get? P = none ∧ @Ne Nat T P ∧ h'.get? T = some (tupOf [.ref P, .int ((len - p.2.length : Nat) : Int) t] k) ∧ h'.get? P = some (listOf (List.toArray vs) ep) ∧ IntsAre vs (p.1.map ofB)
theorem IntsAre.snoc {vs : List Value} {ns : List Int} {n : Int} {t : Tok} (h : IntsAre vs ns) : IntsAre (vs ++ [.int n t]) (ns ++ [n]) := by
  induction h with
  | nil => exact .cons _ _ .nil
  | cons n t _ ih => exact .cons _ _ ih
theorem within_end {g : Heap} {T P L : Addr} {h' : Heap} {vs : List Value} {t : Tok} {ep k len : Nat} {x : Int} {news : List (Addr × Obj)} {o : Option (List UInt8 × List UInt8)} {p : List UInt8 × List UInt8} (N : News g L h' ((T, tupOf [.ref P, .int x t] k) :: news)) (hP : (P, listOf (List.toArray vs) ep) ∈ news) (hTP : @Ne Nat T P) (ho : o = some p) (hi : IntsAre vs (p.1.map ofB)) (hx : x = ((len - p.2.length : Nat) : Int)) : WithinRet g len o (.ref T) h' := by
  subst hx ho
  have z := N _ (.head _)
  have z2 := N _ (.tail _ hP)
  exact ⟨T, P, vs, t, ep, k, rfl, z.2.2, z2.2.2, hTP, z.1, z2.1, hi⟩
theorem within_none {g : Heap} {len : Nat} {h' : Heap} {o : Option (List UInt8 × List UInt8)} (ho : o = none) : WithinRet g len o .none h' := by subst ho; rfl
theorem wturn_ret {σ : Type} {g : Heap} {L : Addr} {s : Shared} {Led : σ → List (Addr × Obj)} {ps : σ → List (Str × Value)} {stored : List Str} {m₀ : Str → Option Value} {P : σ → Prop} {μ : σ → Nat} {Q : Flow → Shared → Prop} {c : σ} {v : Value} {s₂ : Shared} (h : Q (.ret v) s₂) : WTurn g L s Led ps stored m₀ P μ Q c (.ret v) s₂ := h
end Mine
end
section
open PySem PySem.W PySem.Spec PySem.Calls PyProof.Rows
namespace Mine
theorem fillX14 : (PySem.Challenge.rw_no0368_01, ltop.heap_1) = (PySem.Challenge.rw_no0368_01, ltop.heap_1) := by k_fill; rfl
theorem _root_.Mine.rowsX14_1 : True := by
  k_with_none
  k_with "subscriptTail" => (k_here; (with_reducible show wpAny _ _ (subscriptTail _ _ (Value.bytes _ _) (Value.int _ _)) _ _ _); k_dflt (refine b_item rfl (by assumption) (by assumption) ?_); intro _ _)
  k_with "subscriptTail" => (k_here; (with_reducible show wpAny _ _ (subscriptTail _ (Expr.Slice (some _) (some _) none _) (Value.bytes _ _) (Value.ref _)) _ _ _); (with_reducible rename Fr _ _ _ _ => F'); (with_reducible rename News _ _ _ _ => N'); k_dflt (refine b_slice (s := ⟨_, _, _, _, _⟩) F' N' (by constructor) (by constructor) (by assumption) (by first | exact cut1 rfl rfl (by assumption) | exact cut0 rfl rfl (by assumption) | exact cut2 rfl rfl (by assumption)) ?_); intro _ _ _ _ _)
  k_with "compareOp Eq bytes bytes" => (k_here; (with_reducible show wpAny _ _ (compareOp CmpOp.Eq (Value.bytes _ _) (Value.bytes _ _)) _ _ _); k_dflt (refine b_eq (by first | exact beq_cons_false (by assumption) | exact beq_self_true | exact (rfl : _ = false) | exact (rfl : _ = true)) ?_))
  k_with "compareOp NotEq bytes bytes" => (k_here; (with_reducible show wpAny _ _ (compareOp CmpOp.NotEq (Value.bytes _ _) (Value.bytes _ _)) _ _ _); k_dflt (refine b_ne (by first | exact bne_cons_true (by assumption) | exact bne_self_false | exact (rfl : _ = false) | exact (rfl : _ = true)) ?_))
  k_with "call builtin:len" => (k_here; (with_reducible show wpAny _ _ (call (Value.builtin "len") [Value.bytes _ _]) _ _ _); k_dflt (refine b_len (by assumption) ?_); intro _ _)
  k_with "compareOp In int bytes" => (k_here; (with_reducible show wpAny _ _ (compareOp CmpOp.In (Value.int _ _) (Value.bytes _ _)) _ _ _); k_dflt (refine b_in rfl (by first | assumption | rfl) ?_))
  k_with "exec Raise some none" => (k_here; k_dflt (refine raise_wf (by assumption) ?_))
  k_with "ktr_unf" => ((refine' enter (by assumption) ?k6 ?k7 ?k9 ?kl ?c2 ?c3 ?c4 ?c5 ?_); (case k6 => k_is); (case k7 => k_is); (case k9 => exact BindsTo.of_eq rfl); (case kl => exact locs rfl); (case c2 => exact rfl); (case c3 => exact rfl); (case c4 => exact rfl); (case c5 => decide); intro A le L h₁ hh B hd hu X T F N; (try (have hHd := hh rfl)); (try k_unmd); (try dsimp only); k_fold)
  k_with "ktr_rel" => ((try dsimp only); (refine ret_end (by assumption) ?_))
  k_with "call ref" => (k_here; (with_reducible show wpAny _ _ (call (Value.ref 59) _) _ _ _); k_dflt (refine wf_make_K (by assumption) (by assumption) (by assumption) (by omega) (by first | exact .inr ⟨_, _, rfl⟩ | exact .inl rfl) ?_); intro h' tk' e' H'; k_dflt (refine leave_new (by assumption) (by assumption) H' rfl ?_))
  k_with "ite" => (k_here; k_dflt (first
    | (refine ite_pos (by first | omega | (simp only [decide_eq_true_eq, beq_iff_eq, bne_iff_ne, ne_eq, Bool.and_eq_true, Bool.or_eq_true, Bool.not_eq_true', decide_eq_false_iff_not, beq_eq_false_iff_ne]; omega) | exact beq_self_eq_true _) ?_; walk_say "PRUNED here")
    | (refine ite_neg (by first | omega | (simp only [decide_eq_true_eq, beq_iff_eq, bne_iff_ne, ne_eq, Bool.and_eq_true, Bool.or_eq_true, Bool.not_eq_true', decide_eq_false_iff_not, beq_eq_false_iff_ne]; omega) | exact beq_self_eq_true _) ?_; walk_say "PRUNED here")))
  k_with "compareOp In int ref" => (k_here; (with_reducible show wpAny _ _ (compareOp CmpOp.In (Value.int _ _) (Value.ref 62)) _ _ _); k_dflt (refine in_nev (by assumption) (by assumption) ?_))
  k_with "exec While Compare" => (k_here; (with_reducible show wpAny _ _ (exec (Stmt.While _ _ _ _) _) _ _ _); (refine hold ?_); walk_say "HELD")
  k_with "exec For" => (k_here; (with_reducible show wpAny _ _ (exec (Stmt.For _ _ _ _ _) _) _ _ _); (refine hold ?_); walk_say "HELD")
  k_with "assign Tuple" => (k_here; (with_reducible show wpAny _ _ (assign (Expr.Tuple _ _ _) _ (Value.ref _)) _ _ _); k_dflt (refine unpackN_ (by k_asm) (by k_asm) (News.isTup (by k_asm) (by k_mem)) (by assumption) rfl rfl ?_); intro h' F' N'; (try k_sweep))
  k_with "call builtin:list.append" => (k_here; (with_reducible show wpAny _ _ (call (Value.builtin _) [Value.ref _, _]) _ _ _); k_dflt (refine' append_K (by k_asm) (by k_asm) (by k_upd) ?_ (by first | size_fits | (rw [sizeLine_eq]; show List.length _ ≤ _; omega)); k_whole); intro h' F' N'; (try simp only [List.push_toArray] at N'); (try k_sweep))
  k_with "exec If" => (k_here; (fail_if_success (with_reducible rename Go4 => hGo9)); (with_reducible show wpAny _ _ (exec (Stmt.If (Expr.Compare _ [CmpOp.Eq] [Expr.Name _ _] _) _ _ _) _) _ _ _); (refine hold ?_); walk_say "HELD")
  k_with "exec If" => (k_here; (fail_if_success (with_reducible rename Go5 => hGo9)); (with_reducible show wpAny _ _ (exec (Stmt.If (Expr.Compare _ [CmpOp.In] [Expr.Name _ _] _) _ _ _) _) _ _ _); (refine hold ?_); walk_say "HELD")
  k_with "exec If" => (k_here; (fail_if_success (with_reducible rename Go6 => hGo9)); (with_reducible show wpAny _ _ (exec (Stmt.If (Expr.Compare _ [CmpOp.Eq] [Expr.Constant _ _ _] _) _ _ _) _) _ _ _); (refine hold ?_); walk_say "HELD")
  trivial
section
variable {w : World} {mean : ExcName → Option Value} {mg mb : Str → Option Value} {base : Heap} {s : Shared} {l r : List UInt8} {td ta tk tb : Tok} {n : Nat} {k c : UInt8} {bl : List UInt8}
structure WiSt where
  j : Nat
  t : Tok
  vs : List Value
  acc : List UInt8
  ep : Nat
theorem within_spec (hb : Bas w mean mg mb base) (hz : l.length ≤ 16777216) :
    Spec w base 204 [.bytes l.toArray td, .int (n : Int) ta, .int (k.toNat : Int) tk, .bytes bl.toArray tb] false 20 400 s (WithinRet s.heap l.length (closed k bl (l.drop n))) False := by
  ktr_unf
  k_steps
  refine unhold ?_
  refine' while_k1 (σ := WiSt) (fun c => listOf c.vs.toArray c.ep) (fun c => [(Str.ofString "at", .int (c.j : Nat) c.t)]) [Str.ofString "code"]
    (fun c => IntsAre c.vs (c.acc.map ofB) ∧ c.vs.length ≤ c.j ∧ (c.j ≤ l.length ∨ c.vs = []) ∧ closed k bl (l.drop n) = (closed k bl (l.drop c.j)).map fun p => (c.acc ++ p.1, p.2)) (fun c => l.length - c.j) ⟨n, ?tt, [], [], 0⟩ (by assumption) (by assumption) ?hk ?hp ?turn
  case hk => exact List.forall_mem_singleton.mpr (by with_unfolding_all rfl)
  case hp => exact ⟨.nil, Nat.zero_le _, .inr rfl, by cases closed k bl (l.drop n) <;> rfl⟩
  case turn =>
  rintro ⟨j, t, vs, acc, ep⟩ u h tkk' ⟨hP, hv, hj, hc⟩ F N
  dsimp only at hP hv hj hc F N
  cases D : l.drop j with
  | nil =>
    rw [D] at hc
    have h1 := drop_nil_le D
    have hc' : closed k bl (l.drop n) = none := by rw [hc, closed.eq_def]; rfl
    k_unmd
    k_fold
    k_steps
    all_goals ktr_rel
    all_goals exact within_none hc'
  | cons c r =>
    rw [D] at hc
    have h1 := drop_lt D
    have D1 := drop_succ D
    have hlen : l.length = j + 1 + r.length := by
      have := congrArg List.length D
      rw [List.length_drop] at this
      simp at this; omega
    have hjl : j ≤ l.length := Nat.le_of_lt h1
    clear hlen
    k_unmd
    k_fold
    k_steps
    refine unhold ?_
    by_cases hk : c = k
    · subst hk
      have g4 := go4
      have hc' : closed c bl (l.drop n) = some (acc, r) := by
        rw [hc, closed_cons]; rw [if_pos rfl]; simp
      k_unmd
      (try k_fold)
      k_steps
      all_goals refine wturn_ret ?_
      all_goals ktr_rel
      all_goals exact within_end (by assumption) (by k_mem) (by first | assumption | exact Ne.symm (by assumption) | omega) hc' hP (by rw [← D1, List.length_drop]; omega)
    have hk' : c.toNat ≠ k.toNat := fun h => hk (UInt8.toNat_inj.mp h)
    have g4 := go4
    k_unmd
    (try k_fold)
    k_steps
    refine unhold ?_
    have g5 := go5
    cases hbar : bl.contains c with
    | true =>
      have hc' : closed k bl (l.drop n) = none := by
        rw [hc, closed_cons]; rw [if_neg hk, if_pos hbar]; rfl
      k_unmd
      (try k_fold)
      k_steps
      all_goals refine wturn_ret ?_
      all_goals ktr_rel
      all_goals exact within_none hc'
    | false =>
      have hbar' : ¬ bl.contains c = true := by rw [hbar]; exact Bool.false_ne_true
      k_unmd
      (try k_fold)
      k_steps
      refine unhold ?_
      have g6 := go6
      by_cases h92 : c = 92
      · subst h92
        have h92' : (92 : UInt8).toNat = 92 := rfl
        cases r with
        | nil =>
          have hc' : closed k bl (l.drop n) = none := by
            rw [hc, closed_cons]; rw [if_neg hk, if_neg hbar', if_pos rfl]; rfl
          have hlen : l.length = j + 1 := by
            have := congrArg List.length D
            rw [List.length_drop] at this
            simp at this; omega
          k_unmd
          (try k_fold)
          k_steps
          all_goals refine wturn_ret ?_
          all_goals ktr_rel
          all_goals exact within_none hc'
        | cons e r =>
          have hc' : closed k bl (l.drop n) = (closed k bl (l.drop (j + 2))).map fun p => ((acc ++ [e]) ++ p.1, p.2) := by
            rw [hc, drop_succ (drop_succ D)]
            rw [closed_cons, if_neg hk, if_neg hbar', if_pos rfl, Option.map_map]
            congr 1
            funext p
            simp
          have h2 := drop_lt D1
          k_unmd
          (try k_fold)
          k_steps
          all_goals exact wturn_next ⟨j + 2, _, vs ++ [_], acc ++ [e], ep + 1⟩ (by assumption) (by assumption) (by kst_in) (by kst_all) (by first | exact fun z h2 h3 => (same_tac (h2 _ (.head _)) (ne_of_stored h3 (by decide))).trans (kst1_rest (h2 _ (.head _)) h3) | exact fun z h2 h3 => (same3 (h2 _ (.head _)) (ne_of_stored h3 (by decide)) (h2 _ (.head _))).trans (kst1_rest (h2 _ (.head _)) h3) | exact fun z h2 h3 => (same3 (h2 _ (.head _)) (ne_of_stored h3 (by decide)) (ne_of_stored h3 (by decide))).trans (kst1_rest (h2 _ (.head _)) h3) | exact fun z h2 h3 => (same4 (h2 _ (.head _)) (ne_of_stored h3 (by decide)) (h2 _ (.head _)) (ne_of_stored h3 (by decide))).trans (kst1_rest (h2 _ (.head _)) h3)) ⟨by rw [List.map_append]; exact IntsAre.snoc hP, (by simp only [List.length_append, List.length_singleton]; omega), .inl h2, hc'⟩ (Nat.sub_lt_sub_left h1 (Nat.lt_succ_of_lt (Nat.lt_succ_self _)))
      · have h92' : c.toNat ≠ 92 := fun h => h92 (UInt8.toNat_inj.mp h)
        have hc' : closed k bl (l.drop n) = (closed k bl (l.drop (j + 1))).map fun p => ((acc ++ [c]) ++ p.1, p.2) := by
          rw [hc, drop_succ D]
          rw [closed_cons, if_neg hk, if_neg hbar', if_neg h92, Option.map_map]
          congr 1
          funext p
          simp
        k_unmd
        (try k_fold)
        k_steps
        all_goals exact wturn_next ⟨j + 1, _, vs ++ [_], acc ++ [c], ep + 1⟩ (by assumption) (by assumption) (by kst_in) (by kst_all) (by first | exact fun z h2 h3 => (same_tac (h2 _ (.head _)) (ne_of_stored h3 (by decide))).trans (kst1_rest (h2 _ (.head _)) h3) | exact fun z h2 h3 => (same3 (h2 _ (.head _)) (ne_of_stored h3 (by decide)) (h2 _ (.head _))).trans (kst1_rest (h2 _ (.head _)) h3) | exact fun z h2 h3 => (same3 (h2 _ (.head _)) (ne_of_stored h3 (by decide)) (ne_of_stored h3 (by decide))).trans (kst1_rest (h2 _ (.head _)) h3) | exact fun z h2 h3 => (same4 (h2 _ (.head _)) (ne_of_stored h3 (by decide)) (h2 _ (.head _)) (ne_of_stored h3 (by decide))).trans (kst1_rest (h2 _ (.head _)) h3)) ⟨by rw [List.map_append]; exact IntsAre.snoc hP, (by simp only [List.length_append, List.length_singleton]; omega), .inl h1, hc'⟩ (Nat.sub_lt_sub_left h1 (Nat.lt_succ_self _))
end
end Mine
end
section
open PySem PySem.W PySem.Spec PySem.Calls PyProof.Rows
namespace Mine
theorem ints_of_items : ∀ (vs : List Value) (l : List UInt8), vs.length = l.length → (∀ (j : Nat) (v : Value), vs[j]? = some v → ∃ c u, l[j]? = some c ∧ v = .int (c.toNat : Int) u) → IntsAre vs (l.map ofB)
  | [], [], _, _ => .nil
  | [], _ :: _, h, _ => by simp at h
  | _ :: _, [], h, _ => by simp at h
  | v :: vs, c :: l, h, k => by
    obtain ⟨c', u, h1, h2⟩ := k 0 v rfl
    cases h1
    subst h2
    exact .cons _ _ (ints_of_items vs l (by simpa using h) fun j w hw => k (j + 1) w hw)
section
variable {prog : Program} {w : World} {A : Around} {E : Value → Shared → Prop} {s : Shared}
theorem extend_bytes {R : Result → Shared → Prop} (hh : A.handled = none) (b : Array UInt8) (t : Tok) (S : Addr) (res : Value) (c₀ : Nat) (hS : s.heap.get? S = some { cls := .type "list", data := .seq #[] c₀ })
    (hR : ∀ h' tk acc' c', (∀ b o, b ≠ S → s.heap.get? b = some o → h'.get? b = some o) → h'.get? S = some { cls := .type "list", dict := none, data := .seq acc' c', slots := #[] } →
      ItemsOf (fun i v => ∃ c u, b[i]? = some c ∧ v = .int (c.toNat : Int) u) acc' b.size → R (.ok (.ret res)) { s with heap := h', toks := tk }) (hn : b.size ≤ sizeLine) :
    wpAny (model prog w) A.in1 (Builtin.List.listExtendWith (.ref S) (.bytes b t) res)
      (fun fin s' => match fin with | .done f => R (.ok f) s' | .again c' => c'.quiet = true ∧ codeAny (model prog w) A c' R s') (fun e s' => R (.error e) s') s := by
  have ne : S ≠ s.heap.objs.size := Nat.ne_of_lt (Heap.lt_size hS)
  unfold Builtin.List.listExtendWith
  refine wpAny_bind (wpAny_typeOf (typeIs_bytes s b t) ?_)
  have h1 : Builtin.List.listSameRef (.ref S) (.bytes b t) = false := rfl
  have h2 : (Value.type "bytes" == Value.type "list") = false := by decide
  have h3 : (Value.type "bytes" == Value.type "tuple") = false := by decide
  simp only [h1, h2, h3, Bool.or_false, Bool.false_eq_true, if_false]
  refine wpAny_bind (KBw.pyIter_bytes ?_)
  refine wpAny_bind (wpAny_holding ?_)
  unfold Builtin.List.listLengthHint
  refine wpAny_bind (wpAny_specialOf (typeIs_bytes _ b t) FB.slot_bytes_len.lookup ?_)
  wp_delta
  refine wpAny_bind (wpAny_isInstance (typeIs_bytes _ b t) (b := true) (by rw [isSubtype_type]; kernel_rfl) ?_)
  show wpAny _ _ (typeOf (Value.bytes b t) >>= _) _ _ _
  refine wpAny_bind (wpAny_typeOf (typeIs_bytes _ b t) ?_)
  refine wpAny_pure ?_
  rw [if_neg (by decide)]
  refine wpAny_pure ⟨plainId_quiet F.plain_extend_loop _, codeAny_extend_loopS (KBw.walks (A := A.in1) hh s.heap.objs.size b t).toS hn _ (fun m => ne (List.mem_singleton.mp m)) _ b.size 0 _ _ _ rfl (Nat.zero_le _) ⟨_, Heap.get?_push_size _ rfl, rfl, rfl⟩ (Heap.get?_push_of_some _ hS) (ItemsOf.nil _) fun s' acc' c' hm hS' hacc => ?_⟩
  rw [Moved.eq_with hm]
  refine hR s'.heap s'.toks acc' c' (fun d ob hd e => hm.heap d ob (fun hmem => ?_) (Heap.get?_push_of_some _ e)) hS' hacc
  rcases List.mem_cons.mp hmem with e' | hmem
  · exact hd e'
  · exact absurd (Heap.lt_size e) (by rw [List.mem_singleton.mp hmem]; exact Nat.lt_irrefl _)
theorem list_bytes {l : List UInt8} {t : Tok} {Q : Value → Shared → Prop} {g : Heap} {L : Addr} {m : Str → Option Value} {news : List (Addr × Obj)} (hh : A.handled = none) (Fh : Fr g L s.heap m) (N : News g L s.heap news) (hn : l.length ≤ 16777216)
    (hQ : ∀ D h' tk vs ep, Fr g L h' m → News g L h' ((D, listOf (List.toArray vs) ep) :: news) → AllNe D news → IntsAre vs (l.map ofB) → Q (.ref D) { s with heap := h', toks := tk }) :
    wpAny (model prog w) A (call (.type "list") [.bytes l.toArray t]) Q E s := by
  refine callType_codes (Q₁ := fun obj s₁ => obj = .ref s.heap.objs.size ∧ s₁ = { s with heap := s.heap.push { cls := .type "list", data := .seq #[] } }) F.called_list (F.typeCall_list_1 _) F.entry_list_init
    (code_list_new _ ⟨rfl, rfl⟩) fun obj s₁ h₁ => ?_
  obtain ⟨rfl, rfl⟩ := h₁
  have hS : (s.heap.push { cls := .type "list", data := .seq #[] }).get? s.heap.objs.size = some { cls := .type "list", data := .seq #[] } := Heap.get?_push_size _ rfl
  refine ⟨⟨_, hS, rfl⟩, F.args_list_init_2 _ _, ?_⟩
  show wpAny _ _ (do let old ← Builtin.List.listItems (.ref s.heap.objs.size); Builtin.List.listUpdate (.ref s.heap.objs.size) (fun _ => #[]); letGo old.toList.reverse; Builtin.List.listExtendWith (.ref s.heap.objs.size) (.bytes l.toArray t) .none) _ _ _
  refine wpAny_bind ?_
  unfold Builtin.List.listItems
  refine wpAny_bind (wpAny_seqItems hS rfl (wpAny_pure ?_))
  show wpAny _ _ (updateSeq s.heap.objs.size (fun _ => #[]) >>= fun _ => letGo (#[] : Array Value).toList.reverse >>= fun _ => Builtin.List.listExtendWith (.ref s.heap.objs.size) (.bytes l.toArray t) .none) _ _ _
  refine wpAny_bind (wpAny_updateSeq hS rfl ?_)
  have hS₂ := Heap.get?_update_self (Obj.mapSeq (fun _ => (#[] : Array Value))) hS rfl
  refine wpAny_bind (wpAny_letGo ?_)
  refine extend_bytes (A := A.in1) hh l.toArray t _ .none _ hS₂ (fun h' tk acc' c' hk hS' hacc => ?_) (by rw [sizeLine_eq]; exact hn)
  have keep : ∀ b o, s.heap.get? b = some o → h'.get? b = some o := fun b o e => by
    have ne : b ≠ s.heap.objs.size := Nat.ne_of_lt (Heap.lt_size e)
    exact hk b o ne ((Heap.get?_update_other _ _ (Ne.symm ne)).trans (Heap.get?_push_of_some _ e))
  have hD : s.heap.get? s.heap.objs.size = none := by
    cases e : s.heap.get? s.heap.objs.size with
    | none => rfl
    | some o => exact absurd (Heap.lt_size e) (Nat.lt_irrefl _)
  have N' : News g L h' news := fun p hp => ⟨keep _ _ (N p hp).1, (N p hp).2⟩
  refine ⟨rfl, hQ _ h' tk acc'.toList c' (Fh.keeps keep) (news_cons' Fh hD N' hS') (allNe_of (news_ne N hD)) (ints_of_items _ _ (by simpa using hacc.1) fun j v hv => ?_)⟩
  obtain ⟨c, u, h1, h2⟩ := hacc.2 j v (by simpa using hv)
  exact ⟨c, u, by simpa using h1, h2⟩
end
end Mine
end
section
open PySem PySem.W PySem.Spec PySem.Calls PyProof.Rows
namespace Mine
noncomputable def sideQ (o k : UInt8) (bl : List UInt8) : List UInt8 → Option (List UInt8 × List UInt8)
  | [] => none
  | c :: r => if c = o then closed k bl r else runOf (c :: r)
theorem runOf_tw {l : List UInt8} {n : Nat} (hn : n ≤ l.length) : runOf (l.drop n) = if tw l n = [] then none else some (tw l n, l.drop (n + (tw l n).length)) := by
  unfold runOf
  rw [tw_drop hn]
theorem WithinRet.old {g g₂ : Heap} {len : Nat} {o : Option (List UInt8 × List UInt8)} {v : Value} {h' : Heap} (hk : ∀ D, g₂.get? D = none → g.get? D = none) (h : WithinRet g₂ len o v h') : WithinRet g len o v h' := by
  cases o with
  | none => exact h
  | some p =>
    obtain ⟨T, P, vs, t, ep, k, h1, h2, h3, h4⟩ := h
    exact ⟨T, P, vs, t, ep, k, h1, hk _ h2, hk _ h3, h4⟩
section
variable {w : World} {mean : ExcName → Option Value} {mg mb : Str → Option Value} {base g : Heap} {s : Shared} {l r : List UInt8} {td ta tk tb : Tok} {n j n' : Nat} {k c : UInt8} {bl : List UInt8} {A : Around} {le : List Env} {L a : Addr} {m : Str → Option Value} {news : List (Addr × Obj)} {name : Str} {scope : Scope} {cd : Value} {Q E : Value → Shared → Prop}
theorem call_within (hb : Bas w mean mg mb base) (hz : l.length ≤ 16777216) (B : Below A base le g) (F : Fr g L s.heap m) (N : News g L s.heap news) (hh : A.handled = none) (hd : A.depth + 21 < recursionLimit) (hu : A.units + 403 < cLine) (hk : scope.kind = .function)
    (ret : ∀ r h' tk', Fr g L h' m → News g L h' news → WithinRet g l.length (closed k bl (l.drop n)) r h' → Q r { s with heap := h', toks := tk' }) :
    wpAny (model PySem.Challenge.rw_no0368_01.row.toRowW.prog w) (A.deeper (envOf name scope L a cd)) (call (.ref 204) [.bytes l.toArray td, .int (n : Int) ta, .int (k.toNat : Int) tk, .bytes bl.toArray tb]) Q E s :=
  call_spec (within_spec hb hz) B F N (fun _ => hh) hd hu hk (fun r h' tk' F' N' K hr => ret r h' tk' F' N' (hr.old fun D hD => kts_none F.keep hD)) False.elim
end
end Mine
end
section
open PySem PySem.W PySem.Spec PySem.Calls PyProof.Rows
namespace Mine
theorem fillX15 : (PySem.Challenge.rw_no0368_01, ltop.heap_1) = (PySem.Challenge.rw_no0368_01, ltop.heap_1) := by k_fill; rfl
theorem drop_sub {l : List UInt8} {j m : Nat} (h : j = m) (hle : j ≤ l.length) : ((j : Nat) : Int) = ((l.length - (l.drop m).length : Nat) : Int) := by subst h; rw [List.length_drop]; omega
theorem _root_.Mine.rowsX15_1 : True := by
  k_with_none
  k_with "subscriptTail" => (k_here; (with_reducible show wpAny _ _ (subscriptTail _ _ (Value.bytes _ _) (Value.int _ _)) _ _ _); k_dflt (refine b_item rfl (by assumption) (by assumption) ?_); intro _ _)
  k_with "subscriptTail" => (k_here; (with_reducible show wpAny _ _ (subscriptTail _ (Expr.Slice (some _) (some _) none _) (Value.bytes _ _) (Value.ref _)) _ _ _); (with_reducible rename Fr _ _ _ _ => F'); (with_reducible rename News _ _ _ _ => N'); k_dflt (refine b_slice (s := ⟨_, _, _, _, _⟩) F' N' (by constructor) (by constructor) (by assumption) (by first | exact cut1 rfl rfl (by assumption) | exact cut0 rfl rfl (by assumption) | exact cut2 rfl rfl (by assumption)) ?_); intro _ _ _ _ _)
  k_with "compareOp Eq bytes bytes" => (k_here; (with_reducible show wpAny _ _ (compareOp CmpOp.Eq (Value.bytes _ _) (Value.bytes _ _)) _ _ _); k_dflt (refine b_eq (by first | exact beq_cons_false (by assumption) | exact beq_self_true | exact (rfl : _ = false) | exact (rfl : _ = true)) ?_))
  k_with "compareOp NotEq bytes bytes" => (k_here; (with_reducible show wpAny _ _ (compareOp CmpOp.NotEq (Value.bytes _ _) (Value.bytes _ _)) _ _ _); k_dflt (refine b_ne (by first | exact bne_cons_true (by assumption) | exact bne_self_false | exact (rfl : _ = false) | exact (rfl : _ = true)) ?_))
  k_with "call builtin:len" => (k_here; (with_reducible show wpAny _ _ (call (Value.builtin "len") [Value.bytes _ _]) _ _ _); k_dflt (refine b_len (by assumption) ?_); intro _ _)
  k_with "compareOp In int bytes" => (k_here; (with_reducible show wpAny _ _ (compareOp CmpOp.In (Value.int _ _) (Value.bytes _ _)) _ _ _); k_dflt (refine b_in rfl (by first | assumption | rfl) ?_))
  k_with "exec Raise some none" => (k_here; k_dflt (refine raise_wf (by assumption) ?_))
  k_with "ktr_unf" => ((refine' enter (by assumption) ?k6 ?k7 ?k9 ?kl ?c2 ?c3 ?c4 ?c5 ?_); (case k6 => k_is); (case k7 => k_is); (case k9 => exact BindsTo.of_eq rfl); (case kl => exact locs rfl); (case c2 => exact rfl); (case c3 => exact rfl); (case c4 => exact rfl); (case c5 => decide); intro A le L h₁ hh B hd hu X T F N; (try (have hHd := hh rfl)); (try k_unmd); (try dsimp only); k_fold)
  k_with "ktr_rel" => ((try dsimp only); (refine ret_end (by assumption) ?_))
  k_with "call ref" => (k_here; (with_reducible show wpAny _ _ (call (Value.ref 59) _) _ _ _); k_dflt (refine wf_make_K (by assumption) (by assumption) (by assumption) (by omega) (by first | exact .inr ⟨_, _, rfl⟩ | exact .inl rfl) ?_); intro h' tk' e' H'; k_dflt (refine leave_new (by assumption) (by assumption) H' rfl ?_))
  k_with "ite" => (k_here; k_dflt (first
    | (refine ite_pos (by first | omega | (simp only [decide_eq_true_eq, beq_iff_eq, bne_iff_ne, ne_eq, Bool.and_eq_true, Bool.or_eq_true, Bool.not_eq_true', decide_eq_false_iff_not, beq_eq_false_iff_ne]; omega) | exact beq_self_eq_true _) ?_; walk_say "PRUNED here")
    | (refine ite_neg (by first | omega | (simp only [decide_eq_true_eq, beq_iff_eq, bne_iff_ne, ne_eq, Bool.and_eq_true, Bool.or_eq_true, Bool.not_eq_true', decide_eq_false_iff_not, beq_eq_false_iff_ne]; omega) | exact beq_self_eq_true _) ?_; walk_say "PRUNED here")))
  k_with "compareOp In int ref" => (k_here; (with_reducible show wpAny _ _ (compareOp CmpOp.In (Value.int _ _) (Value.ref 62)) _ _ _); k_dflt (refine in_nev (by assumption) (by assumption) ?_))
  k_with "exec While Compare" => (k_here; (with_reducible show wpAny _ _ (exec (Stmt.While _ _ _ _) _) _ _ _); (refine hold ?_); walk_say "HELD")
  k_with "exec For" => (k_here; (with_reducible show wpAny _ _ (exec (Stmt.For _ _ _ _ _) _) _ _ _); (refine hold ?_); walk_say "HELD")
  k_with "assign Tuple" => (k_here; (with_reducible show wpAny _ _ (assign (Expr.Tuple _ _ _) _ (Value.ref _)) _ _ _); k_dflt (refine unpackN_ (by k_asm) (by k_asm) (News.isTup (by k_asm) (by k_mem)) (by assumption) rfl rfl ?_); intro h' F' N'; (try k_sweep))
  k_with "call builtin:list.append" => (k_here; (with_reducible show wpAny _ _ (call (Value.builtin _) [Value.ref _, _]) _ _ _); k_dflt (refine' append_K (by k_asm) (by k_asm) (by k_upd) ?_ (by first | size_fits | (rw [sizeLine_eq]; show List.length _ ≤ _; omega)); k_whole); intro h' F' N'; (try simp only [List.push_toArray] at N'); (try k_sweep))
  k_with "exec While BoolOp" => (k_here; (with_reducible show wpAny _ _ (exec (Stmt.While _ _ _ _) _) _ _ _); (refine hold ?_); walk_say "HELD")
  k_with "call ref" => (k_here; (with_reducible show wpAny _ _ (call (Value.ref 197) _) _ _ _); k_dflt (refine call_spec (lrun_spec (by assumption)) (by assumption) (by assumption) (by assumption) (fun q => by cases q) (by omega) (by omega) rfl ?_ (fun x => x.elim)); intro _ _ _ _ _ _ er'; subst er'; (try dsimp only); (try simp only [*]))
  k_with "subscriptTail" => (k_here; (with_reducible show wpAny _ _ (subscriptTail _ (Expr.Slice (some _) (some _) none _) (Value.bytes _ _) (Value.ref _)) _ _ _); (with_reducible rename Fr _ _ _ _ => F'); (with_reducible rename News _ _ _ _ => N'); k_dflt (refine b_slice (s := ⟨_, _, _, _, _⟩) F' N' (by constructor) (by constructor) (by assumption) (by exact cut_run rfl rfl (by assumption) (by assumption)) ?_); intro _ _ _ _ _)
  k_with "call ref" => (k_here; (with_reducible show wpAny _ _ (call (Value.ref 204) _) _ _ _); k_dflt (refine call_within (by assumption) (by assumption) (by assumption) (by assumption) (by assumption) (by assumption) (by omega) (by omega) rfl ?_); intro r' _ _ _ _ hW')
  k_with "call type:list" => (k_here; (with_reducible show wpAny _ _ (call (Value.type _) [Value.bytes _ _]) _ _ _); k_dflt (refine list_bytes (by assumption) (by assumption) (by assumption) (by omega) ?_); intro _ _ _ _ _ _ _ ne' hI'; (try simp only [AllNe, and_true] at ne'))
  trivial
section
variable {w : World} {mean : ExcName → Option Value} {mg mb : Str → Option Value} {base : Heap} {s : Shared} {l r : List UInt8} {td ta tk tb to : Tok} {n : Nat} {o k c : UInt8} {bl : List UInt8}
theorem side_spec (hb : Bas w mean mg mb base) (hz : l.length ≤ 65536) :
    Spec w base 211 [.bytes l.toArray td, .int (n : Int) ta, .int (o.toNat : Int) to, .int (k.toNat : Int) tk, .bytes bl.toArray tb] false 30 600 s (WithinRet s.heap l.length (sideQ o k bl (l.drop n))) False := by
  have hz' : l.length ≤ 16777216 := by omega
  by_cases hq : ∃ r, l.drop n = o :: r
  · obtain ⟨r, D⟩ := hq
    have h1 := drop_lt D
    have hs : closed k bl (l.drop (n + 1)) = sideQ o k bl (l.drop n) := by rw [drop_succ D, D]; unfold sideQ; dsimp only; rw [if_pos rfl]
    ktr_unf
    k_steps
    all_goals ktr_rel
    all_goals (rw [← hs]; exact (by assumption))
  have hsq : sideQ o k bl (l.drop n) = runOf (l.drop n) := by
    cases D : l.drop n with
    | nil => rfl
    | cons c r => unfold sideQ; dsimp only; rw [if_neg (fun h => hq ⟨r, by rw [D, h]⟩)]
  rw [hsq]
  cases D0 : l.drop n with
  | nil =>
    have h0 := drop_nil_le D0
    have hn0 : runOf [] = none := rfl
    ktr_unf
    k_steps
    refine unhold ?_
    refine' while_k0 (σ := Nat × Tok) (fun c => [(Str.ofString "end", .int (c.1 : Nat) c.2)]) [] (fun c => c.1 = n) (fun c => l.length - c.1) ⟨n, ?tta⟩ (by assumption) ?hk ?hp ?turn
    case hk => exact List.forall_mem_singleton.mpr (by with_unfolding_all rfl)
    case hp => exact rfl
    case turn =>
    rintro ⟨j, t⟩ um h tkk' hj F N
    dsimp only at hj F N
    subst hj
    k_unmd
    k_fold
    k_steps
    all_goals ktr_rel
    all_goals exact within_none hn0
  | cons c0 r0 =>
    have h0 := drop_lt D0
    have h0' : c0.toNat ≠ o.toNat := fun h => hq ⟨r0, by rw [D0, UInt8.toNat_inj.mp h]⟩
    ktr_unf
    k_steps
    refine unhold ?_
    refine' while_k0 (σ := Nat × Tok) (fun c => [(Str.ofString "end", .int (c.1 : Nat) c.2)]) []
      (fun c => n ≤ c.1 ∧ (c.1 ≤ l.length ∨ c.1 = n) ∧ c.1 + (tw l c.1).length = n + (tw l n).length) (fun c => l.length - c.1) ⟨n, ?ttb⟩ (by assumption) ?hk ?hp ?turn
    case hk => exact List.forall_mem_singleton.mpr (by with_unfolding_all rfl)
    case hp => exact ⟨Nat.le_refl _, .inr rfl, rfl⟩
    case turn =>
    rintro ⟨j, t⟩ um h tkk' ⟨hn, hj, hc⟩ F N
    dsimp only at hn hj hc F N
    have stop : tw l j = [] → (j = n → runOf (c0 :: r0) = none) ∧ (j ≠ n → n ≤ l.length ∧ j = n + (tw l n).length ∧ tw l n ≠ []) := fun e => by
      rw [e] at hc
      have hc : j = n + (tw l n).length := hc
      refine ⟨fun q => ?_, fun q => ⟨by omega, hc, fun z => q (by rw [z] at hc; exact hc)⟩⟩
      have e0 : tw l n = [] := List.eq_nil_of_length_eq_zero (by omega)
      show runOf (c0 :: r0) = none
      rw [← D0]
      unfold runOf
      rw [if_pos e0]
    have stop2 : n ≤ l.length → tw l n ≠ [] → runOf (c0 :: r0) = some (tw l n, l.drop (n + (tw l n).length)) := fun e1 e2 => by
      rw [← D0, runOf_tw e1, if_neg e2]
    cases D : l.drop j with
    | nil =>
      have h1 := drop_nil_le D
      obtain ⟨e1, e2⟩ := stop (tw_nil D)
      by_cases q : j = n
      · exfalso; omega
      · obtain ⟨g1, g2, g3⟩ := e2 q
        have g4 := stop2 g1 g3
        have hjl := hj.resolve_right q
        have hlw : (tw l n).length ≤ 16777216 := Nat.le_trans (Nat.le_trans (Nat.le_add_left _ n) (g2 ▸ hjl)) hz'
        clear e1 e2 stop
        k_unmd
        k_fold
        k_steps
        all_goals ktr_rel
        all_goals exact within_end (p := (tw l n, _)) (by assumption) (by k_mem) (by first | assumption | exact Ne.symm (by assumption) | omega) g4 (by assumption) (drop_sub g2 hjl)
    | cons c r =>
      have h1 := drop_lt D
      cases hr : isRun c with
      | true =>
        have e := tw_step D hr
        clear stop
        k_unmd
        k_fold
        k_steps
        have hc2 : j + 1 + (tw l (j + 1)).length = n + (tw l n).length := by rw [e, List.length_cons] at hc; omega
        refine wturn_next ⟨j + 1, _⟩ (by assumption) (by assumption) (by kst_in) (by kst_all) (fun z h2 h3 => (if_neg (h2 _ (.head _))).trans (kst1_rest (h2 _ (.head _)) h3)) ⟨Nat.le_succ_of_le hn, .inl h1, hc2⟩ (Nat.sub_lt_sub_left h1 (Nat.lt_succ_self _))
      | false =>
        obtain ⟨e1, e2⟩ := stop (tw_stop D hr)
        by_cases q : j = n
        · subst q
          have e1 := e1 rfl
          clear e2 stop
          rw [D0] at D
          cases D
          k_unmd
          k_fold
          k_steps
          all_goals (ktr_rel; exact within_none e1)
        · obtain ⟨g1, g2, g3⟩ := e2 q
          have g4 := stop2 g1 g3
          have hjl := hj.resolve_right q
          have hlw : (tw l n).length ≤ 16777216 := Nat.le_trans (Nat.le_trans (Nat.le_add_left _ n) (g2 ▸ hjl)) hz'
          clear e1 e2 stop
          k_unmd
          k_fold
          k_steps
          all_goals ktr_rel
          all_goals exact within_end (p := (tw l n, _)) (by assumption) (by k_mem) (by first | assumption | exact Ne.symm (by assumption) | omega) g4 (by assumption) (drop_sub g2 hjl)
end
end Mine
end
section
open PySem PySem.W PySem.Spec PySem.Calls PyProof.Rows
namespace Mine
/-- what stands behind a comment, any depth -/
noncomputable def commentU : Nat → List UInt8 → Option (List UInt8)
  | 0, l => some l
  | _ + 1, [] => none
  | d + 1, c :: r => if c = 40 then commentU (d + 2) r else if c = 41 then commentU d r else if c = 92 then (match r with | [] => none | _ :: r' => commentU (d + 1) r') else commentU (d + 1) r
theorem commentU_zero {l : List UInt8} : commentU 0 l = some l := by cases l <;> rw [commentU.eq_def]
theorem commentU_nil {d : Nat} : commentU (d + 1) [] = none := by rw [commentU.eq_def]
theorem commentU_cons {d : Nat} {c : UInt8} {r : List UInt8} : commentU (d + 1) (c :: r) = if c = 40 then commentU (d + 2) r else if c = 41 then commentU d r else if c = 92 then (match r with | [] => none | _ :: r' => commentU (d + 1) r') else commentU (d + 1) r := by rw [commentU.eq_def]
noncomputable def PastRet (len : Nat) (o : Option (List UInt8)) (v : Value) : Prop :=
  match o with
  | none => v = .none
  | some r => ∃ t, v = .int ((len - r.length : Nat) : Int) t
theorem past_some {len : Nat} {o : Option (List UInt8)} {r : List UInt8} {x : Int} {t : Tok} (h : o = some r) (hx : x = ((len - r.length : Nat) : Int)) : PastRet len o (.int x t) := by subst h hx; exact ⟨t, rfl⟩
theorem past_none {len : Nat} {o : Option (List UInt8)} (h : o = none) : PastRet len o .none := by subst h; rfl
end Mine
end
section
open PySem PySem.W PySem.Spec PySem.Calls PyProof.Rows
namespace Mine
theorem fillX16 : (PySem.Challenge.rw_no0368_01, ltop.heap_1) = (PySem.Challenge.rw_no0368_01, ltop.heap_1) := by k_fill; rfl
theorem _root_.Mine.rowsX16_1 : True := by
  k_with_none
  k_with "subscriptTail" => (k_here; (with_reducible show wpAny _ _ (subscriptTail _ _ (Value.bytes _ _) (Value.int _ _)) _ _ _); k_dflt (refine b_item rfl (by assumption) (by assumption) ?_); intro _ _)
  k_with "subscriptTail" => (k_here; (with_reducible show wpAny _ _ (subscriptTail _ (Expr.Slice (some _) (some _) none _) (Value.bytes _ _) (Value.ref _)) _ _ _); (with_reducible rename Fr _ _ _ _ => F'); (with_reducible rename News _ _ _ _ => N'); k_dflt (refine b_slice (s := ⟨_, _, _, _, _⟩) F' N' (by constructor) (by constructor) (by assumption) (by first | exact cut1 rfl rfl (by assumption) | exact cut0 rfl rfl (by assumption) | exact cut2 rfl rfl (by assumption)) ?_); intro _ _ _ _ _)
  k_with "compareOp Eq bytes bytes" => (k_here; (with_reducible show wpAny _ _ (compareOp CmpOp.Eq (Value.bytes _ _) (Value.bytes _ _)) _ _ _); k_dflt (refine b_eq (by first | exact beq_cons_false (by assumption) | exact beq_self_true | exact (rfl : _ = false) | exact (rfl : _ = true)) ?_))
  k_with "compareOp NotEq bytes bytes" => (k_here; (with_reducible show wpAny _ _ (compareOp CmpOp.NotEq (Value.bytes _ _) (Value.bytes _ _)) _ _ _); k_dflt (refine b_ne (by first | exact bne_cons_true (by assumption) | exact bne_self_false | exact (rfl : _ = false) | exact (rfl : _ = true)) ?_))
  k_with "call builtin:len" => (k_here; (with_reducible show wpAny _ _ (call (Value.builtin "len") [Value.bytes _ _]) _ _ _); k_dflt (refine b_len (by assumption) ?_); intro _ _)
  k_with "compareOp In int bytes" => (k_here; (with_reducible show wpAny _ _ (compareOp CmpOp.In (Value.int _ _) (Value.bytes _ _)) _ _ _); k_dflt (refine b_in rfl (by first | assumption | rfl) ?_))
  k_with "exec Raise some none" => (k_here; k_dflt (refine raise_wf (by assumption) ?_))
  k_with "ktr_unf" => ((refine' enter (by assumption) ?k6 ?k7 ?k9 ?kl ?c2 ?c3 ?c4 ?c5 ?_); (case k6 => k_is); (case k7 => k_is); (case k9 => exact BindsTo.of_eq rfl); (case kl => exact locs rfl); (case c2 => exact rfl); (case c3 => exact rfl); (case c4 => exact rfl); (case c5 => decide); intro A le L h₁ hh B hd hu X T F N; (try (have hHd := hh rfl)); (try k_unmd); (try dsimp only); k_fold)
  k_with "ktr_rel" => ((try dsimp only); (refine ret_end (by assumption) ?_))
  k_with "call ref" => (k_here; (with_reducible show wpAny _ _ (call (Value.ref 59) _) _ _ _); k_dflt (refine wf_make_K (by assumption) (by assumption) (by assumption) (by omega) (by first | exact .inr ⟨_, _, rfl⟩ | exact .inl rfl) ?_); intro h' tk' e' H'; k_dflt (refine leave_new (by assumption) (by assumption) H' rfl ?_))
  k_with "ite" => (k_here; k_dflt (first
    | (refine ite_pos (by first | omega | (simp only [decide_eq_true_eq, beq_iff_eq, bne_iff_ne, ne_eq, Bool.and_eq_true, Bool.or_eq_true, Bool.not_eq_true', decide_eq_false_iff_not, beq_eq_false_iff_ne]; omega) | exact beq_self_eq_true _) ?_; walk_say "PRUNED here")
    | (refine ite_neg (by first | omega | (simp only [decide_eq_true_eq, beq_iff_eq, bne_iff_ne, ne_eq, Bool.and_eq_true, Bool.or_eq_true, Bool.not_eq_true', decide_eq_false_iff_not, beq_eq_false_iff_ne]; omega) | exact beq_self_eq_true _) ?_; walk_say "PRUNED here")))
  k_with "compareOp In int ref" => (k_here; (with_reducible show wpAny _ _ (compareOp CmpOp.In (Value.int _ _) (Value.ref 62)) _ _ _); k_dflt (refine in_nev (by assumption) (by assumption) ?_))
  k_with "exec While Compare" => (k_here; (with_reducible show wpAny _ _ (exec (Stmt.While _ _ _ _) _) _ _ _); (refine hold ?_); walk_say "HELD")
  k_with "exec For" => (k_here; (with_reducible show wpAny _ _ (exec (Stmt.For _ _ _ _ _) _) _ _ _); (refine hold ?_); walk_say "HELD")
  k_with "assign Tuple" => (k_here; (with_reducible show wpAny _ _ (assign (Expr.Tuple _ _ _) _ (Value.ref _)) _ _ _); k_dflt (refine unpackN_ (by k_asm) (by k_asm) (News.isTup (by k_asm) (by k_mem)) (by assumption) rfl rfl ?_); intro h' F' N'; (try k_sweep))
  k_with "call builtin:list.append" => (k_here; (with_reducible show wpAny _ _ (call (Value.builtin _) [Value.ref _, _]) _ _ _); k_dflt (refine' append_K (by k_asm) (by k_asm) (by k_upd) ?_ (by first | size_fits | (rw [sizeLine_eq]; show List.length _ ≤ _; omega)); k_whole); intro h' F' N'; (try simp only [List.push_toArray] at N'); (try k_sweep))
  k_with "exec If" => (k_here; (fail_if_success (with_reducible rename Go4 => hGo9)); (with_reducible show wpAny _ _ (exec (Stmt.If _ _ (_ :: _) _) _) _ _ _); (refine hold ?_); walk_say "HELD")
  trivial
section
variable {w : World} {mean : ExcName → Option Value} {mg mb : Str → Option Value} {base : Heap} {s : Shared} {l r r0 : List UInt8} {td ta tk tb to : Tok} {n : Nat} {o k c : UInt8} {bl : List UInt8}
structure LpSt where
  j : Nat
  d : Nat
  t : Tok
  u : Tok
theorem lpast_spec (hb : Bas w mean mg mb base) (hz : l.length ≤ 16777216) (D0 : l.drop n = 40 :: r0) :
    Spec w base 223 [.bytes l.toArray td, .int (n : Int) ta] false 20 400 s (fun v _ => PastRet l.length (commentU 1 (l.drop (n + 1))) v) False := by
  have hn0 := drop_lt D0
  ktr_unf
  k_steps
  refine unhold ?_
  refine' while_k0 (σ := LpSt) (fun c => [(Str.ofString "at", .int (c.j : Nat) c.t), (Str.ofString "depth", .int (c.d : Nat) c.u)]) [Str.ofString "code"]
    (fun c => n ≤ c.j ∧ c.j ≤ l.length ∧ ((c.d = 0 ∧ c.j = n) ∨ (0 < c.d ∧ commentU 1 (l.drop (n + 1)) = commentU c.d (l.drop c.j)))) (fun c => l.length - c.j) ⟨n, 0, ?tt, ?t2⟩ (by assumption) ?hk ?hp ?turn
  case hk => exact List.forall_mem_cons.mpr ⟨by with_unfolding_all rfl, List.forall_mem_singleton.mpr (by with_unfolding_all rfl)⟩
  case hp => exact ⟨Nat.le_refl _, Nat.le_of_lt hn0, .inl ⟨rfl, rfl⟩⟩
  case turn =>
  rintro ⟨j, d, t, u⟩ um h tkk' ⟨hn, hj, hd⟩ F N
  dsimp only at hn hj hd F N
  have hnl : ∀ c r, l.drop j = c :: r → c ≠ 40 → 0 < d ∧ commentU 1 (l.drop (n + 1)) = commentU d (l.drop j) := fun c r e h => by
    rcases hd with ⟨h1, h2⟩ | h2
    · rw [h2, D0] at e; exact absurd (List.cons.inj e).1.symm h
    · exact h2
  cases D : l.drop j with
  | nil =>
    have h1 := drop_nil_le D
    have hc' : commentU 1 (l.drop (n + 1)) = none := by
      rcases hd with ⟨e1, e2⟩ | ⟨e1, e2⟩
      · rw [e2, D0] at D; cases D
      · obtain ⟨d, rfl⟩ : ∃ d', d = d' + 1 := ⟨d - 1, by omega⟩
        rw [e2, D, commentU_nil]
    clear hd hnl D0
    k_unmd
    k_fold
    k_steps
    all_goals ktr_rel
    all_goals exact past_none hc'
  | cons c r =>
    have h1 := drop_lt D
    have D1 := drop_succ D
    have hlen : l.length = j + 1 + r.length := by
      have := congrArg List.length D
      rw [List.length_drop] at this
      simp at this; omega
    have h40 : c = 40 → commentU 1 (l.drop (n + 1)) = commentU (d + 1) (l.drop (j + 1)) := fun e => by
      rcases hd with ⟨e1, e2⟩ | ⟨e1, e2⟩
      · rw [e1, e2]
      · obtain ⟨d, rfl⟩ : ∃ d', d = d' + 1 := ⟨d - 1, by omega⟩
        rw [e2, D, commentU_cons, if_pos e, D1]
    have hn4 : c ≠ 40 → ∃ d', d = d' + 1 ∧ commentU 1 (l.drop (n + 1)) = commentU (d' + 1) (c :: r) := fun e => by
      obtain ⟨h2, h3⟩ := hnl c r D e
      exact ⟨d - 1, by omega, by rw [h3, D, show d - 1 + 1 = d by omega]⟩
    clear hd hnl D0
    k_unmd
    k_fold
    k_steps
    refine unhold ?_
    refine set2_cut (Str.ofString "at") (fun a : (Nat × Nat) × (Tok × Tok) => .int (a.1.1 : Nat) a.2.1) (Str.ofString "depth") (fun a => .int (a.1.2 : Nat) a.2.2) (fun a => j ≤ a.1.1 ∧ a.1.1 < l.length ∧ commentU 1 (l.drop (n + 1)) = commentU a.1.2 (l.drop (a.1.1 + 1))) (by assumption) (by assumption) ?here ?past
    case here =>
      have hgo := go4
      by_cases h40c : c = 40
      · subst h40c
        have h40' : (40 : UInt8).toNat = 40 := rfl
        have hc' := h40 rfl
        clear h40 hn4
        k_unmd
        (try k_fold)
        k_steps
        all_goals exact set2_end ((j, d + 1), (_, _)) (by assumption) (by assumption) ⟨Nat.le_refl _, h1, hc'⟩ (by with_unfolding_all rfl) (by with_unfolding_all rfl) (fun _ _ h => if_neg h) (fun _ h => h)
      · obtain ⟨d, rfl, hc⟩ := hn4 h40c
        have h40' : c.toNat ≠ 40 := fun h => h40c (UInt8.toNat_inj.mp h)
        clear h40 hn4
        by_cases h41 : c = 41
        · subst h41
          have h41' : (41 : UInt8).toNat = 41 := rfl
          have hc' : commentU 1 (l.drop (n + 1)) = commentU d (l.drop (j + 1)) := by rw [hc, commentU_cons, if_neg h40c, if_pos rfl, D1]
          clear hc
          k_unmd
          (try k_fold)
          k_steps
          all_goals exact set2_end ((j, d), (_, _)) (by assumption) (by assumption) ⟨Nat.le_refl _, h1, hc'⟩ (by with_unfolding_all rfl) (by with_unfolding_all exact int_dec) (fun _ _ h => if_neg h) (fun _ h => h)
        · have h41' : c.toNat ≠ 41 := fun h => h41 (UInt8.toNat_inj.mp h)
          by_cases h92 : c = 92
          · subst h92
            have h92' : (92 : UInt8).toNat = 92 := rfl
            cases r with
            | nil =>
              have hc' : commentU 1 (l.drop (n + 1)) = none := by rw [hc, commentU_cons, if_neg h40c, if_neg h41, if_pos rfl]
              simp only [List.length_nil] at hlen
              clear hc
              k_unmd
              (try k_fold)
              k_steps
              all_goals refine set2_out ?_
              all_goals refine wturn_ret ?_
              all_goals ktr_rel
              all_goals exact past_none hc'
            | cons e r =>
              have hc' : commentU 1 (l.drop (n + 1)) = commentU (d + 1) (l.drop (j + 2)) := by rw [hc, commentU_cons, if_neg h40c, if_neg h41, if_pos rfl, drop_succ D1]
              simp only [List.length_cons] at hlen
              clear hc
              k_unmd
              (try k_fold)
              k_steps
              all_goals exact set2_end ((j + 1, d + 1), (_, _)) (by assumption) (by assumption) ⟨Nat.le_succ _, (by dsimp only; omega), hc'⟩ (by with_unfolding_all rfl) (by with_unfolding_all rfl) (fun _ h _ => if_neg h) (fun _ h => h)
          · have h92' : c.toNat ≠ 92 := fun h => h92 (UInt8.toNat_inj.mp h)
            have hc' : commentU 1 (l.drop (n + 1)) = commentU (d + 1) (l.drop (j + 1)) := by rw [hc, commentU_cons, if_neg h40c, if_neg h41, if_neg h92, D1]
            clear hc
            k_unmd
            (try k_fold)
            k_steps
            all_goals exact set2_end ((j, d + 1), (_, _)) (by assumption) (by assumption) ⟨Nat.le_refl _, h1, hc'⟩ (by with_unfolding_all rfl) (by with_unfolding_all rfl) (fun _ _ _ => rfl) (fun _ h => h)
    case past =>
    rintro ⟨⟨j2, d2⟩, ⟨t2, u2⟩⟩ h2 tk2 ⟨hj2, hl2, hc⟩ F N
    dsimp only at hj2 hl2 hc F
    clear h40 hn4 hlen D1 D h1
    have hgo := go4
    cases d2 with
    | zero =>
      have hc' : commentU 1 (l.drop (n + 1)) = some (l.drop (j2 + 1)) := by rw [hc, commentU_zero]
      have hlen : j2 + 1 = l.length - (l.drop (j2 + 1)).length := by rw [List.length_drop]; omega
      k_unmd
      (try k_fold)
      k_steps
      all_goals refine wturn_ret ?_
      all_goals ktr_rel
      all_goals exact past_some hc' (by omega)
    | succ d2 =>
      k_unmd
      (try k_fold)
      k_steps
      all_goals exact wturn_next ⟨j2 + 1, d2 + 1, _, _⟩ (by assumption) (by assumption) (by intro p hp; cases hp) (by kst_all) (fun z h2 h3 => (same4 (h2 _ (.head _)) (h2 _ (.head _)) (h2 _ (.tail _ (.head _))) (ne_of_stored h3 (by decide))).trans (kst2_rest (h2 _ (.head _)) (h2 _ (.tail _ (.head _))) h3)) ⟨Nat.le_trans hn (Nat.le_succ_of_le hj2), hl2, .inr ⟨Nat.succ_pos _, hc⟩⟩ (Nat.sub_lt_sub_left (Nat.lt_of_le_of_lt hj2 hl2) (Nat.lt_succ_of_le hj2))
end
end Mine
end
section
open PySem PySem.W PySem.Spec PySem.Calls PyProof.Rows
namespace Mine
/-- how many round brackets -/
noncomputable def rnd (l : List UInt8) : Nat := l.countP fun c => c == 40 || c == 41
theorem rnd_cons (c : UInt8) (r : List UInt8) : rnd (c :: r) = rnd r + if (c == 40 || c == 41) = true then 1 else 0 := by
  unfold rnd; rw [List.countP_cons]
theorem rnd_suffix {l r : List UInt8} (h : r <:+ l) : rnd r ≤ rnd l := h.sublist.countP_le
/-- to close d brackets takes d signs -/
theorem commentU_needs : ∀ (n d : Nat) (l r : List UInt8), l.length ≤ n → commentU d l = some r → d ≤ rnd l := by
  intro n
  induction n with
  | zero =>
    intro d l r h e
    have : l = [] := List.eq_nil_of_length_eq_zero (by omega)
    subst this
    cases d with
    | zero => exact Nat.zero_le _
    | succ d => rw [commentU_nil] at e; cases e
  | succ n ih =>
    intro d l r h e
    cases d with
    | zero => exact Nat.zero_le _
    | succ d =>
      cases l with
      | nil => rw [commentU_nil] at e; cases e
      | cons c l =>
        rw [commentU_cons] at e
        simp only [List.length_cons] at h
        rw [rnd_cons]
        by_cases h40 : c = 40
        · subst h40
          rw [if_pos rfl] at e
          have := ih _ _ _ (by omega) e
          omega
        rw [if_neg h40] at e
        by_cases h41 : c = 41
        · subst h41
          rw [if_pos rfl] at e
          have := ih _ _ _ (by omega) e
          rw [if_pos (by decide)]
          omega
        rw [if_neg h41] at e
        by_cases h92 : c = 92
        · rw [if_pos h92] at e
          cases l with
          | nil => cases e
          | cons x l =>
            simp only [List.length_cons] at h
            have := ih _ _ _ (by omega) e
            rw [rnd_cons]
            omega
        · rw [if_neg h92] at e
          have := ih _ _ _ (by omega) e
          omega
theorem comment_U : ∀ (n d : Nat) (l : List UInt8), l.length ≤ n → d + rnd l ≤ 41 → comment d l = commentU d l := by
  intro n
  induction n with
  | zero =>
    intro d l h e
    have : l = [] := List.eq_nil_of_length_eq_zero (by omega)
    subst this
    cases d with
    | zero => rw [comment_zero, commentU_zero]
    | succ d => rw [comment_nil, commentU_nil]
  | succ n ih =>
    intro d l h e
    cases d with
    | zero => rw [comment_zero, commentU_zero]
    | succ d =>
      cases l with
      | nil => rw [comment_nil, commentU_nil]
      | cons c l =>
        rw [comment_cons, commentU_cons]
        simp only [List.length_cons] at h
        rw [rnd_cons] at e
        by_cases h40 : c = 40
        · subst h40
          rw [if_pos rfl, if_pos rfl]
          rw [if_pos (by decide)] at e
          split
          · cases q : commentU (d + 2) l with
            | none => rfl
            | some r => have := commentU_needs _ _ _ _ (Nat.le_refl _) q; omega
          · exact ih _ _ (by omega) (by omega)
        rw [if_neg h40, if_neg h40]
        by_cases h41 : c = 41
        · subst h41
          rw [if_pos rfl, if_pos rfl]
          exact ih _ _ (by omega) (by omega)
        rw [if_neg h41, if_neg h41]
        by_cases h92 : c = 92
        · rw [if_pos h92, if_pos h92]
          cases l with
          | nil => rfl
          | cons x l =>
            simp only [List.length_cons] at h
            rw [rnd_cons] at e
            exact ih _ _ (by omega) (by omega)
        · rw [if_neg h92, if_neg h92]
          exact ih _ _ (by omega) (by omega)
/-- the law's own reader: comments of any depth -/
noncomputable def skipU (c : UInt8) (r : List UInt8) : List UInt8 :=
  if c = 34 then (match closed 34 [] r with | some p => p.2 | none => r) else if c = 40 then (match commentU 1 r with | some q => q | none => r) else r
noncomputable def lreadF : Nat → List UInt8 → List (List UInt8)
  | 0, _ => []
  | _ + 1, [] => []
  | f + 1, c :: r => if c = 60 then (match idOf r with | some p => p.1 :: lreadF f p.2 | none => lreadF f r) else lreadF f (skipU c r)
theorem skip_U {c : UInt8} {r : List UInt8} (h : rnd (c :: r) ≤ 41) : skip c r = skipU c r := by
  unfold skip skipU
  by_cases h34 : c = 34
  · rw [if_pos h34, if_pos h34]; try rfl
  rw [if_neg h34, if_neg h34]
  by_cases h40 : c = 40
  · subst h40
    rw [if_pos rfl, if_pos rfl]
    rw [rnd_cons, if_pos (by decide)] at h
    rw [comment_U _ _ _ (Nat.le_refl _) (by omega)]
    try rfl
  · rw [if_neg h40, if_neg h40]
theorem lreadF_eq : ∀ (f : Nat) (l : List UInt8), rnd l ≤ 41 → readF f l = lreadF f l := by
  intro f
  induction f with
  | zero => intro l h; rfl
  | succ f ih =>
    intro l h
    cases l with
    | nil => rfl
    | cons c r =>
      have hr : rnd r ≤ 41 := Nat.le_trans (rnd_suffix (List.suffix_cons c r)) h
      unfold readF lreadF
      by_cases h60 : c = 60
      · rw [if_pos h60, if_pos h60]
        cases e : idOf r with
        | none => exact ih _ hr
        | some p =>
          dsimp only
          rw [ih p.2 (Nat.le_trans (rnd_suffix (idOf_suffix (p := p.1) (r := p.2) e)) hr)]
      · rw [if_neg h60, if_neg h60, ← skip_U h]
        exact ih _ (Nat.le_trans (rnd_suffix (skip_suffix c r)) hr)
theorem commentU_suffix : ∀ (n d : Nat) (l rest : List UInt8), l.length ≤ n → commentU d l = some rest → rest <:+ l := by
  intro n
  induction n with
  | zero =>
    intro d l rest h e
    have : l = [] := List.eq_nil_of_length_eq_zero (by omega)
    subst this
    cases d with
    | zero => rw [commentU_zero] at e; cases e; exact List.suffix_refl _
    | succ d => rw [commentU_nil] at e; cases e
  | succ n ih =>
    intro d l rest h e
    cases d with
    | zero => rw [commentU_zero] at e; cases e; exact List.suffix_refl _
    | succ d =>
      cases l with
      | nil => rw [commentU_nil] at e; cases e
      | cons c r =>
        rw [commentU_cons] at e
        simp only [List.length_cons] at h
        split at e
        · exact (ih _ _ _ (by omega) e).trans (List.suffix_cons _ _)
        split at e
        · exact (ih _ _ _ (by omega) e).trans (List.suffix_cons _ _)
        split at e
        · cases r with
          | nil => cases e
          | cons d r =>
            simp only [List.length_cons] at h
            exact ((ih _ _ _ (by omega) e).trans (List.suffix_cons _ _)).trans (List.suffix_cons _ _)
        · exact (ih _ _ _ (by omega) e).trans (List.suffix_cons _ _)
theorem skipU_suffix (c : UInt8) (r : List UInt8) : skipU c r <:+ r := by
  unfold skipU
  split
  · split
    · rename_i p h; exact closed_suffix _ _ _ p.1 p.2 h
    · exact List.suffix_refl _
  · split
    · split
      · rename_i q h; exact commentU_suffix _ _ _ _ (Nat.le_refl _) h
      · exact List.suffix_refl _
    · exact List.suffix_refl _
theorem lreadF_le : ∀ (f f' : Nat) (l : List UInt8), l.length ≤ f → l.length ≤ f' → lreadF f l = lreadF f' l := by
  intro f
  induction f with
  | zero =>
    intro f' l h h'
    have : l = [] := List.eq_nil_of_length_eq_zero (by omega)
    subst this
    cases f' <;> rfl
  | succ f ih =>
    intro f' l h h'
    cases l with
    | nil => cases f' <;> rfl
    | cons c r =>
      cases f' with
      | zero => simp at h'
      | succ f' =>
        simp only [List.length_cons] at h h'
        unfold lreadF
        by_cases h60 : c = 60
        · rw [if_pos h60, if_pos h60]
          cases e : idOf r with
          | none => exact ih _ _ (by omega) (by omega)
          | some p =>
            have := (idOf_suffix (p := p.1) (r := p.2) e).length_le
            dsimp only
            rw [ih f' p.2 (by omega) (by omega)]
        · rw [if_neg h60, if_neg h60]
          have := (skipU_suffix c r).length_le
          exact ih _ _ (by omega) (by omega)
noncomputable def lreadS (l : List UInt8) : List (List UInt8) := lreadF l.length l
theorem lreadS_eq {l : List UInt8} (h : rnd l ≤ 41) : readS l = lreadS l := lreadF_eq _ _ h
theorem lreadS_nil : lreadS [] = [] := rfl
theorem lreadS_id {r p q : List UInt8} (h : idOf r = some (p, q)) : lreadS (60 :: r) = p :: lreadS q := by
  have := (idOf_suffix h).length_le
  show lreadF (r.length + 1) (60 :: r) = _
  unfold lreadF
  rw [if_pos rfl, h]
  dsimp only
  rw [lreadF_le r.length q.length q (by omega) (Nat.le_refl _)]
  rfl
theorem lreadS_noid {r : List UInt8} (h : idOf r = none) : lreadS (60 :: r) = lreadS r := by
  show lreadF (r.length + 1) (60 :: r) = _
  unfold lreadF
  rw [if_pos rfl, h]
  rfl
theorem lreadS_skip {c : UInt8} {r : List UInt8} (h : c ≠ 60) : lreadS (c :: r) = lreadS (skipU c r) := by
  have := (skipU_suffix c r).length_le
  show lreadF (r.length + 1) (c :: r) = _
  unfold lreadF
  rw [if_neg h]
  exact lreadF_le _ _ _ (by omega) (Nat.le_refl _)
theorem skipU_other {c : UInt8} {r : List UInt8} (h : c ≠ 34) (h2 : c ≠ 40) : skipU c r = r := by unfold skipU; rw [if_neg h, if_neg h2]
theorem lreadS_34 {r p q : List UInt8} (h : closed 34 [] r = some (p, q)) : lreadS (34 :: r) = lreadS q := by
  rw [lreadS_skip (by decide)]; unfold skipU; rw [if_pos rfl, h]
theorem lreadS_34n {r : List UInt8} (h : closed 34 [] r = none) : lreadS (34 :: r) = lreadS r := by
  rw [lreadS_skip (by decide)]; unfold skipU; rw [if_pos rfl, h]
theorem lreadS_40 {r q : List UInt8} (h : commentU 1 r = some q) : lreadS (40 :: r) = lreadS q := by
  rw [lreadS_skip (by decide)]; unfold skipU; rw [if_neg (by decide), if_pos rfl, h]
theorem lreadS_40n {r : List UInt8} (h : commentU 1 r = none) : lreadS (40 :: r) = lreadS r := by
  rw [lreadS_skip (by decide)]; unfold skipU; rw [if_neg (by decide), if_pos rfl, h]
end Mine
end
section
open PySem PySem.W PySem.Spec PySem.Calls PyProof.Rows
namespace Mine
/-- the last place of a sign row -/
noncomputable def rf (pat : List UInt8) : List UInt8 → Option Nat
  | [] => if pat = [] then some 0 else none
  | c :: r => match rf pat r with | some i => some (i + 1) | none => if pat.isPrefixOf (c :: r) then some 0 else none
theorem rf_some {pat : List UInt8} : ∀ {p : List UInt8} {i : Nat}, rf pat p = some i → i ≤ p.length ∧ pat <+: p.drop i ∧ ∀ j, i < j → j ≤ p.length → ¬ pat <+: p.drop j
  | [], i, h => by
    unfold rf at h
    split at h
    · rename_i e; cases h; subst e; exact ⟨Nat.le_refl _, List.nil_prefix, fun j h1 h2 => by simp at h2; omega⟩
    · cases h
  | c :: r, i, h => by
    unfold rf at h
    split at h
    · rename_i k e
      cases h
      obtain ⟨a, b, d⟩ := rf_some e
      refine ⟨by simp; omega, b, fun j h1 h2 => ?_⟩
      obtain ⟨j, rfl⟩ : ∃ j', j = j' + 1 := ⟨j - 1, by omega⟩
      exact d j (by omega) (by simp at h2; omega)
    · rename_i e
      split at h
      · rename_i q
        cases h
        refine ⟨Nat.zero_le _, List.isPrefixOf_iff_prefix.mp q, fun j h1 h2 => ?_⟩
        obtain ⟨j, rfl⟩ : ∃ j', j = j' + 1 := ⟨j - 1, by omega⟩
        have key : ∀ {p : List UInt8}, rf pat p = none → ∀ j, j ≤ p.length → ¬ pat <+: p.drop j := by
          intro p
          induction p with
          | nil =>
            intro h j hj hp
            have : j = 0 := by simpa using hj
            subst this
            rw [List.drop_nil, List.prefix_nil] at hp
            subst hp
            unfold rf at h; rw [if_pos rfl] at h; cases h
          | cons x p ih =>
            intro h j hj hp
            unfold rf at h
            split at h
            · cases h
            · rename_i e
              split at h
              · cases h
              · rename_i q
                cases j with
                | zero => exact q (List.isPrefixOf_iff_prefix.mpr hp)
                | succ j => exact ih e j (by simpa using hj) hp
        exact key e j (by simpa using h2)
      · cases h
theorem rf_none {pat : List UInt8} : ∀ {p : List UInt8}, rf pat p = none → ∀ j, j ≤ p.length → ¬ pat <+: p.drop j := by
  intro p
  induction p with
  | nil =>
    intro h j hj hp
    have : j = 0 := by simpa using hj
    subst this
    rw [List.drop_nil, List.prefix_nil] at hp
    subst hp
    unfold rf at h; rw [if_pos rfl] at h; cases h
  | cons x p ih =>
    intro h j hj hp
    unfold rf at h
    split at h
    · cases h
    · rename_i e
      split at h
      · cases h
      · rename_i q
        cases j with
        | zero => exact q (List.isPrefixOf_iff_prefix.mpr hp)
        | succ j => exact ih e j (by simpa using hj) hp
theorem rf_is {pat p : List UInt8} {i : Nat} (hi : i ≤ p.length) (h : pat <+: p.drop i) (hn : ∀ j, i < j → j ≤ p.length → ¬ pat <+: p.drop j) : rf pat p = some i := by
  cases e : rf pat p with
  | none => exact absurd h (rf_none e i hi)
  | some k =>
    obtain ⟨a, b, d⟩ := rf_some e
    rcases Nat.lt_trichotomy i k with q | q | q
    · exact absurd b (hn k q a)
    · rw [q]
    · exact absurd h (d i q hi)
theorem rf_isSome {pat p : List UInt8} {i : Nat} (hi : i ≤ p.length) (h : pat <+: p.drop i) : ∃ k, rf pat p = some k := by
  cases e : rf pat p with
  | none => exact absurd h (rf_none e i hi)
  | some k => exact ⟨k, rfl⟩
noncomputable def escB (signs : List UInt8) : List UInt8 → List UInt8
  | [] => []
  | c :: r => if signs.contains c then 92 :: c :: escB signs r else c :: escB signs r
noncomputable def runAll (l : List UInt8) : Bool := !l.isEmpty && l.all isRun
noncomputable def spotOf (p : List UInt8) : Option Nat := if p.getLast? = some 93 then rf [64, 91] p else rf [64] p
noncomputable def sidesOf (p : List UInt8) : Option (List UInt8 × List UInt8) := (spotOf p).bind fun i => if p.all plainB = true then some (p.take i, p.drop (i + 1)) else none
noncomputable def leftW (l : List UInt8) : List UInt8 := if runAll l = true then l else 34 :: escB [34, 92] l ++ [34]
noncomputable def rightW (r : List UInt8) : Option (List UInt8) := if r.head? = some 91 ∧ (r.drop 1).getLast? = some 93 then some (91 :: escB [91, 93, 92] (r.drop 1).dropLast ++ [93]) else if runAll r = true then some r else none
noncomputable def idOct (p : List UInt8) : Option (List UInt8) := (sidesOf p).bind fun x => (rightW x.2).map fun R => 60 :: (leftW x.1 ++ 64 :: (R ++ [62]))
noncomputable def canB (p : List UInt8) : Bool := p.all plainB && (if p.getLast? = some 93 then (rf [64, 91] p).isSome else match rf [64] p with | none => false | some i => runAll (p.drop (i + 1)))
theorem closed_esc {k : UInt8} {bl signs : List UInt8} (hk : signs.contains k = true) (h92 : signs.contains 92 = true) (hb : ∀ c, bl.contains c = true → signs.contains c = true) (hb92 : bl.contains 92 = false) (hk92 : k ≠ 92) (rest : List UInt8) :
    ∀ q : List UInt8, closed k bl (escB signs q ++ k :: rest) = some (q, rest)
  | [] => by unfold escB; rw [List.nil_append, closed_cons, if_pos rfl]
  | c :: q => by
    unfold escB
    by_cases h : signs.contains c = true
    · rw [if_pos h, List.cons_append, closed_cons, if_neg (Ne.symm hk92), if_neg (by rw [hb92]; exact Bool.false_ne_true), if_pos rfl]
      rw [List.cons_append]
      dsimp only
      rw [closed_esc hk h92 hb hb92 hk92 rest q]
      rfl
    · have h1 : c ≠ k := fun e => h (e ▸ hk)
      have h2 : ¬ bl.contains c = true := fun e => h (hb c e)
      have h3 : c ≠ 92 := fun e => h (e ▸ h92)
      rw [if_neg h, List.cons_append, closed_cons, if_neg h1, if_neg h2, if_neg h3]
      rw [closed_esc hk h92 hb hb92 hk92 rest q]
      rfl
theorem runOf_run {l rest : List UInt8} {x : UInt8} (h : runAll l = true) (hx : isRun x = false) : runOf (l ++ x :: rest) = some (l, x :: rest) := by
  unfold runAll at h
  rw [Bool.and_eq_true] at h
  obtain ⟨h1, h2⟩ := h
  have hne : l ≠ [] := by intro e; subst e; simp at h1
  have h2' : ∀ c ∈ l, isRun c = true := List.all_eq_true.mp h2
  have t : (l ++ x :: rest).takeWhile isRun = l := by
    rw [List.takeWhile_append_of_pos h2', List.takeWhile_cons, hx]; simp
  have d : (l ++ x :: rest).dropWhile isRun = x :: rest := by
    rw [List.dropWhile_append_of_pos h2', List.dropWhile_cons, hx]; simp
  unfold runOf
  rw [t, d, if_neg hne]
theorem runAll_head {l : List UInt8} (h : runAll l = true) : ∃ c r, l = c :: r ∧ isRun c = true := by
  unfold runAll at h
  rw [Bool.and_eq_true] at h
  obtain ⟨h1, h2⟩ := h
  cases l with
  | nil => simp at h1
  | cons c r => exact ⟨c, r, rfl, by simp at h2; exact h2.1⟩
theorem isRun_34 : isRun 34 = false := by decide
theorem isRun_64 : isRun 64 = false := by decide
theorem isRun_62 : isRun 62 = false := by decide
theorem isRun_91 : isRun 91 = false := by decide
theorem isRun_93 : isRun 93 = false := by decide
theorem sideL_W (l rest : List UInt8) : sideL (leftW l ++ 64 :: rest) = some (l, 64 :: rest) := by
  unfold leftW
  by_cases h : runAll l = true
  · rw [if_pos h]
    obtain ⟨c, r, rfl, hc⟩ := runAll_head h
    have : c ≠ 34 := fun e => by rw [e, isRun_34] at hc; cases hc
    rw [List.cons_append]
    unfold sideL
    dsimp only
    rw [if_neg this]
    exact runOf_run h isRun_64
  · rw [if_neg h]
    rw [List.cons_append, List.cons_append]
    unfold sideL
    dsimp only
    rw [if_pos rfl, List.append_assoc]
    exact closed_esc (by decide) (by decide) (fun c hc => by simp at hc) (by decide) (by decide) _ _
theorem sideR_W {r R : List UInt8} (h : rightW r = some R) (rest : List UInt8) : sideR (R ++ 62 :: rest) = some (r, 62 :: rest) := by
  unfold rightW at h
  split at h
  · rename_i hb
    cases h
    obtain ⟨h1, h2⟩ := hb
    cases r with
    | nil => cases h1
    | cons c r =>
      have h1 : c = 91 := by simpa using h1
      subst h1
      simp only [List.drop_succ_cons, List.drop_zero] at h2 ⊢
      rw [List.cons_append, List.cons_append]
      unfold sideR
      dsimp only
      rw [if_pos rfl, List.append_assoc]
      rw [show [93] ++ 62 :: rest = 93 :: (62 :: rest) from rfl]
      rw [closed_esc (by decide) (by decide) (fun c hc => by simp at hc; subst hc; decide) (by decide) (by decide)]
      have : r.dropLast ++ [93] = r := by
        obtain ⟨t, rfl⟩ := List.getLast?_eq_some_iff.mp h2
        simp
      simp [this]
  · split at h
    · rename_i hr
      cases h
      obtain ⟨c, t, rfl, hc⟩ := runAll_head hr
      have : c ≠ 91 := fun e => by rw [e, isRun_91] at hc; cases hc
      rw [List.cons_append]
      unfold sideR
      dsimp only
      rw [if_neg this]
      exact runOf_run hr isRun_62
    · cases h
theorem idOf_W {l r R : List UInt8} (h : rightW r = some R) (hp : (l ++ r).all plainB = true) (rest : List UInt8) : idOf (leftW l ++ 64 :: (R ++ 62 :: rest)) = some (l ++ 64 :: r, rest) := by
  unfold idOf
  rw [sideL_W]
  show idMid l (64 :: (R ++ 62 :: rest)) = _
  rw [idMid_e (sideR_W h rest), idEnd_s hp]
theorem drop_prefix1 {p : List UInt8} {i : Nat} {c : UInt8} (h : [c] <+: p.drop i) : p = p.take i ++ c :: p.drop (i + 1) := by
  obtain ⟨t, ht⟩ := h
  have : p.drop (i + 1) = t := by rw [← List.drop_drop, ← ht]; rfl
  rw [this]
  conv => lhs; rw [← List.take_append_drop i p, ← ht]
  rfl
theorem getLast_drop {p : List UInt8} {i : Nat} (h : i < p.length) : (p.drop i).getLast? = p.getLast? := by
  conv => rhs; rw [← List.take_append_drop i p]
  rw [List.getLast?_append]
  cases e : (p.drop i).getLast? with
  | none => rw [List.getLast?_eq_none_iff, List.drop_eq_nil_iff] at e; omega
  | some x => rfl
theorem can_sides {p : List UInt8} (h : canB p = true) : ∃ l r R, sidesOf p = some (l, r) ∧ p = l ++ 64 :: r ∧ rightW r = some R ∧ (l ++ r).all plainB = true := by
  unfold canB at h
  rw [Bool.and_eq_true] at h
  obtain ⟨hp, h⟩ := h
  have key : ∀ i, spotOf p = some i → p = p.take i ++ 64 :: p.drop (i + 1) → ∀ R, rightW (p.drop (i + 1)) = some R → ∃ l r R, sidesOf p = some (l, r) ∧ p = l ++ 64 :: r ∧ rightW r = some R ∧ (l ++ r).all plainB = true := by
    intro i hs e R hR
    refine ⟨p.take i, p.drop (i + 1), R, ?_, e, hR, ?_⟩
    · unfold sidesOf
      rw [hs]
      show (if _ then _ else _) = _
      rw [if_pos hp]
    · rw [e, List.all_append, List.all_cons] at hp
      rw [List.all_append]
      simp only [Bool.and_eq_true] at hp ⊢
      exact ⟨hp.1, hp.2.2⟩
  by_cases hl : p.getLast? = some 93
  · rw [if_pos hl] at h
    obtain ⟨i, hi⟩ := Option.isSome_iff_exists.mp h
    obtain ⟨a, ⟨tl, htl⟩, d⟩ := rf_some hi
    have b1 : [64] <+: p.drop i := ⟨91 :: tl, htl⟩
    have e := drop_prefix1 b1
    have hdr : p.drop (i + 1) = 91 :: tl := by
      rw [← List.drop_drop, ← htl]; rfl
    refine key i (by unfold spotOf; rw [if_pos hl]; exact hi) e _ (by
      unfold rightW
      rw [if_pos]
      refine ⟨by rw [hdr]; rfl, ?_⟩
      have hlt : i + 1 < p.length := by
        have := congrArg List.length hdr
        rw [List.length_drop, List.length_cons] at this
        omega
      have g1 := getLast_drop hlt
      rw [hl, hdr] at g1
      rw [hdr]
      show tl.getLast? = _
      cases hb : tl with
      | nil => rw [hb] at g1; exact absurd g1 (by decide)
      | cons x t => rw [hb] at g1; simpa using g1)
  · rw [if_neg hl] at h
    cases hi : rf [64] p with
    | none => rw [hi] at h; cases h
    | some i =>
      rw [hi] at h
      have h : runAll (p.drop (i + 1)) = true := h
      obtain ⟨a, b, d⟩ := rf_some hi
      refine key i (by unfold spotOf; rw [if_neg hl]; exact hi) (drop_prefix1 b) (p.drop (i + 1)) ?_
      unfold rightW
      rw [if_neg, if_pos h]
      rintro ⟨q, _⟩
      obtain ⟨c, t, e, hc⟩ := runAll_head h
      rw [e] at q
      have : c = 91 := by simpa using q
      rw [this, isRun_91] at hc; cases hc
theorem cannot {p : List UInt8} (h : canB p = false) : idOct p = none := by
  unfold idOct sidesOf
  cases hs : spotOf p with
  | none => rfl
  | some i =>
    by_cases hp : p.all plainB = true
    · unfold canB at h
      rw [hp, Bool.true_and] at h
      unfold spotOf at hs
      by_cases hl : p.getLast? = some 93
      · rw [if_pos hl] at h hs
        rw [hs] at h; cases h
      · rw [if_neg hl] at h hs
        rw [hs] at h
        have h : runAll (p.drop (i + 1)) = false := h
        show ((if p.all plainB = true then some (p.take i, p.drop (i + 1)) else none).bind fun x => _) = none
        rw [if_pos hp]
        show (rightW (p.drop (i + 1))).map _ = none
        unfold rightW
        rw [if_neg, if_neg (by rw [h]; exact Bool.false_ne_true)]
        · rfl
        rintro ⟨q1, q2⟩
        rw [List.drop_drop] at q2
        have hlt : i + 1 + 1 < p.length := by
          apply Nat.lt_of_not_le
          intro hle
          rw [List.drop_eq_nil_of_le (by omega)] at q2
          cases q2
        rw [getLast_drop hlt] at q2
        exact hl q2
    · show ((if p.all plainB = true then some (p.take i, p.drop (i + 1)) else none).bind fun x => _) = none
      rw [if_neg hp]
      rfl
theorem can_oct {p : List UInt8} (h : canB p = true) : ∃ o, idOct p = some (60 :: o ++ [62]) ∧ ∀ rest, idOf (o ++ 62 :: rest) = some (p, rest) := by
  obtain ⟨l, r, R, h1, h2, h3, h4⟩ := can_sides h
  refine ⟨leftW l ++ 64 :: R, ?_, fun rest => ?_⟩
  · unfold idOct
    rw [h1]
    show (rightW r).map _ = _
    rw [h3]
    simp
  · rw [h2]
    have := idOf_W h3 h4 rest
    simpa using this
theorem mem_tw {f : UInt8 → Bool} {c : UInt8} : ∀ {l : List UInt8}, c ∈ l.takeWhile f → f c = true
  | [], h => by simp at h
  | x :: l, h => by
    rw [List.takeWhile_cons] at h
    split at h
    · rename_i hx
      rcases List.mem_cons.mp h with rfl | h
      · exact hx
      · exact mem_tw h
    · cases h
theorem idOf_can {x p rest : List UInt8} (h : idOf x = some (p, rest)) : canB p = true := by
  unfold idOf at h
  rw [Option.bind_eq_some_iff] at h
  obtain ⟨⟨l, r1⟩, h1, h2⟩ := h
  unfold idMid at h2
  dsimp only at h2
  split at h2
  · cases h2
  split at h2
  · rw [Option.bind_eq_some_iff] at h2
    obtain ⟨⟨r, r2⟩, h3, h4⟩ := h2
    unfold idEnd at h4
    dsimp only at h4
    split at h4
    · cases h4
    split at h4
    · split at h4
      · rename_i hp
        cases h4
        have hall : (l ++ 64 :: r).all plainB = true := by
          rw [List.all_append] at hp ⊢
          rw [List.all_cons]
          simp only [Bool.and_eq_true] at hp ⊢
          exact ⟨hp.1, by decide, hp.2⟩
        unfold canB
        rw [hall, Bool.true_and]
        unfold sideR at h3
        split at h3
        · cases h3
        split at h3
        · simp only [Option.map_eq_some_iff] at h3
          obtain ⟨⟨q, r3⟩, e1, e2⟩ := h3
          cases e2
          have hl : (l ++ 64 :: (91 :: q ++ [93])).getLast? = some 93 := by
            rw [show l ++ 64 :: (91 :: q ++ [93]) = (l ++ 64 :: 91 :: q) ++ [93] by simp, List.getLast?_append]; rfl
          rw [if_pos hl]
          obtain ⟨k, hk⟩ := rf_isSome (pat := [64, 91]) (p := l ++ 64 :: (91 :: q ++ [93])) (i := l.length) (by simp) (by rw [List.drop_left]; exact ⟨q ++ [93], by simp⟩)
          rw [hk]; rfl
        · have hr : runAll r = true := by
            unfold runOf at h3
            split at h3
            · cases h3
            · rename_i hne
              obtain ⟨e5, _⟩ := Prod.mk.inj (Option.some.inj h3)
              rw [e5] at hne
              unfold runAll
              rw [Bool.and_eq_true]
              refine ⟨by simpa using hne, ?_⟩
              rw [List.all_eq_true]
              intro c hc
              rw [← e5] at hc
              exact mem_tw hc
          have hall' : ∀ c ∈ r, isRun c = true := by
            unfold runAll at hr
            rw [Bool.and_eq_true] at hr
            exact List.all_eq_true.mp hr.2
          have hne : r ≠ [] := by intro e; subst e; cases hr
          have hl : (l ++ 64 :: r).getLast? ≠ some 93 := by
            intro e
            rw [List.getLast?_append, List.getLast?_cons] at e
            cases e2 : r.getLast? with
            | none => exact hne (List.getLast?_eq_none_iff.mp e2)
            | some z =>
              rw [e2] at e
              have hz : z = 93 := by simpa using e
              have := hall' z (List.mem_of_getLast? e2)
              rw [hz, isRun_93] at this; cases this
          rw [if_neg hl]
          have : rf [64] (l ++ 64 :: r) = some l.length := by
            refine rf_is (by simp) (by rw [List.drop_left]; exact ⟨r, rfl⟩) fun j h1 h2 h3 => ?_
            obtain ⟨k, rfl⟩ : ∃ k, j = l.length + (k + 1) := ⟨j - l.length - 1, by omega⟩
            rw [← List.drop_drop, List.drop_left, List.drop_succ_cons] at h3
            obtain ⟨t, ht⟩ := h3
            have hm : (64 : UInt8) ∈ r := List.mem_of_mem_drop (by rw [← ht]; exact List.mem_cons_self)
            have := hall' _ hm
            rw [isRun_64] at this; cases this
          rw [this]
          show runAll ((l ++ 64 :: r).drop (l.length + 1)) = true
          rw [← List.drop_drop, List.drop_left]
          exact hr
      · cases h4
    · cases h4
  · cases h2
/-- every text found can be written -/
theorem readF_can : ∀ (f : Nat) (l : List UInt8), ∀ p ∈ readF f l, canB p = true := by
  intro f
  induction f with
  | zero => intro l p h; cases h
  | succ f ih =>
    intro l p h
    cases l with
    | nil => cases h
    | cons c r =>
      unfold readF at h
      split at h
      · split at h
        · rename_i x e
          rcases List.mem_cons.mp h with rfl | h
          · exact idOf_can (rest := x.2) e
          · exact ih _ _ h
        · exact ih _ _ h
      · exact ih _ _ h
theorem readS_can {l p : List UInt8} (h : p ∈ readS l) : canB p = true := readF_can _ _ _ h
noncomputable def octs (ps : List (List UInt8)) : List (List UInt8) := ps.map fun p => (idOct p).getD []
theorem readS_oct {p : List UInt8} (h : canB p = true) (rest : List UInt8) : readS ((idOct p).getD [] ++ rest) = p :: readS rest := by
  obtain ⟨o, h1, h2⟩ := can_oct h
  rw [h1]
  show readS ((60 :: o ++ [62]) ++ rest) = _
  rw [List.append_assoc, List.cons_append]
  exact readS_id (h2 rest)
theorem readS_32 (r : List UInt8) : readS (32 :: r) = readS r := by
  rw [readS_skip (by decide), skip_other (by decide) (by decide)]
theorem readS_octs : ∀ (ps : List (List UInt8)), (∀ p ∈ ps, canB p = true) → readS (jn [32] (octs ps)) = ps
  | [], _ => rfl
  | [p], h => by
    show readS ((idOct p).getD []) = _
    have := readS_oct (h p (.head _)) []
    rw [List.append_nil] at this
    rw [this, readS_nil]
  | p :: q :: r, h => by
    show readS ((idOct p).getD [] ++ [32] ++ jn [32] (octs (q :: r))) = _
    rw [List.append_assoc, readS_oct (h p (.head _))]
    show p :: readS (32 :: jn [32] (octs (q :: r))) = _
    rw [readS_32, readS_octs (q :: r) fun x hx => h x (.tail _ hx)]
end Mine
end
section
open PySem PySem.W PySem.Spec PySem.Calls PyProof.Rows
namespace Mine
theorem sideQ_suffix {o k : UInt8} {bl l p r : List UInt8} (h : sideQ o k bl l = some (p, r)) : r <:+ l := by
  unfold sideQ at h
  split at h
  · cases h
  · split at h
    · exact (closed_suffix _ _ _ _ _ h).trans (List.suffix_cons _ _)
    · exact runOf_suffix h
theorem sideQ_len {o k : UInt8} {bl l p r : List UInt8} (h : sideQ o k bl l = some (p, r)) : p.length ≤ l.length := by
  unfold sideQ at h
  split at h
  · cases h
  · split at h
    · have := closed_length _ _ _ _ _ _ (Nat.le_refl _) h
      simp only [List.length_cons]; omega
    · unfold runOf at h
      split at h
      · cases h
      · cases h
        exact (List.takeWhile_sublist _).length_le
theorem sideL_Q {l : List UInt8} : sideL l = sideQ 34 34 [] l := by cases l <;> rfl
theorem sideR_91 {r : List UInt8} : sideR (91 :: r) = (sideQ 91 93 [91] (91 :: r)).map fun p => ([91] ++ p.1 ++ [93], p.2) := by
  unfold sideR sideQ; dsimp only; rw [if_pos rfl, if_pos rfl]; rfl
theorem sideR_o {c : UInt8} {r : List UInt8} (h : c ≠ 91) : sideR (c :: r) = sideQ 91 93 [91] (c :: r) := by
  unfold sideR sideQ; dsimp only; rw [if_neg h, if_neg h]
section
variable {w : World} {mean : ExcName → Option Value} {mg mb : Str → Option Value} {base g : Heap} {s : Shared} {l r : List UInt8} {td ta tk tb to : Tok} {n j n' : Nat} {o k c : UInt8} {bl : List UInt8} {A : Around} {le : List Env} {L a : Addr} {m : Str → Option Value} {news : List (Addr × Obj)} {name : Str} {scope : Scope} {cd : Value} {Q E : Value → Shared → Prop} {x y : Int}
theorem call_side (hb : Bas w mean mg mb base) (hz : l.length ≤ 65536) (B : Below A base le g) (F : Fr g L s.heap m) (N : News g L s.heap news) (hh : A.handled = none) (hd : A.depth + 31 < recursionLimit) (hu : A.units + 603 < cLine) (hk : scope.kind = .function) (hx : x = (o.toNat : Int)) (hy : y = (k.toNat : Int))
    (no : sideQ o k bl (l.drop n) = none → ∀ h' tk', Fr g L h' m → News g L h' news → Q .none { s with heap := h', toks := tk' })
    (ret : Held (∀ p rest sp T P vs t ep kk h' tk', sideQ o k bl (l.drop n) = some (p, rest) → l.drop sp = rest → sp ≤ l.length → p.length ≤ l.length → IntsAre vs (p.map ofB) → Fr g L h' m → News g L h' ((T, tupOf [.ref P, .int ((sp : Nat) : Int) t] kk) :: (P, listOf (List.toArray vs) ep) :: news) → AllNe T ((P, listOf (List.toArray vs) ep) :: news) → AllNe P news → Q (.ref T) { s with heap := h', toks := tk' })) :
    wpAny (model PySem.Challenge.rw_no0368_01.row.toRowW.prog w) (A.deeper (envOf name scope L a cd)) (call (.ref 211) [.bytes l.toArray td, .int (n : Int) ta, .int x to, .int y tk, .bytes bl.toArray tb]) Q E s := by
  subst hx hy
  refine call_spec (side_spec hb hz) B F N (fun _ => hh) hd hu hk (fun r h' tk' F' N' K hr => ?_) False.elim
  cases e : sideQ o k bl (l.drop n) with
  | none =>
    rw [e] at hr
    have hr : r = .none := hr
    subst hr
    exact no e h' tk' F' N'
  | some p =>
    rw [e] at hr
    obtain ⟨T, P, vs, t, ep, kk, rfl, h2, h3, h4, h5, h6, h7⟩ := hr
    have q := suffix_drop rfl (sideQ_suffix (p := p.1) (r := p.2) e)
    have N2 := news_cons' F h3 N' h6
    have N3 : News g L h' ((T, tupOf [.ref P, .int ((l.length - p.2.length : Nat) : Int) t] kk) :: (P, listOf (List.toArray vs) ep) :: news) := news_cons' F h2 N2 h5
    have lp : p.1.length ≤ l.length := by
      have := sideQ_len (p := p.1) (r := p.2) e
      rw [List.length_drop] at this; omega
    exact ret p.1 p.2 _ T P vs t ep kk h' tk' e q.1 q.2 lp h7 F' N3 ⟨fun z => h4 z.symm, allNe_of (news_ne N h2)⟩ (allNe_of (news_ne N h3))
end
noncomputable def LawIdRet (g : Heap) (len : Nat) (o : Option (List UInt8 × List UInt8)) (v : Value) (h' : Heap) : Prop :=
  match o with
  | none => v = .none
  | some p => ∃ T t1 t2 k, v = .ref T ∧ g.get? T = none ∧ h'.get? T = some (tupOf [.str (strB p.1) t1, .int ((len - p.2.length : Nat) : Int) t2] k)
theorem lid_none {g : Heap} {len : Nat} {h' : Heap} {o : Option (List UInt8 × List UInt8)} (ho : o = none) : LawIdRet g len o .none h' := by subst ho; rfl
theorem lid_some {g : Heap} {T L : Addr} {h' : Heap} {t1 t2 : Tok} {k len : Nat} {x : Int} {news : List (Addr × Obj)} {o : Option (List UInt8 × List UInt8)} {p : List UInt8 × List UInt8} (N : News g L h' ((T, tupOf [.str (strB p.1) t1, .int x t2] k) :: news)) (ho : o = some p) (hx : x = ((len - p.2.length : Nat) : Int)) : LawIdRet g len o (.ref T) h' := by
  subst hx ho
  have z := N _ (.head _)
  exact ⟨T, t1, t2, k, rfl, z.2.2, z.1⟩
end Mine
end
section
open PySem PySem.W PySem.Spec PySem.Calls PyProof.Rows
namespace Mine
open Builtin Builtin.Str
theorem strB_list (p : List UInt8) : (strB p).cps.toList = p.map UInt8.toNat := rfl
theorem strB_len (p : List UInt8) : (strB p).length = p.length := by show ((p.map UInt8.toNat).toArray).size = _; simp
theorem toNat_map_inj : ∀ {a b : List UInt8}, a.map UInt8.toNat = b.map UInt8.toNat → a = b
  | [], [], _ => rfl
  | [], _ :: _, h => nomatch h
  | _ :: _, [], h => nomatch h
  | x :: a, y :: b, h => by
    rw [List.map_cons, List.map_cons] at h
    injection h with h1 h2
    rw [UInt8.toNat_inj.mp h1, toNat_map_inj h2]
theorem strB_inj {a b : List UInt8} (h : strB a = strB b) : a = b := toNat_map_inj (by rw [← strB_list, ← strB_list, h])
theorem strB_beq (a b : List UInt8) : (strB a == strB b) = (a == b) := by
  by_cases h : a = b
  · subst h; simp
  · have : strB a ≠ strB b := fun q => h (strB_inj q)
    rw [beq_eq_false_iff_ne.mpr this, beq_eq_false_iff_ne.mpr h]
theorem strB_eq {a : List UInt8} {x : Str} (h : x.cps.toList = a.map UInt8.toNat) : x = strB a := by
  obtain ⟨c⟩ := x
  show Str.mk c = Str.mk _
  congr 1
  exact Array.ext' h
theorem at_B {p pat : List UInt8} {i : Nat} : StrLaws.At (strB p) (strB pat) (strB p).length i ↔ i ≤ p.length ∧ pat <+: p.drop i := by
  unfold StrLaws.At
  rw [StrLaws.subAt_eq, strB_list, strB_list, strB_len, strB_len]
  rw [← List.map_drop, ← List.map_take, beq_iff_eq]
  constructor
  · rintro ⟨h1, h2⟩
    have := toNat_map_inj h2
    exact ⟨by omega, ⟨(p.drop i).drop pat.length, by conv => lhs; lhs; rw [← this]
                                                     exact List.take_append_drop _ _⟩⟩
  · rintro ⟨h1, t, h2⟩
    refine ⟨?_, ?_⟩
    · have := congrArg List.length h2
      rw [List.length_append, List.length_drop] at this
      omega
    · rw [← h2, List.take_left]
theorem rfind_B (p pat : List UInt8) : Txt.rfind (strB p) (strB pat) = (match rf pat p with | some i => (i : Int) | none => -1) := by
  rcases rfind_whole (strB p) (strB pat) with ⟨h1, h2⟩ | ⟨i, h1, h2, h3⟩
  · rw [h1]
    cases e : rf pat p with
    | none => rfl
    | some i =>
      obtain ⟨a, b, _⟩ := rf_some e
      exact absurd (at_B.mpr ⟨a, b⟩) (h2 i)
  · rw [h1]
    obtain ⟨a, b⟩ := at_B.mp h2
    rw [rf_is a b fun j hj hl hp => h3 j hj (at_B.mpr ⟨hl, hp⟩)]
theorem in_B (p pat : List UInt8) : (!(occurrences (strB p) (strB pat) 0 (strB p).length 1).isEmpty) = (rf pat p).isSome := by
  have k := StrLaws.found_iff (strB p) (strB pat)
  cases e : rf pat p with
  | none =>
    have : ¬ (!(occurrences (strB p) (strB pat) 0 (strB p).length 1).isEmpty) = true := fun q => by
      obtain ⟨i, hi⟩ := k.mp q
      obtain ⟨a, b⟩ := at_B.mp (show StrLaws.At (strB p) (strB pat) (strB p).length i from hi)
      exact rf_none e i a b
    simpa using this
  | some i =>
    obtain ⟨a, b, _⟩ := rf_some e
    exact k.mpr ⟨i, (at_B.mpr ⟨a, b⟩ : StrLaws.At (strB p) (strB pat) (strB p).length i)⟩
theorem slice_eq (x : Str) (l u : Option Int) : Txt.slice x l u = StrLaws.sliceText x l u := rfl
theorem slice_from_B (p : List UInt8) {k : Nat} {i : Int} (hi : i = (k : Int)) (hk : k ≤ p.length) : Txt.slice (strB p) (some i) none = strB (p.drop k) := by
  subst hi
  rw [slice_eq, StrLaws.sliceText_from (by rw [strB_list, List.length_map]; omega)]
  refine strB_eq ?_
  show ((List.drop (k : Int).toNat (strB p).cps.toList).take _) = _
  rw [strB_list, List.length_map, ← List.map_drop, ← List.map_take, show (k : Int).toNat = k by omega]
  rw [List.take_of_length_le (by rw [List.length_drop]; omega)]
theorem slice_last_B (p : List UInt8) : Txt.slice (strB p) (some (-1)) none = strB (p.drop (p.length - 1)) := by
  have e : Txt.slice (strB p) (some (-1)) none = Txt.slice (strB p) (some ((p.length - 1 : Nat) : Int)) none := by
    unfold Txt.slice
    have : strSliceIndices (some (-1)) none 1 (strB p).length = strSliceIndices (some ((p.length - 1 : Nat) : Int)) none 1 (strB p).length := by
      rw [strB_len]
      unfold strSliceIndices
      have h1 : max (0 : Int) (min (if (-1 : Int) < 0 then -1 + (p.length : Int) else -1) (p.length : Int)) = max 0 (min (if ((p.length - 1 : Nat) : Int) < 0 then ((p.length - 1 : Nat) : Int) + (p.length : Int) else ((p.length - 1 : Nat) : Int)) (p.length : Int)) := by
        rw [if_pos (by decide), if_neg (Int.not_lt.mpr (Int.natCast_nonneg _))]
        generalize p.length = n
        cases n with
        | zero => decide
        | succ k => rw [show (-1 : Int) + ((k + 1 : Nat) : Int) = ((k + 1 - 1 : Nat) : Int) from by rw [Nat.add_sub_cancel]; omega]
      simp only [show (1 : Int) > 0 by decide, if_true]
      rw [h1]
    rw [this]
  rw [e]
  exact slice_from_B p rfl (Nat.sub_le _ _)
theorem last_B (p : List UInt8) : (strB (p.drop (p.length - 1)) == strB [93]) = decide (p.getLast? = some 93) := by
  rw [strB_beq]
  cases e : p.getLast? with
  | none =>
    rw [List.getLast?_eq_none_iff] at e
    subst e; rfl
  | some c =>
    obtain ⟨t, rfl⟩ := List.getLast?_eq_some_iff.mp e
    have : (t ++ [c]).drop ((t ++ [c]).length - 1) = [c] := by
      rw [List.length_append, List.length_singleton, Nat.add_sub_cancel, List.drop_left]
    rw [this]
    by_cases h : c = 93
    · subst h; rfl
    · rw [beq_eq_false_iff_ne.mpr (by simpa using h)]
      symm
      rw [decide_eq_false_iff_not]
      simpa using h
end Mine
end
section
open PySem PySem.W PySem.Spec PySem.Calls PyProof.Rows
namespace Mine
theorem lit93 : Str.ofString "]" = strB [93] := by decide +kernel
theorem lit64 : Str.ofString "@" = strB [64] := by decide +kernel
theorem lit6491 : Str.ofString "\x40[" = strB [64, 91] := by decide +kernel
theorem lit9 : Str.ofString "\t" = strB [9] := by decide +kernel
theorem lit0 : Str.ofString "" = strB [] := by decide +kernel
theorem chB_one (c : UInt8) : chB c = strB [c] := rfl
theorem last_is (p : List UInt8) : (p.drop (p.length - 1) == [93]) = decide (p.getLast? = some 93) := by rw [← strB_beq]; exact last_B p
section
variable {prog : Program} {w : World} {A : Around} {E : Value → Shared → Prop} {s : Shared} {p a b pat : List UInt8} {x y : Str} {t u ui : Tok} {Q : Value → Shared → Prop} {value slice : PySem.Expr} {g : Heap} {L : Addr} {m : Str → Option Value} {news : List (Addr × Obj)}
theorem s_eq {r : Bool} (hy : y = strB b) (hb : (a == b) = r) (h : Q (.bool r) s) : wpAny (model prog w) A (compareOp .Eq (.str (strB a) t) (.str y u)) Q E s := by
  subst hy
  refine eq_str ?_
  rw [strB_beq, hb]; exact h
theorem s_ne {r : Bool} (hy : y = strB b) (hb : (a != b) = r) (h : Q (.bool r) s) : wpAny (model prog w) A (compareOp .NotEq (.str (strB a) t) (.str y u)) Q E s := by
  subst hy
  refine ne_str ?_
  rw [show (strB a != strB b) = (a != b) from congrArg (!·) (strB_beq a b), hb]; exact h
theorem s_eq1 {c d : UInt8} {r : Bool} (hy : y = strB [d]) (hb : (c == d) = r) (h : Q (.bool r) s) : wpAny (model prog w) A (compareOp .Eq (.str (chB c) t) (.str y u)) Q E s :=
  s_eq (a := [c]) hy (by rw [← hb]; by_cases q : c = d <;> simp [q]) h
theorem s_rfind_some {i : Nat} (hy : y = strB pat) (hr : rf pat p = some i) (h : ∀ t' k, Q (.int (i : Int) t') { s with toks := k }) : wpAny (model prog w) A (call (.builtin "str.rfind") [.str (strB p) t, .str y u]) Q E s := by
  subst hy
  refine SC.rfind ?_
  rw [rfind_B, hr]; exact h _ _
theorem s_rfind_none (hy : y = strB pat) (hr : rf pat p = none) (h : ∀ t' k, Q (.int (-1) t') { s with toks := k }) : wpAny (model prog w) A (call (.builtin "str.rfind") [.str (strB p) t, .str y u]) Q E s := by
  subst hy
  refine SC.rfind ?_
  rw [rfind_B, hr]; exact h _ _
theorem s_in {r : Bool} (hy : y = strB pat) (hr : (rf pat p).isSome = r) (h : Q (.bool r) s) : wpAny (model prog w) A (compareOp .In (.str y u) (.str (strB p) t)) Q E s := by
  subst hy
  refine PySem.P.in_str ?_
  rw [in_B, hr]; exact h
theorem s_last (hF : Fr g L s.heap m) (hN : News g L s.heap news) (hz : p.length ≤ 16777216) (h : ∀ h' t' k, Fr g L h' m → News g L h' news → Q (.str (strB (p.drop (p.length - 1))) t') { s with heap := h', toks := k })
    (hs : subscripted slice false (.str (strB p) t) (.ref s.heap.objs.size) = operate [.ref s.heap.objs.size, .str (strB p) t] (getItem (.str (strB p) t) (.ref s.heap.objs.size)) := by with_unfolding_all rfl)
    (ht : ∀ r, letTemporaryGo value (.str (strB p) t) r = pure () := by intro _; with_unfolding_all rfl) :
    wpAny (model prog w) A (subscriptTail value slice (.str (strB p) t) (.ref s.heap.objs.size)) Q E { s with heap := s.heap.push { cls := .type "slice", data := .fields #[.int (-1) ui, .none, .none] } } :=
  slice_strN_sn hF hN (fun h' t' k F N => by rw [slice_last_B]; exact h h' t' k F N) hs ht (by rw [strB_len, sizeLine_eq]; exact hz)
theorem s_from {i : Int} {k : Nat} (hi : i = (k : Int)) (hk : k ≤ p.length) (hF : Fr g L s.heap m) (hN : News g L s.heap news) (hz : p.length ≤ 16777216) (h : ∀ h' t' kk, Fr g L h' m → News g L h' news → Q (.str (strB (p.drop k)) t') { s with heap := h', toks := kk })
    (hs : subscripted slice false (.str (strB p) t) (.ref s.heap.objs.size) = operate [.ref s.heap.objs.size, .str (strB p) t] (getItem (.str (strB p) t) (.ref s.heap.objs.size)) := by with_unfolding_all rfl)
    (ht : ∀ r, letTemporaryGo value (.str (strB p) t) r = pure () := by intro _; with_unfolding_all rfl) :
    wpAny (model prog w) A (subscriptTail value slice (.str (strB p) t) (.ref s.heap.objs.size)) Q E { s with heap := s.heap.push { cls := .type "slice", data := .fields #[.int i ui, .none, .none] } } :=
  slice_strN_sn hF hN (fun h' t' kk F N => by rw [slice_from_B p hi hk]; exact h h' t' kk F N) hs ht (by rw [strB_len, sizeLine_eq]; exact hz)
theorem s_ord {c : UInt8} (h : ∀ t' k, Q (.int (c.toNat : Int) t') { s with toks := k }) : wpAny (model prog w) A (call (.builtin "ord") [.str (chB c) t]) Q E s :=
  ord_of_one rfl (h _ _)
theorem t_list {D : Addr} {items : Array Value} {r : Bool} {Q : Bool → Shared → Prop} (hl : s.heap.IsList D items) (hz : items.size ≤ 16777216) (hr : (!items.isEmpty) = r) (h : ∀ k, Q r { s with toks := k }) : wpAny (model prog w) A (truthy (.ref D)) Q E s :=
  wpAny_truthy_list hl (by omega) (by rw [hr]; exact h _)
theorem t_cons {v : Value} {vs : List Value} : (!(List.toArray (v :: vs)).isEmpty) = true := by simp
theorem t_nil : (!(List.toArray ([] : List Value)).isEmpty) = false := by simp
theorem byteArr_B (p : List UInt8) : byteArr (p.map ofB) = p.toArray := by
  unfold byteArr
  rw [List.map_map]
  congr 1
  conv => rhs; rw [← List.map_id p]
  refine List.map_congr_left fun c _ => ?_
  show (Int.toNat (c.toNat : Int)).toUInt8 = c
  rw [Int.toNat_natCast]
  simp
theorem s_bytes {D : Addr} {ys : List Value} (hh : A.handled = none) (hF : Fr g L s.heap m) (hN : News g L s.heap news) (hl : s.heap.IsList D ys.toArray) (hi : IntsAre ys (p.map ofB)) (hz : p.length ≤ 16777216)
    (h : ∀ h' t' k, Fr g L h' m → News g L h' news → Q (.bytes p.toArray t') { s with heap := h', toks := k }) : wpAny (model prog w) A (call (.type "bytes") [.ref D]) Q E s := by
  refine call_bytes_ints hl hi (fun n hn => ?_) (by rw [hi.length, List.length_map, sizeLine_eq]; exact hz) hh fun h' t k hk => ?_
  · obtain ⟨c, _, rfl⟩ := List.mem_map.mp hn
    have := c.toNat_lt
    show (0 : Int) ≤ (c.toNat : Int) ∧ (c.toNat : Int) < 256
    omega
  · rw [byteArr_B]
    exact h h' t k (hF.keeps hk) fun q hq => ⟨hk _ _ (hN q hq).1, (hN q hq).2⟩
end
section
variable {prog : Program} {w : World} {A : Around} {E : Value → Shared → Prop} {s : Shared} {env : Env} {g : Heap} {x : Str} {body : List Stmt} {Q : Flow → Shared → Prop}
theorem codes_B (l : List UInt8) : KStt.codes (strB l) = l.map ofB := by
  unfold KStt.codes
  rw [strB_list, List.map_map]
  rfl
theorem text_for {l : List UInt8} {tb : Tok} {m₀ : Str → Option Value} (stored : List Str) (P : List UInt8 → Prop) (hh : A.handled = none) (F : Fr g env.locals s.heap m₀) (hp : P [])
    (turn : ∀ (pre post : List UInt8) (c : UInt8) t (u : Str → Option Value) h tk own, l = pre ++ c :: post → P pre →
      Fr g env.locals h (fun y => if y = x then some (.str (chB c) t) else if stored.contains y then u y else m₀ y) → News g env.locals h own →
      wpAny (model prog w) A (execs body env) (FTurn g env.locals x stored m₀ P (pre ++ [c]) own { s with heap := h, toks := tk } Q) E { s with heap := h, toks := tk })
    (done : ∀ (u : Str → Option Value) h tk, P l → Fr g env.locals h (fun y => if y = x then u y else if stored.contains y then u y else m₀ y) → News g env.locals h [] → Q .next { s with heap := h, toks := tk }) :
    wpAny (model prog w) A (pyIter (.str (strB l) tb)) (fun it s₂ => LoopAtV prog w A g env x body Q E it s₂) E s := by
  refine KStt.kst_text (σ := Unit) (fun _ => []) (fun _ => []) (fun _ => True) stored (fun ks _ => ∃ pre, ks = pre.map ofB ∧ P pre) () hh F News.nil trivial (fun p hp => nomatch hp) ⟨[], rfl, hp⟩ ?_ ?_
  · intro _ preI postI n t u h tk own e _ _ hp F N
    obtain ⟨pre', rfl, hp⟩ := hp
    rw [codes_B] at e
    obtain ⟨l1, l2, e1, e2, e3⟩ := List.map_eq_append_iff.mp e
    obtain ⟨c, l3, e4, e5, e6⟩ := List.map_eq_cons_iff.mp e3
    have e2 := map_inj e2
    have e5 : n = c.toNat := (Int.ofNat.inj e5).symm
    subst e2 e4 e5
    have z := turn l1 l3 c t u h tk own e1 hp F N
    have q : l1.map ofB ++ [(c.toNat : Int)] = (l1 ++ [c]).map ofB := by rw [List.map_append]; rfl
    rw [q]
    exact z
  · intro _ u h tk _ hp F N
    obtain ⟨pre, e, hp⟩ := hp
    rw [codes_B] at e
    rw [map_inj e] at done
    exact done u h tk hp F N
end
noncomputable def SidesRet (s : Shared) (l r : List UInt8) (v : Value) (h' : Heap) : Prop := ∃ D t1 t2 k, v = .ref D ∧ s.heap.get? D = none ∧ h'.get? D = some (tupOf [.bytes (List.toArray l) t1, .bytes (List.toArray r) t2] k)
theorem sides_end {s : Shared} {D L : Addr} {h' : Heap} {t1 t2 : Tok} {news : List (Addr × Obj)} {l r : List UInt8} {k : Nat} (N : News s.heap L h' ((D, tupOf [.bytes (List.toArray l) t1, .bytes (List.toArray r) t2] k) :: news)) : SidesRet s l r (.ref D) h' := by
  have z := N _ (.head _)
  exact ⟨D, t1, t2, k, rfl, z.2.2, z.1⟩
theorem cut_to {l : List UInt8} {n : Nat} {i : Int} (hi : i = Int.ofNat n) (hn : n ≤ l.length) :
    (l.drop ((none : Option Int).elim 0 (clipAt l.length))).take ((some i).elim l.length (clipAt l.length) - (none : Option Int).elim 0 (clipAt l.length)) = l.take n := by
  subst hi
  show (l.drop 0).take (clipAt l.length ((n : Nat) : Int) - 0) = _
  rw [clipAt_nat, Nat.min_eq_left hn, List.drop_zero, Nat.sub_zero]
theorem cut_from {l : List UInt8} {n : Nat} {i : Int} (hi : i = Int.ofNat n) (hn : n ≤ l.length) :
    (l.drop ((some i).elim 0 (clipAt l.length))).take ((none : Option Int).elim l.length (clipAt l.length) - (some i).elim 0 (clipAt l.length)) = l.drop n := by
  subst hi
  show (l.drop (clipAt l.length ((n : Nat) : Int))).take (l.length - clipAt l.length ((n : Nat) : Int)) = _
  rw [clipAt_nat, Nat.min_eq_left hn, List.take_of_length_le (by rw [List.length_drop]; omega)]
end Mine
end
section
open PySem PySem.W PySem.Spec PySem.Calls PyProof.Rows
namespace Mine
theorem range_size (n : Nat) : Builtin.Range.rangeSize 0 (n : Int) 1 = (n : Int) := by
  unfold Builtin.Range.rangeSize
  rw [if_pos (by decide)]
  split <;> omega
theorem range_small {n : Nat} (h : n ≤ 16777216) : Builtin.Range.small 0 (n : Int) 1 = true := by
  unfold Builtin.Range.small
  rw [range_size]
  unfold Builtin.Range.rangeFitsLong
  simp only [Bool.and_eq_true, Bool.or_eq_true, decide_eq_true_eq, show (1 : Int) > 0 by decide, if_true]
  refine ⟨⟨⟨⟨by omega, by omega⟩, by omega⟩, by omega⟩, .inr (by omega)⟩
noncomputable abbrev GrowS : Type := List Value × List UInt8 × Nat
noncomputable def GTurn (g : Heap) (L P : Addr) (x : Str) (stored : List Str) (m₀ : Str → Option Value) (Pr : Nat → List Value → List UInt8 → Prop) (i : Nat) (own : List (Addr × Obj)) (s : Shared) (Q : Flow → Shared → Prop) (f : Flow) (s₂ : Shared) : Prop :=
  InvPostN g L (KstS (σ := GrowS) (fun c => [(P, listOf (List.toArray c.1) c.2.2)]) (fun _ => []) (fun _ => True) x stored m₀ (fun pre c => Pr pre.length c.1 c.2.1) ((List.range i).map fun k => ((k : Nat) : Int))) own [P] s Q f s₂
theorem gturn_next {g : Heap} {L P : Addr} {x : Str} {stored : List Str} {m₀ m' : Str → Option Value} {Pr : Nat → List Value → List UInt8 → Prop} {i : Nat} {own news : List (Addr × Obj)} {s : Shared} {Q : Flow → Shared → Prop} {h' : Heap} {tk : Nat} (vs : List Value) (acc : List UInt8) (ep : Nat)
    (F : Fr g L h' m') (N : News g L h' news) (hm : (P, listOf (List.toArray vs) ep) ∈ news) (ho : ∀ p ∈ own, p ∈ news) (hr : ∀ z, z ≠ x → stored.contains z = false → m' z = m₀ z) (hp : Pr i vs acc) :
    GTurn g L P x stored m₀ Pr i own s Q .next { s with heap := h', toks := tk } :=
  kst_end (vs, acc, ep) F N (fun p hp => by rw [List.mem_singleton.mp hp]; exact hm) ho rfl trivial (fun p hp => nomatch hp) (fun z h1 _ h3 => hr z h1 h3) (by rw [List.length_map, List.length_range]; exact hp)
section
variable {prog : Program} {w : World} {A : Around} {E : Value → Shared → Prop} {s : Shared} {env : Env} {g : Heap} {x : Str} {body : List Stmt} {Q : Flow → Shared → Prop}
theorem range_grow {r P : Addr} {n ep0 : Nat} {t₀ u₀ v₀ : Tok} {m₀ : Str → Option Value} {news : List (Addr × Obj)} (stored : List Str) (Pr : Nat → List Value → List UInt8 → Prop) (hh : A.handled = none) (hr : IsRange s.heap r 0 (n : Int) 1 t₀ u₀ v₀) (hz : n ≤ 16777216) (F : Fr g env.locals s.heap m₀) (N : News g env.locals s.heap news) (hm : (P, listOf (List.toArray []) ep0) ∈ news) (h0 : Pr 0 [] [])
    (turn : ∀ i vs acc ep t (u : Str → Option Value) h tk own, i < n → Pr i vs acc → Fr g env.locals h (fun y => if y = x then some (.int (i : Int) t) else if stored.contains y then u y else m₀ y) → News g env.locals h ((P, listOf (List.toArray vs) ep) :: own) → OwnOff own [P] →
      wpAny (model prog w) A (execs body env) (GTurn g env.locals P x stored m₀ Pr (i + 1) own { s with heap := h, toks := tk } Q) E { s with heap := h, toks := tk })
    (done : ∀ vs acc ep (u : Str → Option Value) h tk, Pr n vs acc → Fr g env.locals h (fun y => if y = x then u y else if stored.contains y then u y else m₀ y) → News g env.locals h [(P, listOf (List.toArray vs) ep)] → Q .next { s with heap := h, toks := tk }) :
    wpAny (model prog w) A (pyIter (.ref r)) (fun it s₂ => LoopAtV prog w A g env x body Q E it s₂) E s := by
  refine kst_range (σ := GrowS) (a₀ := 0) (n := n) (fun c => [(P, listOf (List.toArray c.1) c.2.2)]) (fun _ => []) (fun _ => True) stored (fun pre c => pre = (List.range pre.length).map (fun k => ((k : Nat) : Int)) ∧ Pr pre.length c.1 c.2.1) ([], [], ep0) hh hr (range_small hz) (range_size n) F (fun p hp => by rw [List.mem_singleton.mp hp]; exact N _ hm) trivial (fun p hp => nomatch hp) ⟨rfl, h0⟩ ?_ ?_
  · intro c pre k t u h tk own hk hlt hoff _ hp F N
    obtain ⟨e, hp⟩ := hp
    rw [Int.zero_add] at hk
    subst hk
    refine wpAny_mono (turn pre.length c.1 c.2.1 c.2.2 t u h tk own hlt hp F N hoff) (fun f s₂ hf => ?_) fun _ _ y => y
    have e' : pre ++ [((pre.length : Nat) : Int)] = (List.range (pre.length + 1)).map fun k => ((k : Nat) : Int) := by
      rw [List.range_succ, List.map_append, ← e]; rfl
    rw [e']
    have key : ∀ m' nx, KstS (σ := GrowS) (fun c => [(P, listOf (List.toArray c.1) c.2.2)]) (fun _ => []) (fun _ => True) x stored m₀ (fun pre c => Pr pre.length c.1 c.2.1) ((List.range (pre.length + 1)).map fun k => ((k : Nat) : Int)) m' nx →
        KstS (σ := GrowS) (fun c => [(P, listOf (List.toArray c.1) c.2.2)]) (fun _ => []) (fun _ => True) x stored m₀ (fun pre c => pre = (List.range pre.length).map (fun k => ((k : Nat) : Int)) ∧ Pr pre.length c.1 c.2.1) ((List.range (pre.length + 1)).map fun k => ((k : Nat) : Int)) m' nx := by
      rintro m' nx ⟨c, a1, a2, a3, a4, a5⟩
      exact ⟨c, a1, a2, a3, a4, by rw [List.length_map, List.length_range], a5⟩
    cases f with
    | ret v => exact hf
    | brk => exact hf
    | next =>
      obtain ⟨h', tk', m', n', nx, b1, b2, b3, b4, b5, b6, b7⟩ := hf
      exact ⟨h', tk', m', n', nx, b1, b2, b3, b4, b5, b6, key _ _ b7⟩
    | cont =>
      obtain ⟨h', tk', m', n', nx, b1, b2, b3, b4, b5, b6, b7⟩ := hf
      exact ⟨h', tk', m', n', nx, b1, b2, b3, b4, b5, b6, key _ _ b7⟩
  · intro c u h tk _ hp F N
    obtain ⟨e, hp⟩ := hp
    have hl : (rangeKs 0 n).length = n := by simp [rangeKs]
    rw [hl] at hp
    exact done c.1 c.2.1 c.2.2 u h tk hp F N
end
theorem escB_snoc {sg : List UInt8} (c : UInt8) : ∀ l : List UInt8, escB sg (l ++ [c]) = escB sg l ++ (if sg.contains c = true then [92, c] else [c])
  | [] => by
    rw [List.nil_append]
    show (if sg.contains c = true then 92 :: c :: escB sg [] else c :: escB sg []) = [] ++ _
    rw [List.nil_append]
    rfl
  | x :: l => by
    rw [List.cons_append]
    unfold escB
    rw [escB_snoc c l]
    split <;> rfl
theorem escB_len {sg : List UInt8} : ∀ l : List UInt8, (escB sg l).length ≤ 2 * l.length
  | [] => Nat.le_refl _
  | x :: l => by
    have := escB_len (sg := sg) l
    unfold escB
    split <;> simp only [List.length_cons] <;> omega
theorem take_snoc {l r : List UInt8} {i : Nat} {c : UInt8} (D : l.drop i = c :: r) : l.take (i + 1) = l.take i ++ [c] := by
  have h := drop_lt D
  rw [List.take_add_one, List.getElem?_eq_getElem h]
  have e := List.drop_eq_getElem_cons h
  rw [D] at e
  rw [← (List.cons.inj e).1]
  rfl
end Mine
end
section
open PySem PySem.W PySem.Spec PySem.Calls PyProof.Rows
namespace Mine
theorem fillX17 : (PySem.Challenge.rw_no0368_01, ltop.heap_1) = (PySem.Challenge.rw_no0368_01, ltop.heap_1) := by k_fill; rfl
theorem all64 (p r : List UInt8) : (p ++ [64] ++ r).all plainB = (p ++ r).all plainB := by
  rw [List.all_append, List.all_append, List.all_append, List.all_cons, List.all_nil, show plainB 64 = true from by decide]; simp
theorem right_of {q rest r : List UInt8} {c : UInt8} {m : Nat} (h : sideQ 91 93 [91] (c :: r) = some (q, rest)) (hq : q.length ≤ m) : ∃ R, sideR (c :: r) = some (R, rest) ∧ ((c = 91 ∧ R = [91] ++ q ++ [93]) ∨ (c ≠ 91 ∧ R = q)) ∧ R.length ≤ m + 2 := by
  by_cases h91 : c = 91
  · subst h91; exact ⟨[91] ++ q ++ [93], by rw [sideR_91, h]; rfl, .inl ⟨rfl, rfl⟩, by simp only [List.length_append, List.length_cons, List.length_nil]; omega⟩
  · exact ⟨q, by rw [sideR_o h91]; exact h, .inr ⟨h91, rfl⟩, by omega⟩
theorem map_br (q : List UInt8) : ([91] ++ q ++ [93] : List UInt8).map ofB = [91] ++ q.map ofB ++ [93] := by simp only [List.map_append]; rfl
noncomputable def ValS (R : List UInt8) (g : Heap) (L : Addr) (m : Str → Option Value) (s0 : Shared) (news : List (Addr × Obj)) (v : Value) (s' : Shared) : Prop :=
  ∃ D vs ep h' tk, v = .ref D ∧ s' = { s0 with heap := h', toks := tk } ∧ IntsAre vs (R.map ofB) ∧ Fr g L h' m ∧ News g L h' ((D, listOf (List.toArray vs) ep) :: news)
theorem val_cut {M : Model} {A : Around} {c : Sem Value} {Q : Value → Shared → Prop} {E : Value → Shared → Prop} {s0 : Shared} {g : Heap} {L : Addr} {m : Str → Option Value} {news : List (Addr × Obj)} (R : List UInt8) (F : Fr g L s0.heap m) (N : News g L s0.heap news)
    (h : wpAny M A c (ValS R g L m s0 news) E s0)
    (k : ∀ D vs ep h' tk, IntsAre vs (R.map ofB) → Fr g L h' m → News g L h' ((D, listOf (List.toArray vs) ep) :: news) → Q (.ref D) { s0 with heap := h', toks := tk }) : wpAny M A c Q E s0 := by
  refine wpAny_mono h (fun v s' hq => ?_) fun _ _ h => h
  obtain ⟨D, vs, ep, h', tk, rfl, rfl, hi, F', N'⟩ := hq
  exact k D vs ep h' tk hi F' N'
theorem val_end {s0 : Shared} {g : Heap} {L : Addr} {m : Str → Option Value} {news news' : List (Addr × Obj)} {R : List UInt8} {D : Addr} {vs : List Value} {ep : Nat} {h' : Heap} {tk : Nat} (F : Fr g L h' m) (N : News g L h' news') (hm : (D, listOf (List.toArray vs) ep) ∈ news') (sub : ∀ p ∈ news, p ∈ news') (hi : IntsAre vs (R.map ofB)) :
    ValS R g L m s0 news (.ref D) { s0 with heap := h', toks := tk } := ⟨D, vs, ep, h', tk, rfl, rfl, hi, F, fun p hp => by
  rcases List.mem_cons.mp hp with rfl | hp
  · exact N _ hm
  · exact N _ (sub p hp)⟩
theorem _root_.Mine.rowsX17_1 : True := by
  k_with_none
  k_with "subscriptTail" => (k_here; (with_reducible show wpAny _ _ (subscriptTail _ _ (Value.bytes _ _) (Value.int _ _)) _ _ _); k_dflt (refine b_item rfl (by assumption) (by assumption) ?_); intro _ _)
  k_with "subscriptTail" => (k_here; (with_reducible show wpAny _ _ (subscriptTail _ (Expr.Slice (some _) (some _) none _) (Value.bytes _ _) (Value.ref _)) _ _ _); (with_reducible rename Fr _ _ _ _ => F'); (with_reducible rename News _ _ _ _ => N'); k_dflt (refine b_slice (s := ⟨_, _, _, _, _⟩) F' N' (by constructor) (by constructor) (by assumption) (by first | exact cut1 rfl rfl (by assumption) | exact cut0 rfl rfl (by assumption) | exact cut2 rfl rfl (by assumption)) ?_); intro _ _ _ _ _)
  k_with "compareOp Eq bytes bytes" => (k_here; (with_reducible show wpAny _ _ (compareOp CmpOp.Eq (Value.bytes _ _) (Value.bytes _ _)) _ _ _); k_dflt (refine b_eq (by first | exact beq_cons_false (by assumption) | exact beq_self_true | exact (rfl : _ = false) | exact (rfl : _ = true)) ?_))
  k_with "compareOp NotEq bytes bytes" => (k_here; (with_reducible show wpAny _ _ (compareOp CmpOp.NotEq (Value.bytes _ _) (Value.bytes _ _)) _ _ _); k_dflt (refine b_ne (by first | exact bne_cons_true (by assumption) | exact bne_self_false | exact (rfl : _ = false) | exact (rfl : _ = true)) ?_))
  k_with "call builtin:len" => (k_here; (with_reducible show wpAny _ _ (call (Value.builtin "len") [Value.bytes _ _]) _ _ _); k_dflt (refine b_len (by assumption) ?_); intro _ _)
  k_with "compareOp In int bytes" => (k_here; (with_reducible show wpAny _ _ (compareOp CmpOp.In (Value.int _ _) (Value.bytes _ _)) _ _ _); k_dflt (refine b_in rfl (by first | assumption | rfl) ?_))
  k_with "exec Raise some none" => (k_here; k_dflt (refine raise_wf (by assumption) ?_))
  k_with "ktr_unf" => ((refine' enter (by assumption) ?k6 ?k7 ?k9 ?kl ?c2 ?c3 ?c4 ?c5 ?_); (case k6 => k_is); (case k7 => k_is); (case k9 => exact BindsTo.of_eq rfl); (case kl => exact locs rfl); (case c2 => exact rfl); (case c3 => exact rfl); (case c4 => exact rfl); (case c5 => decide); intro A le L h₁ hh B hd hu X T F N; (try (have hHd := hh rfl)); (try k_unmd); (try dsimp only); k_fold)
  k_with "ktr_rel" => ((try dsimp only); (refine ret_end (by assumption) ?_))
  k_with "call ref" => (k_here; (with_reducible show wpAny _ _ (call (Value.ref 59) _) _ _ _); k_dflt (refine wf_make_K (by assumption) (by assumption) (by assumption) (by omega) (by first | exact .inr ⟨_, _, rfl⟩ | exact .inl rfl) ?_); intro h' tk' e' H'; k_dflt (refine leave_new (by assumption) (by assumption) H' rfl ?_))
  k_with "ite" => (k_here; k_dflt (first
    | (refine ite_pos (by first | omega | (simp only [decide_eq_true_eq, beq_iff_eq, bne_iff_ne, ne_eq, Bool.and_eq_true, Bool.or_eq_true, Bool.not_eq_true', decide_eq_false_iff_not, beq_eq_false_iff_ne]; omega) | exact beq_self_eq_true _) ?_; walk_say "PRUNED here")
    | (refine ite_neg (by first | omega | (simp only [decide_eq_true_eq, beq_iff_eq, bne_iff_ne, ne_eq, Bool.and_eq_true, Bool.or_eq_true, Bool.not_eq_true', decide_eq_false_iff_not, beq_eq_false_iff_ne]; omega) | exact beq_self_eq_true _) ?_; walk_say "PRUNED here")))
  k_with "compareOp In int ref" => (k_here; (with_reducible show wpAny _ _ (compareOp CmpOp.In (Value.int _ _) (Value.ref 62)) _ _ _); k_dflt (refine in_nev (by assumption) (by assumption) ?_))
  k_with "exec While Compare" => (k_here; (with_reducible show wpAny _ _ (exec (Stmt.While _ _ _ _) _) _ _ _); (refine hold ?_); walk_say "HELD")
  k_with "assign Tuple" => (k_here; (with_reducible show wpAny _ _ (assign (Expr.Tuple _ _ _) _ (Value.ref _)) _ _ _); k_dflt (refine unpackN_ (by k_asm) (by k_asm) (News.isTup (by k_asm) (by k_mem)) (by assumption) rfl rfl ?_); intro h' F' N'; (try k_sweep))
  k_with "call builtin:list.append" => (k_here; (with_reducible show wpAny _ _ (call (Value.builtin _) [Value.ref _, _]) _ _ _); k_dflt (refine' append_K (by k_asm) (by k_asm) (by k_upd) ?_ (by first | size_fits | (rw [sizeLine_eq]; show List.length _ ≤ _; omega)); k_whole); intro h' F' N'; (try simp only [List.push_toArray] at N'); (try k_sweep))
  k_with "pyIter bytes" => (k_here; (refine hold ?_); walk_say "HELD")
  k_with "eval ListComp" => (k_here; (with_reducible show wpAny _ _ (eval (Expr.ListComp _ _ _ _) _) _ _ _); (refine hold ?_); walk_say "HELD")
  k_with "call ref" => (k_here; (with_reducible show wpAny _ _ (call (Value.ref 211) _) _ _ _); k_dflt (first | refine call_side (o := 34) (k := 34) (by assumption) (by assumption) (by assumption) (by assumption) (by assumption) (by assumption) (by omega) (by omega) rfl rfl rfl ?_ ?_ | refine call_side (o := 91) (k := 93) (by assumption) (by assumption) (by assumption) (by assumption) (by assumption) (by assumption) (by omega) (by omega) rfl rfl rfl ?_ ?_); (case' refine_1 => intro hC' _ _ _ _))
  k_with "subscriptTail" => (k_here; (with_reducible show wpAny _ _ (subscriptTail _ (Expr.Slice (some _) none none _) (Value.str _ _) (Value.ref _)) _ _ _); (with_reducible rename Fr _ _ _ _ => F'); (with_reducible rename News _ _ _ _ => N'); k_dflt (first | refine s_last (s := ⟨_, _, _, _, _⟩) F' N' (by assumption) ?_ | refine s_from (s := ⟨_, _, _, _, _⟩) (k := 0) (by omega) (by omega) F' N' (by assumption) ?_ | refine s_from (s := ⟨_, _, _, _, _⟩) rfl (by omega) F' N' (by assumption) ?_); intro _ _ _ _ _)
  k_with "subscriptTail Name Slice str ref" => (k_here; (with_reducible show wpAny _ _ (subscriptTail _ (Expr.Slice (some _) none none _) (Value.str _ _) (Value.ref _)) _ _ _); (with_reducible rename Fr _ _ _ _ => F'); (with_reducible rename News _ _ _ _ => N'); k_dflt (first | refine s_last (s := ⟨_, _, _, _, _⟩) F' N' (by assumption) ?_ | refine s_from (s := ⟨_, _, _, _, _⟩) (k := 0) (by omega) (by omega) F' N' (by assumption) ?_ | refine s_from (s := ⟨_, _, _, _, _⟩) rfl (by omega) F' N' (by assumption) ?_); intro _ _ _ _ _)
  k_with "subscriptTail" => (k_here; (with_reducible show wpAny _ _ (subscriptTail _ (Expr.Slice none (some _) none _) (Value.bytes _ _) (Value.ref _)) _ _ _); (with_reducible rename Fr _ _ _ _ => F'); (with_reducible rename News _ _ _ _ => N'); k_dflt (refine b_slice (s := ⟨_, _, _, _, _⟩) F' N' (by constructor) (by constructor) (by assumption) (cut_to rfl (by omega)) ?_); intro _ _ _ _ _)
  k_with "subscriptTail" => (k_here; (with_reducible show wpAny _ _ (subscriptTail _ (Expr.Slice (some _) none none _) (Value.bytes _ _) (Value.ref _)) _ _ _); (with_reducible rename Fr _ _ _ _ => F'); (with_reducible rename News _ _ _ _ => N'); k_dflt (refine b_slice (s := ⟨_, _, _, _, _⟩) F' N' (by constructor) (by constructor) (by assumption) (cut_from rfl (by omega)) ?_); intro _ _ _ _ _)
  k_with "compareOp Eq str str" => (k_here; (with_reducible show wpAny _ _ (compareOp CmpOp.Eq (Value.str _ _) (Value.str _ _)) _ _ _); k_dflt (first | with_reducible refine s_eq1 lit9 (by assumption) ?_ | with_reducible refine s_eq lit93 (by assumption) ?_))
  k_with "compareOp NotEq str str" => (k_here; (with_reducible show wpAny _ _ (compareOp CmpOp.NotEq (Value.str _ _) (Value.str _ _)) _ _ _); k_dflt (refine s_ne lit0 (by assumption) ?_))
  k_with "compareOp In str str" => (k_here; (with_reducible show wpAny _ _ (compareOp CmpOp.In (Value.str _ _) (Value.str _ _)) _ _ _); k_dflt (refine s_in lit6491 (by assumption) ?_))
  k_with "call builtin:str.rfind" => (k_here; k_dflt (first | with_reducible refine s_rfind_some lit64 (by assumption) ?_ | with_reducible refine s_rfind_none lit64 (by assumption) ?_ | with_reducible refine s_rfind_some lit6491 (by assumption) ?_ | with_reducible refine s_rfind_none lit6491 (by assumption) ?_); intro _ _)
  k_with "call builtin:ord" => (k_here; (with_reducible show wpAny _ _ (call (Value.builtin _) [Value.str (chB _) _]) _ _ _); k_dflt (refine s_ord ?_); intro _ _)
  k_with "pyIter str" => (k_here; (refine hold ?_); walk_say "HELD")
  k_with "call type:bytes" => (k_here; (with_reducible show wpAny _ _ (call (Value.type _) [Value.ref _]) _ _ _); k_dflt (refine s_bytes (by assumption) (by assumption) (by assumption) (by is_list) (by assumption) (by assumption) ?_); intro _ _ _ _ _)
  k_with "truthy ref" => (k_here; (with_reducible show wpAny _ _ (truthy (Value.ref _)) _ _ _); k_dflt (refine t_list (by is_list) (by simp only [List.size_toArray, List.length_cons, List.length_nil, List.length_append]; omega) (by first | exact t_cons | exact t_nil) ?_); intro _)
  k_with "exec For" => (k_here; (with_reducible show wpAny _ _ (exec (Stmt.For (Expr.Name _ _) (Expr.Name _ _) (_ :: _) [] _) _) _ _ _); (rename Fr _ _ _ _ => lF'); (with_unfolding_all refine' For_invVF lF' (by exact rfl) (by exact rfl) ?_; k_whole))
  k_with "call builtin:chr" => (k_here; (with_reducible show wpAny _ _ (call (Value.builtin _) [Value.int _ _]) _ _ _); k_dflt (refine chr_b ?_))
  k_with "call builtin:str.join" => (k_here; (with_reducible show wpAny _ _ (call (Value.builtin _) [Value.str _ _, Value.ref _]) _ _ _); k_dflt (refine join_chars (by is_list) (by assumption) ofs_empty (by first | omega | (simp only [List.length_append, List.length_cons, List.length_nil]; omega)) ?_); intro _ _)
  k_with "eval IfExp" => (k_here; (fail_if_success (with_reducible rename Go => hGo9)); (with_reducible show wpAny _ _ (eval (Expr.IfExp _ _ _ _) _) _ _ _); (refine hold ?_); walk_say "HELD")
  trivial
section
variable {w : World} {mean : ExcName → Option Value} {mg mb : Str → Option Value} {base : Heap} {s : Shared} {l r r0 : List UInt8} {td ta tk tb to : Tok} {n : Nat} {o k c : UInt8} {bl : List UInt8}
theorem lid_spec (hb : Bas w mean mg mb base) (hz : l.length ≤ 65536) :
    Spec w base 216 [.bytes l.toArray td, .int (n : Int) ta] false 50 1000 s (LawIdRet s.heap l.length (idOf (l.drop (n + 1)))) False := by
  have hz' : l.length ≤ 16777216 := by omega
  ktr_unf
  k_steps
  · ktr_rel
    exact lid_none (idOf_l (by rw [sideL_Q]; exact (by assumption)))
  refine unhold ?_
  intro p rest sp T P vs t ep kk h' tk' hS hD hsp hpl hI F N ne1 ne2
  simp only [AllNe, and_true] at ne1 ne2
  have hL : sideL (l.drop (n + 1)) = some (p, rest) := by rw [sideL_Q]; exact hS
  cases rest with
  | nil =>
    have h1 := drop_nil_le hD
    have hx := idOf_m hL rfl
    k_unmd
    (try k_fold)
    k_steps
    all_goals ktr_rel
    all_goals exact lid_none hx
  | cons c r =>
    have h1 := drop_lt hD
    have D1 := drop_succ hD
    by_cases h64 : c = 64
    · subst h64
      have h64' : (64 : UInt8).toNat = 64 := rfl
      k_unmd
      (try k_fold)
      k_steps
      · ktr_rel
        exact lid_none (idOf_m hL (idMid_r (by
          rw [← D1]
          cases e : l.drop (sp + 1) with
          | nil => rfl
          | cons c1 r1 =>
            have hn : sideQ 91 93 [91] (l.drop (sp + 1)) = none := by assumption
            rw [e] at hn
            by_cases h91 : c1 = 91
            · subst h91; rw [sideR_91, hn]; rfl
            · rw [sideR_o h91]; exact hn)))
      refine unhold ?_
      intro q rest2 sp2 T2 P2 vs2 t2 ep2 kk2 h2 tk2 hS2 hD2 hsp2 hpl2 hI2 F N ne3 ne4
      simp only [AllNe, and_true] at ne3 ne4
      cases r with
      | nil => rw [D1] at hS2; cases hS2
      | cons c1 r1 =>
        have hsl := drop_lt D1
        obtain ⟨R, hR, hRq, hRl⟩ := right_of (q := q) (rest := rest2) (c := c1) (r := r1) (by rw [← D1]; exact hS2) hpl2
        have hm : ∀ x, idEnd p R rest2 = x → idOf (l.drop (n + 1)) = x := fun x e => by
          unfold idOf
          rw [hL]
          exact (idMid_e hR).trans e
        cases rest2 with
        | nil =>
          have h1 := drop_nil_le hD2
          have hx := hm none rfl
          clear hm
          k_unmd
          (try k_fold)
          k_steps
          all_goals ktr_rel
          all_goals exact lid_none hx
        | cons c2 r2 =>
          have h1 := drop_lt hD2
          by_cases h62 : c2 = 62
          · subst h62
            have h62' : (62 : UInt8).toNat = 62 := rfl
            have hx1 : (p ++ R).all plainB = false → idOf (l.drop (n + 1)) = none := fun e => hm none (idEnd_p e)
            have hx2 : (p ++ R).all plainB = true → idOf (l.drop (n + 1)) = some (p ++ [64] ++ R, r2) := fun e => by rw [List.append_assoc]; exact hm _ (idEnd_s e)
            have hlen2 : l.length = sp2 + 1 + r2.length := by
              have := congrArg List.length hD2
              rw [List.length_drop] at this
              simp at this; omega
            clear hm
            k_unmd
            (try k_fold)
            k_steps
            refine unhold ?_
            refine val_cut R (by assumption) (by assumption) ?here ?past
            case here =>
              have hgo := go
              rcases hRq with ⟨h91, hRe⟩ | ⟨h91, hRe⟩
              · subst h91
                have h91' : (91 : UInt8).toNat = 91 := rfl
                k_unmd
                (try k_fold)
                k_steps
                all_goals exact val_end (by assumption) (by assumption) (by exact .head _) (by exact fun p hp => .tail _ (.tail _ (.tail _ (.tail _ hp)))) (by rw [hRe, map_br]; assumption)
              · have h91' : c1.toNat ≠ 91 := fun h => h91 (UInt8.toNat_inj.mp h)
                k_unmd
                (try k_fold)
                k_steps
                all_goals exact val_end (by assumption) (by assumption) (by k_mem) (by exact fun p hp => hp) (by rw [hRe]; assumption)
            case past =>
            intro D3 vs3 ep3 h3 tk3 hI3 F N
            clear hRq
            k_unmd
            (try k_fold)
            k_steps
            refine unhold ?_
            have hcs : (p ++ [64] ++ R).map ofB = List.map ofB p ++ [64] ++ List.map ofB R := by simp only [List.map_append]; rfl
            refine comp_eval (by with_unfolding_all rfl) rfl (by decide) ?_
            k_steps
            refine comp_intsF (cs := p ++ [64] ++ R) (by rw [hcs]; assumption) (fun pre ys => ys.isEmpty = pre.all plainB) (EC := fun _ _ _ => False) (by assumption) (by assumption) (by assumption) (by k_mem) (by simp only [List.length_append, List.length_cons, List.length_nil]; omega) (by decide) rfl rfl rfl ?turn (fun D C e s' h hf => hf.elim) ?fin
            case turn =>
              intro pre post c u ys I oI C oC D m₂ h tk el hJ hC hv F N o ne
              refine wpAny_tests_one ?_
              by_cases hc : plain c
              · obtain ⟨a1, a2⟩ := id hc
                k_unmd
                (try k_fold)
                k_steps
                all_goals exact CEnd.intro (by assumption) (by assumption) _ (fun p hp => hp) o ⟨rfl, by rw [hJ, List.all_append, List.all_cons, show plainB c = true from decide_eq_true hc]; simp⟩
              · have hc' : ¬ (c.toNat ≤ 126 ∧ (32 ≤ c.toNat ∨ c.toNat = 9)) := hc
                k_unmd
                (try k_fold)
                k_steps
                all_goals exact CEnd.intro (by assumption) (by assumption) _ (fun p hp => hp) o ⟨rfl, by rw [List.all_append, List.all_cons, show plainB c = false from decide_eq_false hc]; simp⟩
            case fin =>
              intro D ys h tk hl hJ F N o
              simp only [List.length_append, List.length_cons, List.length_nil] at hl
              cases ys with
              | cons y ys =>
                simp only [List.length_cons] at hl
                have hJ : (p ++ [64] ++ R).all plainB = false := hJ.symm
                have hx := hx1 (by rw [all64] at hJ; exact hJ)
                k_unmd
                (try k_fold)
                k_steps
                all_goals ktr_rel
                all_goals exact lid_none hx
              | nil =>
                have hJ : (p ++ [64] ++ R).all plainB = true := hJ.symm
                have hx := hx2 (by rw [all64] at hJ; exact hJ)
                k_unmd
                (try k_fold)
                k_steps
                refine unhold ?_
                refine comp_eval (by with_unfolding_all rfl) rfl (by decide) ?_
                k_steps
                refine comp_intsF (cs := p ++ [64] ++ R) (by rw [hcs]; assumption) (fun pre ys => StrsAre ys (pre.map chB)) (EC := fun _ _ _ => False) (by assumption) (by assumption) (by assumption) (by k_mem) (by simp only [List.length_append, List.length_cons, List.length_nil]; omega) (by decide) rfl rfl .nil ?turn2 (fun D C e s' h hf => hf.elim) ?fin2
                case turn2 =>
                  intro pre post c u ys I oI C oC D m₂ h tk el hJ hC hv F N o ne
                  refine wpAny_tests_nil ?_
                  simp only [if_true]
                  k_unmd
                  (try k_fold)
                  k_steps
                  all_goals exact CEnd.intro (by assumption) (by assumption) _ (fun p hp => hp) o ⟨rfl, by rw [List.map_append]; exact StrsAre.snoc hJ⟩
                case fin2 =>
                  intro D ys h tk hl hJ F N o
                  simp only [List.cons_append, List.nil_append]
                  k_unmd
                  (try k_fold)
                  k_steps
                  all_goals ktr_rel
                  all_goals exact lid_some (by assumption) hx (by dsimp only; omega)
          · have h62' : c2.toNat ≠ 62 := fun h => h62 (UInt8.toNat_inj.mp h)
            have hx := hm none (idEnd_c h62)
            clear hm
            k_unmd
            (try k_fold)
            k_steps
            all_goals ktr_rel
            all_goals exact lid_none hx
    · have h64' : c.toNat ≠ 64 := fun h => h64 (UInt8.toNat_inj.mp h)
      have hx := idOf_m hL (idMid_c (p := p) (r := r) h64)
      k_unmd
      (try k_fold)
      k_steps
      all_goals ktr_rel
      all_goals exact lid_none hx
end
end Mine
end
section
open PySem PySem.W PySem.Spec PySem.Calls PyProof.Rows
namespace Mine
theorem fillX19 : (PySem.Challenge.rw_no0368_01, ltop.heap_1) = (PySem.Challenge.rw_no0368_01, ltop.heap_1) := by k_fill; rfl
theorem _root_.Mine.rowsX19_1 : True := by
  k_with_none
  k_with "subscriptTail" => (k_here; (with_reducible show wpAny _ _ (subscriptTail _ _ (Value.bytes _ _) (Value.int _ _)) _ _ _); k_dflt (refine b_item rfl (by assumption) (by assumption) ?_); intro _ _)
  k_with "subscriptTail" => (k_here; (with_reducible show wpAny _ _ (subscriptTail _ (Expr.Slice (some _) (some _) none _) (Value.bytes _ _) (Value.ref _)) _ _ _); (with_reducible rename Fr _ _ _ _ => F'); (with_reducible rename News _ _ _ _ => N'); k_dflt (refine b_slice (s := ⟨_, _, _, _, _⟩) F' N' (by constructor) (by constructor) (by assumption) (by first | exact cut1 rfl rfl (by assumption) | exact cut0 rfl rfl (by assumption) | exact cut2 rfl rfl (by assumption)) ?_); intro _ _ _ _ _)
  k_with "compareOp Eq bytes bytes" => (k_here; (with_reducible show wpAny _ _ (compareOp CmpOp.Eq (Value.bytes _ _) (Value.bytes _ _)) _ _ _); k_dflt (refine b_eq (by first | exact beq_cons_false (by assumption) | exact beq_self_true | exact (rfl : _ = false) | exact (rfl : _ = true)) ?_))
  k_with "compareOp NotEq bytes bytes" => (k_here; (with_reducible show wpAny _ _ (compareOp CmpOp.NotEq (Value.bytes _ _) (Value.bytes _ _)) _ _ _); k_dflt (refine b_ne (by first | exact bne_cons_true (by assumption) | exact bne_self_false | exact (rfl : _ = false) | exact (rfl : _ = true)) ?_))
  k_with "call builtin:len" => (k_here; (with_reducible show wpAny _ _ (call (Value.builtin "len") [Value.bytes _ _]) _ _ _); k_dflt (refine b_len (by assumption) ?_); intro _ _)
  k_with "compareOp In int bytes" => (k_here; (with_reducible show wpAny _ _ (compareOp CmpOp.In (Value.int _ _) (Value.bytes _ _)) _ _ _); k_dflt (refine b_in rfl (by first | assumption | rfl) ?_))
  k_with "exec Raise some none" => (k_here; k_dflt (refine raise_wf (by assumption) ?_))
  k_with "ktr_unf" => ((refine' enter (by assumption) ?k6 ?k7 ?k9 ?kl ?c2 ?c3 ?c4 ?c5 ?_); (case k6 => k_is); (case k7 => k_is); (case k9 => exact BindsTo.of_eq rfl); (case kl => exact locs rfl); (case c2 => exact rfl); (case c3 => exact rfl); (case c4 => exact rfl); (case c5 => decide); intro A le L h₁ hh B hd hu X T F N; (try (have hHd := hh rfl)); (try k_unmd); (try dsimp only); k_fold)
  k_with "ktr_rel" => ((try dsimp only); (refine ret_end (by assumption) ?_))
  k_with "call ref" => (k_here; (with_reducible show wpAny _ _ (call (Value.ref 59) _) _ _ _); k_dflt (refine wf_make_K (by assumption) (by assumption) (by assumption) (by omega) (by first | exact .inr ⟨_, _, rfl⟩ | exact .inl rfl) ?_); intro h' tk' e' H'; k_dflt (refine leave_new (by assumption) (by assumption) H' rfl ?_))
  k_with "ite" => (k_here; k_dflt (first
    | (refine ite_pos (by first | omega | (simp only [decide_eq_true_eq, beq_iff_eq, bne_iff_ne, ne_eq, Bool.and_eq_true, Bool.or_eq_true, Bool.not_eq_true', decide_eq_false_iff_not, beq_eq_false_iff_ne]; omega) | exact beq_self_eq_true _) ?_; walk_say "PRUNED here")
    | (refine ite_neg (by first | omega | (simp only [decide_eq_true_eq, beq_iff_eq, bne_iff_ne, ne_eq, Bool.and_eq_true, Bool.or_eq_true, Bool.not_eq_true', decide_eq_false_iff_not, beq_eq_false_iff_ne]; omega) | exact beq_self_eq_true _) ?_; walk_say "PRUNED here")))
  k_with "compareOp In int ref" => (k_here; (with_reducible show wpAny _ _ (compareOp CmpOp.In (Value.int _ _) (Value.ref 62)) _ _ _); k_dflt (refine in_nev (by assumption) (by assumption) ?_))
  k_with "exec While Compare" => (k_here; (with_reducible show wpAny _ _ (exec (Stmt.While _ _ _ _) _) _ _ _); (refine hold ?_); walk_say "HELD")
  k_with "assign Tuple" => (k_here; (with_reducible show wpAny _ _ (assign (Expr.Tuple _ _ _) _ (Value.ref _)) _ _ _); k_dflt (refine unpackN_ (by k_asm) (by k_asm) (News.isTup (by k_asm) (by k_mem)) (by assumption) rfl rfl ?_); intro h' F' N'; (try k_sweep))
  k_with "call builtin:list.append" => (k_here; (with_reducible show wpAny _ _ (call (Value.builtin _) [Value.ref _, _]) _ _ _); k_dflt (refine' append_K (by k_asm) (by k_asm) (by k_upd) ?_ (by first | size_fits | (rw [sizeLine_eq]; show List.length _ ≤ _; omega)); k_whole); intro h' F' N'; (try simp only [List.push_toArray] at N'); (try k_sweep))
  k_with "pyIter bytes" => (k_here; (refine hold ?_); walk_say "HELD")
  k_with "eval ListComp" => (k_here; (with_reducible show wpAny _ _ (eval (Expr.ListComp _ _ _ _) _) _ _ _); (refine hold ?_); walk_say "HELD")
  k_with "subscriptTail" => (k_here; (with_reducible show wpAny _ _ (subscriptTail _ (Expr.Slice (some _) none none _) (Value.str _ _) (Value.ref _)) _ _ _); (with_reducible rename Fr _ _ _ _ => F'); (with_reducible rename News _ _ _ _ => N'); k_dflt (first | refine s_last (s := ⟨_, _, _, _, _⟩) F' N' (by assumption) ?_ | refine s_from (s := ⟨_, _, _, _, _⟩) (k := 0) (by omega) (by omega) F' N' (by assumption) ?_ | refine s_from (s := ⟨_, _, _, _, _⟩) rfl (by omega) F' N' (by assumption) ?_); intro _ _ _ _ _)
  k_with "subscriptTail Name Slice str ref" => (k_here; (with_reducible show wpAny _ _ (subscriptTail _ (Expr.Slice (some _) none none _) (Value.str _ _) (Value.ref _)) _ _ _); (with_reducible rename Fr _ _ _ _ => F'); (with_reducible rename News _ _ _ _ => N'); k_dflt (first | refine s_last (s := ⟨_, _, _, _, _⟩) F' N' (by assumption) ?_ | refine s_from (s := ⟨_, _, _, _, _⟩) (k := 0) (by omega) (by omega) F' N' (by assumption) ?_ | refine s_from (s := ⟨_, _, _, _, _⟩) rfl (by omega) F' N' (by assumption) ?_); intro _ _ _ _ _)
  k_with "subscriptTail" => (k_here; (with_reducible show wpAny _ _ (subscriptTail _ (Expr.Slice none (some _) none _) (Value.bytes _ _) (Value.ref _)) _ _ _); (with_reducible rename Fr _ _ _ _ => F'); (with_reducible rename News _ _ _ _ => N'); k_dflt (refine b_slice (s := ⟨_, _, _, _, _⟩) F' N' (by constructor) (by constructor) (by assumption) (cut_to rfl (by omega)) ?_); intro _ _ _ _ _)
  k_with "subscriptTail" => (k_here; (with_reducible show wpAny _ _ (subscriptTail _ (Expr.Slice (some _) none none _) (Value.bytes _ _) (Value.ref _)) _ _ _); (with_reducible rename Fr _ _ _ _ => F'); (with_reducible rename News _ _ _ _ => N'); k_dflt (refine b_slice (s := ⟨_, _, _, _, _⟩) F' N' (by constructor) (by constructor) (by assumption) (cut_from rfl (by omega)) ?_); intro _ _ _ _ _)
  k_with "compareOp Eq str str" => (k_here; (with_reducible show wpAny _ _ (compareOp CmpOp.Eq (Value.str _ _) (Value.str _ _)) _ _ _); k_dflt (first | with_reducible refine s_eq1 lit9 (by assumption) ?_ | with_reducible refine s_eq lit93 (by assumption) ?_))
  k_with "compareOp NotEq str str" => (k_here; (with_reducible show wpAny _ _ (compareOp CmpOp.NotEq (Value.str _ _) (Value.str _ _)) _ _ _); k_dflt (refine s_ne lit0 (by assumption) ?_))
  k_with "compareOp In str str" => (k_here; (with_reducible show wpAny _ _ (compareOp CmpOp.In (Value.str _ _) (Value.str _ _)) _ _ _); k_dflt (refine s_in lit6491 (by assumption) ?_))
  k_with "call builtin:str.rfind" => (k_here; k_dflt (first | with_reducible refine s_rfind_some lit64 (by assumption) ?_ | with_reducible refine s_rfind_none lit64 (by assumption) ?_ | with_reducible refine s_rfind_some lit6491 (by assumption) ?_ | with_reducible refine s_rfind_none lit6491 (by assumption) ?_); intro _ _)
  k_with "call builtin:ord" => (k_here; (with_reducible show wpAny _ _ (call (Value.builtin _) [Value.str (chB _) _]) _ _ _); k_dflt (refine s_ord ?_); intro _ _)
  k_with "pyIter str" => (k_here; (refine hold ?_); walk_say "HELD")
  k_with "call type:bytes" => (k_here; (with_reducible show wpAny _ _ (call (Value.type _) [Value.ref _]) _ _ _); k_dflt (refine s_bytes (by assumption) (by assumption) (by assumption) (by is_list) (by assumption) (by assumption) ?_); intro _ _ _ _ _)
  k_with "truthy ref" => (k_here; (with_reducible show wpAny _ _ (truthy (Value.ref _)) _ _ _); k_dflt (refine t_list (by is_list) (by simp only [List.size_toArray, List.length_cons, List.length_nil, List.length_append]; omega) (by first | exact t_cons | exact t_nil) ?_); intro _)
  k_with "exec For" => (k_here; (with_reducible show wpAny _ _ (exec (Stmt.For (Expr.Name _ _) (Expr.Name _ _) (_ :: _) [] _) _) _ _ _); (rename Fr _ _ _ _ => lF'); (with_unfolding_all refine' For_invVF lF' (by exact rfl) (by exact rfl) ?_; k_whole))
  k_with "call ref" => (k_here; (with_reducible show wpAny _ _ (call (Value.ref 130) _) _ _ _); k_dflt (refine call_spec (plain_spec (by assumption)) (by assumption) (by assumption) (by assumption) (fun _ => by assumption) (by omega) (by omega) rfl ?_ ?_); (case' refine_1 => intro _ _ _ _ _ _ er'; obtain ⟨er', hP'⟩ := er'; subst er'; (try dsimp only)); (case' refine_2 => intro hP' _ _ _ R'; (refine leave_pass (by assumption) (by assumption) R' rfl ?_)))
  trivial
theorem sides_bad {p : List UInt8} (h : p.all plainB ≠ true) : sidesOf p = none := by
  unfold sidesOf
  cases spotOf p with
  | none => rfl
  | some i =>
    show (if _ then _ else _) = _
    rw [if_neg h]
theorem sides_ok {p : List UInt8} {i : Nat} (hs : spotOf p = some i) (h : p.all plainB = true) : sidesOf p = some (p.take i, p.drop (i + 1)) := by
  unfold sidesOf
  rw [hs]
  show (if _ then _ else _) = _
  rw [if_pos h]
section
variable {w : World} {mean : ExcName → Option Value} {mg mb : Str → Option Value} {base : Heap} {s : Shared} {p : List UInt8} {td : Tok}
theorem sides_spec (hb : Bas w mean mg mb base) (hz : p.length ≤ 65536) :
    Spec w base 154 [.str (strB p) td] false 40 700 s (fun v h' => ∃ l r, sidesOf p = some (l, r) ∧ SidesRet s l r v h') (sidesOf p = none) := by
  have hz' : p.length ≤ 16777216 := by omega
  by_cases hl : p.getLast? = some 93
  · have h1 : (p.drop (p.length - 1) == [93]) = true := by rw [last_is]; exact decide_eq_true hl
    cases hr : rf [64, 91] p with
    | none =>
      have hx : sidesOf p = none := by unfold sidesOf spotOf; rw [if_pos hl, hr]; rfl
      ktr_unf
      k_steps
      all_goals exact hx
    | some i =>
      have hs : spotOf p = some i := by unfold spotOf; rw [if_pos hl]; exact hr
      have hi : i + 1 ≤ p.length := by
        obtain ⟨a, b, _⟩ := rf_some hr
        have := b.length_le
        rw [List.length_drop] at this
        simp at this; omega
      ktr_unf
      k_steps
      refine unhold ?_
      refine text_for [] (fun pre => True) (by assumption) (by assumption) trivial ?_ ?_
      · intro pre post c t u h tk own e hp F N
        dsimp only at F N
        by_cases hc : c.toNat ≤ 126
        · k_unmd
          (try k_fold)
          k_steps
          all_goals exact fturn_next (by assumption) (by assumption) (fun z h1 h3 => (if_neg h1).trans (by rw [h3]; rfl)) trivial
        · have hx : sidesOf p = none := sides_bad (fun q => hc (by
            have := List.all_eq_true.mp q c (by rw [e]; simp)
            exact (of_decide_eq_true this).1))
          k_unmd
          (try k_fold)
          k_steps
          all_goals exact hx
      · intro u h tk hp F N
        dsimp only
        k_unmd
        (try k_fold)
        k_steps
        refine unhold ?_
        refine comp_eval (by with_unfolding_all rfl) rfl (by decide) ?_
        k_steps
        refine comp_textF (fun pre ys => IntsAre ys (pre.map ofB)) (EC := fun _ _ _ => False) (.inl (by assumption)) (by assumption) (by assumption) (by assumption) (by decide) rfl rfl .nil ?turn (fun D C e s' h hf => hf.elim) ?fin
        case turn =>
          intro pre post c u ys I oI C oC D m₂ h tk el hJ hC hv F N o ne
          refine wpAny_tests_nil ?_
          simp only [if_true]
          k_unmd
          (try k_fold)
          k_steps
          all_goals exact CEnd.intro (by assumption) (by assumption) _ (fun p hp => hp) o ⟨rfl, by rw [List.map_append]; exact IntsAre.snoc hJ⟩
        case fin =>
          intro D ys h tk hl hJ F N o
          k_unmd
          (try k_fold)
          k_steps
          all_goals first
            | exact sides_bad (by rw [show p.all plainB = false by assumption]; exact Bool.false_ne_true)
            | (ktr_rel; exact ⟨_, _, sides_ok hs (by assumption), sides_end (by assumption)⟩)
  · have h1 : (p.drop (p.length - 1) == [93]) = false := by rw [last_is]; exact decide_eq_false hl
    cases hr : rf [64] p with
    | none =>
      have hx : sidesOf p = none := by unfold sidesOf spotOf; rw [if_neg hl, hr]; rfl
      ktr_unf
      k_steps
      all_goals exact hx
    | some i =>
      have hs : spotOf p = some i := by unfold spotOf; rw [if_neg hl]; exact hr
      have hi : i + 1 ≤ p.length := by
        obtain ⟨a, b, _⟩ := rf_some hr
        have := b.length_le
        rw [List.length_drop] at this
        simp at this; omega
      ktr_unf
      k_steps
      refine unhold ?_
      refine text_for [] (fun pre => True) (by assumption) (by assumption) trivial ?_ ?_
      · intro pre post c t u h tk own e hp F N
        dsimp only at F N
        by_cases hc : c.toNat ≤ 126
        · k_unmd
          (try k_fold)
          k_steps
          all_goals exact fturn_next (by assumption) (by assumption) (fun z h1 h3 => (if_neg h1).trans (by rw [h3]; rfl)) trivial
        · have hx : sidesOf p = none := sides_bad (fun q => hc (by
            have := List.all_eq_true.mp q c (by rw [e]; simp)
            exact (of_decide_eq_true this).1))
          k_unmd
          (try k_fold)
          k_steps
          all_goals exact hx
      · intro u h tk hp F N
        dsimp only
        k_unmd
        (try k_fold)
        k_steps
        refine unhold ?_
        refine comp_eval (by with_unfolding_all rfl) rfl (by decide) ?_
        k_steps
        refine comp_textF (fun pre ys => IntsAre ys (pre.map ofB)) (EC := fun _ _ _ => False) (.inl (by assumption)) (by assumption) (by assumption) (by assumption) (by decide) rfl rfl .nil ?turn (fun D C e s' h hf => hf.elim) ?fin
        case turn =>
          intro pre post c u ys I oI C oC D m₂ h tk el hJ hC hv F N o ne
          refine wpAny_tests_nil ?_
          simp only [if_true]
          k_unmd
          (try k_fold)
          k_steps
          all_goals exact CEnd.intro (by assumption) (by assumption) _ (fun p hp => hp) o ⟨rfl, by rw [List.map_append]; exact IntsAre.snoc hJ⟩
        case fin =>
          intro D ys h tk hl hJ F N o
          k_unmd
          (try k_fold)
          k_steps
          all_goals first
            | exact sides_bad (by rw [show p.all plainB = false by assumption]; exact Bool.false_ne_true)
            | (ktr_rel; exact ⟨_, _, sides_ok hs (by assumption), sides_end (by assumption)⟩)
end
end Mine
end
section
open PySem PySem.W PySem.Spec PySem.Calls PyProof.Rows
namespace Mine
theorem fillX20 : (PySem.Challenge.rw_no0368_01, ltop.heap_1) = (PySem.Challenge.rw_no0368_01, ltop.heap_1) := by k_fill; rfl
theorem _root_.Mine.rowsX20_1 : True := by
  k_with_none
  k_with "subscriptTail" => (k_here; (with_reducible show wpAny _ _ (subscriptTail _ _ (Value.bytes _ _) (Value.int _ _)) _ _ _); k_dflt (refine b_item rfl (by assumption) (by assumption) ?_); intro _ _)
  k_with "subscriptTail" => (k_here; (with_reducible show wpAny _ _ (subscriptTail _ (Expr.Slice (some _) (some _) none _) (Value.bytes _ _) (Value.ref _)) _ _ _); (with_reducible rename Fr _ _ _ _ => F'); (with_reducible rename News _ _ _ _ => N'); k_dflt (refine b_slice (s := ⟨_, _, _, _, _⟩) F' N' (by constructor) (by constructor) (by assumption) (by first | exact cut1 rfl rfl (by assumption) | exact cut0 rfl rfl (by assumption) | exact cut2 rfl rfl (by assumption)) ?_); intro _ _ _ _ _)
  k_with "compareOp Eq bytes bytes" => (k_here; (with_reducible show wpAny _ _ (compareOp CmpOp.Eq (Value.bytes _ _) (Value.bytes _ _)) _ _ _); k_dflt (refine b_eq (by first | exact beq_cons_false (by assumption) | exact beq_self_true | exact (rfl : _ = false) | exact (rfl : _ = true)) ?_))
  k_with "compareOp NotEq bytes bytes" => (k_here; (with_reducible show wpAny _ _ (compareOp CmpOp.NotEq (Value.bytes _ _) (Value.bytes _ _)) _ _ _); k_dflt (refine b_ne (by first | exact bne_cons_true (by assumption) | exact bne_self_false | exact (rfl : _ = false) | exact (rfl : _ = true)) ?_))
  k_with "call builtin:len" => (k_here; (with_reducible show wpAny _ _ (call (Value.builtin "len") [Value.bytes _ _]) _ _ _); k_dflt (refine b_len (by assumption) ?_); intro _ _)
  k_with "compareOp In int bytes" => (k_here; (with_reducible show wpAny _ _ (compareOp CmpOp.In (Value.int _ _) (Value.bytes _ _)) _ _ _); k_dflt (refine b_in rfl (by first | assumption | rfl) ?_))
  k_with "exec Raise some none" => (k_here; k_dflt (refine raise_wf (by assumption) ?_))
  k_with "ktr_unf" => ((refine' enter (by assumption) ?k6 ?k7 ?k9 ?kl ?c2 ?c3 ?c4 ?c5 ?_); (case k6 => k_is); (case k7 => k_is); (case k9 => exact BindsTo.of_eq rfl); (case kl => exact locs rfl); (case c2 => exact rfl); (case c3 => exact rfl); (case c4 => exact rfl); (case c5 => decide); intro A le L h₁ hh B hd hu X T F N; (try (have hHd := hh rfl)); (try k_unmd); (try dsimp only); k_fold)
  k_with "ktr_rel" => ((try dsimp only); (refine ret_end (by assumption) ?_))
  k_with "call ref" => (k_here; (with_reducible show wpAny _ _ (call (Value.ref 59) _) _ _ _); k_dflt (refine wf_make_K (by assumption) (by assumption) (by assumption) (by omega) (by first | exact .inr ⟨_, _, rfl⟩ | exact .inl rfl) ?_); intro h' tk' e' H'; k_dflt (refine leave_new (by assumption) (by assumption) H' rfl ?_))
  k_with "ite" => (k_here; k_dflt (first
    | (refine ite_pos (by first | omega | (simp only [decide_eq_true_eq, beq_iff_eq, bne_iff_ne, ne_eq, Bool.and_eq_true, Bool.or_eq_true, Bool.not_eq_true', decide_eq_false_iff_not, beq_eq_false_iff_ne]; omega) | exact beq_self_eq_true _) ?_; walk_say "PRUNED here")
    | (refine ite_neg (by first | omega | (simp only [decide_eq_true_eq, beq_iff_eq, bne_iff_ne, ne_eq, Bool.and_eq_true, Bool.or_eq_true, Bool.not_eq_true', decide_eq_false_iff_not, beq_eq_false_iff_ne]; omega) | exact beq_self_eq_true _) ?_; walk_say "PRUNED here")))
  k_with "compareOp In int ref" => (k_here; (with_reducible show wpAny _ _ (compareOp CmpOp.In (Value.int _ _) (Value.ref 62)) _ _ _); k_dflt (refine in_nev (by assumption) (by assumption) ?_))
  k_with "exec While Compare" => (k_here; (with_reducible show wpAny _ _ (exec (Stmt.While _ _ _ _) _) _ _ _); (refine hold ?_); walk_say "HELD")
  k_with "assign Tuple" => (k_here; (with_reducible show wpAny _ _ (assign (Expr.Tuple _ _ _) _ (Value.ref _)) _ _ _); k_dflt (refine unpackN_ (by k_asm) (by k_asm) (News.isTup (by k_asm) (by k_mem)) (by assumption) rfl rfl ?_); intro h' F' N'; (try k_sweep))
  k_with "call builtin:list.append" => (k_here; (with_reducible show wpAny _ _ (call (Value.builtin _) [Value.ref _, _]) _ _ _); k_dflt (refine' append_K (by k_asm) (by k_asm) (by k_upd) ?_ (by first | size_fits | (rw [sizeLine_eq]; show List.length _ ≤ _; omega)); k_whole); intro h' F' N'; (try simp only [List.push_toArray] at N'); (try k_sweep))
  k_with "pyIter bytes" => (k_here; (refine hold ?_); walk_say "HELD")
  k_with "call ref" => (k_here; (with_reducible show wpAny _ _ (call (Value.ref 83) _) _ _ _); k_dflt (first
    | (refine call_inside_some (by assumption) (by assumption) (by assumption) (by assumption) (by assumption) (by assumption) (by assumption) (by assumption) (by omega) (by omega) rfl ?_; intro _ _ _ _ _ _ _ _ ne'; (try simp only [AllNe, and_true] at ne'))
    | (refine call_inside_none (by assumption) (by assumption) (by assumption) (by assumption) (by assumption) (by assumption) (by assumption) (by assumption) (by omega) (by omega) rfl ?_; intro _ _ _ R'; (refine leave_pass (by assumption) (by assumption) R' rfl ?_))))
  k_with "getMethod bytes" => (k_here; (with_reducible refine m_join ?_))
  k_with "call builtin:bytes.join" => (k_here; k_dflt (refine b_join_parts (by assumption) (by assumption) (by omega) ?_); intro _ _)
  k_with "pyIter ref" => (k_here; (refine hold ?_); walk_say "HELD")
  trivial
section
variable {w : World} {mean : ExcName → Option Value} {mg mb : Str → Option Value} {base : Heap} {s : Shared} {l sg : List UInt8} {td ts : Tok}
theorem esc_spec (hb : Bas w mean mg mb base) (hz : l.length ≤ 65536) (hl : NoBad l) :
    Spec w base 104 [.bytes l.toArray td, .bytes sg.toArray ts] false 20 400 s (fun v h' => ∃ t, v = .bytes (escB sg l).toArray t) False := by
  have hz' : l.length ≤ 16777216 := by omega
  ktr_unf
  k_steps
  refine unhold ?_
  refine range_grow [] (fun i vs acc => acc = escB sg (l.take i) ∧ PartsAre vs acc ∧ vs.length ≤ 2 * i) (by assumption) (by assumption) hz' (by assumption) (by assumption) (by k_mem) ⟨rfl, .nil, Nat.zero_le _⟩ ?turn ?done
  case turn =>
    intro i vs acc ep t u h tk own hi hP F N hoff
    obtain ⟨he, hP, hv⟩ := hP
    have hvs : vs.length ≤ 16777216 := by omega
    obtain ⟨c, r, D⟩ : ∃ c r, l.drop i = c :: r := by
      cases e : l.drop i with
      | nil => rw [List.drop_eq_nil_iff] at e; omega
      | cons c r => exact ⟨c, r, rfl⟩
    have hnb := hl.at D
    have q0 : c.toNat ≠ 0 := fun q => hnb.1 (UInt8.toNat_inj.mp q)
    have q10 : c.toNat ≠ 10 := fun q => hnb.2.1 (UInt8.toNat_inj.mp q)
    have q13 : c.toNat ≠ 13 := fun q => hnb.2.2 (UInt8.toNat_inj.mp q)
    dsimp only at F N
    cases hc : sg.contains c with
    | true =>
      have e2 : (acc ++ [92]) ++ [c] = escB sg (l.take (i + 1)) := by rw [take_snoc D, escB_snoc, hc, he]; simp
      k_unmd
      (try k_fold)
      k_steps
      all_goals exact gturn_next ((vs ++ [_]) ++ [_]) ((acc ++ [92]) ++ [c]) _ (by assumption) (by assumption) (by k_mem) (fun p hp => by simp [hp]) (fun z h1 h3 => (if_neg h1).trans (by rw [h3]; rfl)) ⟨e2, PartsAre.snoc (PartsAre.snoc hP), by simp only [List.length_append, List.length_singleton]; omega⟩
    | false =>
      have e2 : acc ++ [c] = escB sg (l.take (i + 1)) := by rw [take_snoc D, escB_snoc, hc, he]; simp
      k_unmd
      (try k_fold)
      k_steps
      all_goals exact gturn_next (vs ++ [_]) (acc ++ [c]) _ (by assumption) (by assumption) (by k_mem) (fun p hp => by simp [hp]) (fun z h1 h3 => (if_neg h1).trans (by rw [h3]; rfl)) ⟨e2, PartsAre.snoc hP, by simp only [List.length_append, List.length_singleton]; omega⟩
  case done =>
    intro vs acc ep u h tk hP F N
    obtain ⟨he, hP, hv⟩ := hP
    rw [List.take_length] at he
    have hacc : acc.length ≤ 2 * l.length := by rw [he]; exact escB_len l
    have hvs : vs.length ≤ 16777216 := by omega
    dsimp only
    k_unmd
    (try k_fold)
    k_steps
    all_goals ktr_rel
    all_goals exact ⟨_, by rw [he]⟩
end
end Mine
end
section
open PySem PySem.W PySem.Spec PySem.Calls PyProof.Rows
namespace Mine
section
variable {w : World} {mean : ExcName → Option Value} {mg mb : Str → Option Value} {base g : Heap} {s : Shared} {l r : List UInt8} {td ta tk tb to : Tok} {n j n' : Nat} {o k c : UInt8} {bl : List UInt8} {A : Around} {le : List Env} {L a : Addr} {m : Str → Option Value} {news : List (Addr × Obj)} {name : Str} {scope : Scope} {cd : Value} {Q E : Value → Shared → Prop} {x y : Int}
theorem call_lid (hb : Bas w mean mg mb base) (hz : l.length ≤ 65536) (B : Below A base le g) (F : Fr g L s.heap m) (N : News g L s.heap news) (hh : A.handled = none) (hd : A.depth + 51 < recursionLimit) (hu : A.units + 1003 < cLine) (hk : scope.kind = .function)
    (no : idOf (l.drop (n + 1)) = none → ∀ h' tk', Fr g L h' m → News g L h' news → Q .none { s with heap := h', toks := tk' })
    (ret : ∀ p rest sp D t1 t2 ep h' tk', idOf (l.drop (n + 1)) = some (p, rest) → sp = l.length - rest.length → Fr g L h' m → News g L h' ((D, tupOf [.str (strB p) t1, .int (sp : Nat) t2] ep) :: news) → AllNe D news → Q (.ref D) { s with heap := h', toks := tk' }) :
    wpAny (model PySem.Challenge.rw_no0368_01.row.toRowW.prog w) (A.deeper (envOf name scope L a cd)) (call (.ref 216) [.bytes l.toArray td, .int (n : Int) ta]) Q E s := by
  refine call_spec (lid_spec hb hz) B F N (fun _ => hh) hd hu hk (fun r h' tk' F' N' K hr => ?_) False.elim
  cases e : idOf (l.drop (n + 1)) with
  | none =>
    rw [e] at hr
    have hr : r = .none := hr
    subst hr
    exact no e h' tk' F' N'
  | some p =>
    rw [e] at hr
    obtain ⟨D, t1, t2, ep, rfl, hD, ho⟩ := hr
    exact ret p.1 p.2 _ D t1 t2 ep h' tk' e rfl F' (news_cons' F hD N' ho) (allNe_of (news_ne N hD))
theorem call_within2 (hb : Bas w mean mg mb base) (hz : l.length ≤ 16777216) (B : Below A base le g) (F : Fr g L s.heap m) (N : News g L s.heap news) (hh : A.handled = none) (hd : A.depth + 21 < recursionLimit) (hu : A.units + 403 < cLine) (hk : scope.kind = .function) (hx : x = ((n : Nat) : Int)) (hy : y = (k.toNat : Int))
    (no : closed k bl (l.drop n) = none → ∀ h' tk', Fr g L h' m → News g L h' news → Q .none { s with heap := h', toks := tk' })
    (ret : ∀ p rest sp T P vs t ep kk h' tk', closed k bl (l.drop n) = some (p, rest) → sp = l.length - rest.length → Fr g L h' m → News g L h' ((T, tupOf [.ref P, .int ((sp : Nat) : Int) t] kk) :: (P, listOf (List.toArray vs) ep) :: news) → AllNe T ((P, listOf (List.toArray vs) ep) :: news) → AllNe P news → Q (.ref T) { s with heap := h', toks := tk' }) :
    wpAny (model PySem.Challenge.rw_no0368_01.row.toRowW.prog w) (A.deeper (envOf name scope L a cd)) (call (.ref 204) [.bytes l.toArray td, .int x ta, .int y tk, .bytes bl.toArray tb]) Q E s := by
  subst hx hy
  refine call_spec (within_spec hb hz) B F N (fun _ => hh) hd hu hk (fun r h' tk' F' N' K hr => ?_) False.elim
  cases e : closed k bl (l.drop n) with
  | none =>
    rw [e] at hr
    have hr : r = .none := hr
    subst hr
    exact no e h' tk' F' N'
  | some p =>
    rw [e] at hr
    obtain ⟨T, P, vs, t, ep, kk, rfl, h2, h3, h4, h5, h6, h7⟩ := hr
    have N2 := news_cons' F h3 N' h6
    have N3 : News g L h' ((T, tupOf [.ref P, .int ((l.length - p.2.length : Nat) : Int) t] kk) :: (P, listOf (List.toArray vs) ep) :: news) := news_cons' F h2 N2 h5
    exact ret p.1 p.2 _ T P vs t ep kk h' tk' e rfl F' N3 ⟨fun z => h4 z.symm, allNe_of (news_ne N h2)⟩ (allNe_of (news_ne N h3))
theorem call_lpast {r0 : List UInt8} (hb : Bas w mean mg mb base) (hz : l.length ≤ 16777216) (D0 : l.drop n = 40 :: r0) (B : Below A base le g) (F : Fr g L s.heap m) (N : News g L s.heap news) (hh : A.handled = none) (hd : A.depth + 21 < recursionLimit) (hu : A.units + 403 < cLine) (hk : scope.kind = .function)
    (no : commentU 1 (l.drop (n + 1)) = none → ∀ h' tk', Fr g L h' m → News g L h' news → Q .none { s with heap := h', toks := tk' })
    (ret : ∀ rest sp t h' tk', commentU 1 (l.drop (n + 1)) = some rest → sp = l.length - rest.length → Fr g L h' m → News g L h' news → Q (.int ((sp : Nat) : Int) t) { s with heap := h', toks := tk' }) :
    wpAny (model PySem.Challenge.rw_no0368_01.row.toRowW.prog w) (A.deeper (envOf name scope L a cd)) (call (.ref 223) [.bytes l.toArray td, .int (n : Int) ta]) Q E s := by
  refine call_spec (lpast_spec hb hz D0) B F N (fun _ => hh) hd hu hk (fun r h' tk' F' N' K hr => ?_) False.elim
  cases e : commentU 1 (l.drop (n + 1)) with
  | none =>
    rw [e] at hr
    have hr : r = .none := hr
    subst hr
    exact no e h' tk' F' N'
  | some p =>
    rw [e] at hr
    obtain ⟨t, rfl⟩ := hr
    exact ret p _ t h' tk' e rfl F' N'
end
end Mine
end
section
open PySem PySem.W PySem.Spec PySem.Calls PyProof.Rows
namespace Mine
theorem fillX18 : (PySem.Challenge.rw_no0368_01, ltop.heap_1) = (PySem.Challenge.rw_no0368_01, ltop.heap_1) := by k_fill; rfl
theorem _root_.Mine.rowsX18_1 : True := by
  k_with_none
  k_with "subscriptTail" => (k_here; (with_reducible show wpAny _ _ (subscriptTail _ _ (Value.bytes _ _) (Value.int _ _)) _ _ _); k_dflt (refine b_item rfl (by assumption) (by assumption) ?_); intro _ _)
  k_with "subscriptTail" => (k_here; (with_reducible show wpAny _ _ (subscriptTail _ (Expr.Slice (some _) (some _) none _) (Value.bytes _ _) (Value.ref _)) _ _ _); (with_reducible rename Fr _ _ _ _ => F'); (with_reducible rename News _ _ _ _ => N'); k_dflt (refine b_slice (s := ⟨_, _, _, _, _⟩) F' N' (by constructor) (by constructor) (by assumption) (by first | exact cut1 rfl rfl (by assumption) | exact cut0 rfl rfl (by assumption) | exact cut2 rfl rfl (by assumption)) ?_); intro _ _ _ _ _)
  k_with "compareOp Eq bytes bytes" => (k_here; (with_reducible show wpAny _ _ (compareOp CmpOp.Eq (Value.bytes _ _) (Value.bytes _ _)) _ _ _); k_dflt (refine b_eq (by first | exact beq_cons_false (by assumption) | exact beq_self_true | exact (rfl : _ = false) | exact (rfl : _ = true)) ?_))
  k_with "compareOp NotEq bytes bytes" => (k_here; (with_reducible show wpAny _ _ (compareOp CmpOp.NotEq (Value.bytes _ _) (Value.bytes _ _)) _ _ _); k_dflt (refine b_ne (by first | exact bne_cons_true (by assumption) | exact bne_self_false | exact (rfl : _ = false) | exact (rfl : _ = true)) ?_))
  k_with "call builtin:len" => (k_here; (with_reducible show wpAny _ _ (call (Value.builtin "len") [Value.bytes _ _]) _ _ _); k_dflt (refine b_len (by assumption) ?_); intro _ _)
  k_with "compareOp In int bytes" => (k_here; (with_reducible show wpAny _ _ (compareOp CmpOp.In (Value.int _ _) (Value.bytes _ _)) _ _ _); k_dflt (refine b_in rfl (by first | assumption | rfl) ?_))
  k_with "exec Raise some none" => (k_here; k_dflt (refine raise_wf (by assumption) ?_))
  k_with "ktr_unf" => ((refine' enter (by assumption) ?k6 ?k7 ?k9 ?kl ?c2 ?c3 ?c4 ?c5 ?_); (case k6 => k_is); (case k7 => k_is); (case k9 => exact BindsTo.of_eq rfl); (case kl => exact locs rfl); (case c2 => exact rfl); (case c3 => exact rfl); (case c4 => exact rfl); (case c5 => decide); intro A le L h₁ hh B hd hu X T F N; (try (have hHd := hh rfl)); (try k_unmd); (try dsimp only); k_fold)
  k_with "ktr_rel" => ((try dsimp only); (refine ret_end (by assumption) ?_))
  k_with "call ref" => (k_here; (with_reducible show wpAny _ _ (call (Value.ref 59) _) _ _ _); k_dflt (refine wf_make_K (by assumption) (by assumption) (by assumption) (by omega) (by first | exact .inr ⟨_, _, rfl⟩ | exact .inl rfl) ?_); intro h' tk' e' H'; k_dflt (refine leave_new (by assumption) (by assumption) H' rfl ?_))
  k_with "ite" => (k_here; k_dflt (first
    | (refine ite_pos (by first | omega | (simp only [decide_eq_true_eq, beq_iff_eq, bne_iff_ne, ne_eq, Bool.and_eq_true, Bool.or_eq_true, Bool.not_eq_true', decide_eq_false_iff_not, beq_eq_false_iff_ne]; omega) | exact beq_self_eq_true _) ?_; walk_say "PRUNED here")
    | (refine ite_neg (by first | omega | (simp only [decide_eq_true_eq, beq_iff_eq, bne_iff_ne, ne_eq, Bool.and_eq_true, Bool.or_eq_true, Bool.not_eq_true', decide_eq_false_iff_not, beq_eq_false_iff_ne]; omega) | exact beq_self_eq_true _) ?_; walk_say "PRUNED here")))
  k_with "compareOp In int ref" => (k_here; (with_reducible show wpAny _ _ (compareOp CmpOp.In (Value.int _ _) (Value.ref 62)) _ _ _); k_dflt (refine in_nev (by assumption) (by assumption) ?_))
  k_with "exec While Compare" => (k_here; (with_reducible show wpAny _ _ (exec (Stmt.While _ _ _ _) _) _ _ _); (refine hold ?_); walk_say "HELD")
  k_with "exec For" => (k_here; (with_reducible show wpAny _ _ (exec (Stmt.For _ _ _ _ _) _) _ _ _); (refine hold ?_); walk_say "HELD")
  k_with "assign Tuple" => (k_here; (with_reducible show wpAny _ _ (assign (Expr.Tuple _ _ _) _ (Value.ref _)) _ _ _); k_dflt (refine unpackN_ (by k_asm) (by k_asm) (News.isTup (by k_asm) (by k_mem)) (by assumption) rfl rfl ?_); intro h' F' N'; (try k_sweep))
  k_with "call builtin:list.append" => (k_here; (with_reducible show wpAny _ _ (call (Value.builtin _) [Value.ref _, _]) _ _ _); k_dflt (refine' append_K (by k_asm) (by k_asm) (by k_upd) ?_ (by first | size_fits | (rw [sizeLine_eq]; show List.length _ ≤ _; omega)); k_whole); intro h' F' N'; (try simp only [List.push_toArray] at N'); (try k_sweep))
  k_with "call ref" => (k_here; (with_reducible show wpAny _ _ (call (Value.ref 216) _) _ _ _); k_dflt (refine call_lid (by assumption) (by assumption) (by assumption) (by assumption) (by assumption) (by assumption) (by omega) (by omega) rfl ?_ ?_); (case' refine_1 => intro hC' _ _ _ _); (case' refine_2 => intro p' rest' sp' D' _ _ _ _ _ hC' hs' _ _ ne'; (try simp only [AllNe, and_true] at ne')))
  k_with "call ref" => (k_here; (with_reducible show wpAny _ _ (call (Value.ref 204) _) _ _ _); k_dflt (refine call_within2 (k := 34) (by assumption) (by assumption) (by assumption) (by assumption) (by assumption) (by assumption) (by omega) (by omega) rfl rfl rfl ?_ ?_); (case' refine_1 => intro hC' _ _ _ _); (case' refine_2 => intro p' rest' sp' T' P' _ _ _ _ _ _ hC' hs' _ _ ne' ne2'; (try simp only [AllNe, and_true] at ne' ne2')))
  k_with "call ref" => (k_here; (with_reducible show wpAny _ _ (call (Value.ref 223) _) _ _ _); k_dflt (refine call_lpast (by assumption) (by assumption) (by assumption) (by assumption) (by assumption) (by assumption) (by assumption) (by omega) (by omega) rfl ?_ ?_); (case' refine_1 => intro hC' _ _ _ _); (case' refine_2 => intro rest' sp' _ _ _ hC' hs' _ _))
  trivial

structure LrSt where
  vs : List Value
  acc : List (List UInt8)
  ep : Nat
  b : Value
  hv : Option Value
theorem _root_.Mine.rowsX18_2 : True := by
  k_with "exec If" => (k_here; (fail_if_success (with_reducible rename Go4 => hGo9)); (with_reducible show wpAny _ _ (exec (Stmt.If _ _ (_ :: _) _) _) _ _ _); (refine hold ?_); walk_say "HELD")
  trivial
section
variable {w : World} {mean : ExcName → Option Value} {mg mb : Str → Option Value} {base : Heap} {s : Shared} {l r : List UInt8} {td ta tk tb : Tok} {n : Nat} {k c : UInt8} {bl : List UInt8}
theorem lread_spec (hb : Bas w mean mg mb base) (hz : l.length ≤ 65536) :
    Spec w base 230 [.bytes l.toArray td] false 70 1300 s (TextsRet s (lreadS l)) False := by
  have hz' : l.length ≤ 16777216 := by omega
  ktr_unf
  k_steps
  refine unhold ?_
  refine' while_k1 (σ := RdSt) (fun c => listOf c.vs.toArray c.ep) (fun c => [(Str.ofString "at", .int (c.j : Nat) c.t)]) [Str.ofString "behind", Str.ofString "heard"]
    (fun c => StrsAre c.vs (c.acc.map strB) ∧ c.vs.length ≤ c.j ∧ c.j ≤ l.length ∧ lreadS l = c.acc ++ lreadS (l.drop c.j)) (fun c => l.length - c.j) ⟨0, ?tt, [], [], 0⟩ (by assumption) (by assumption) ?hk ?hp ?turn
  case hk => exact List.forall_mem_singleton.mpr (by with_unfolding_all rfl)
  case hp => exact ⟨.nil, Nat.le_refl _, Nat.zero_le _, rfl⟩
  case turn =>
  rintro ⟨j, t, vs, acc, ep⟩ u h tkk ⟨hP, hv, hj, hc⟩ F N
  dsimp only at hP hv hj hc F N
  have hvs : vs.length ≤ 16777216 := by omega
  cases D : l.drop j with
  | nil =>
    have h1 := drop_nil_le D
    have hc' : lreadS l = acc := by rw [hc, D, lreadS_nil, List.append_nil]
    k_unmd
    (try k_fold)
    k_steps
    all_goals ktr_rel
    all_goals exact ⟨_, vs, ep, rfl, (N _ (.head _)).2.2, (N _ (.head _)).1, by rw [hc']; exact hP⟩
  | cons c r =>
    have h1 := drop_lt D
    have D1 := drop_succ D
    have hlen : l.length = j + 1 + r.length := by
      have := congrArg List.length D
      rw [List.length_drop] at this
      simp at this; omega
    clear hlen
    k_unmd
    (try k_fold)
    k_steps
    refine unhold ?_
    refine setg_cut1 (α := LrSt) (fun m₀ a z => if z = Str.ofString "behind" then some a.b else if z = Str.ofString "heard" then a.hv else m₀ z) (fun a => listOf a.vs.toArray a.ep) (fun a => StrsAre a.vs (a.acc.map strB) ∧ a.vs.length ≤ j + 1 ∧ ((a.b = .none ∧ lreadS l = a.acc ++ lreadS (l.drop (j + 1))) ∨ ∃ (sp : Nat) (t : Tok), a.b = .int (sp : Nat) t ∧ lreadS l = a.acc ++ lreadS (l.drop sp) ∧ j + 1 ≤ sp ∧ sp ≤ l.length)) (by assumption) (by assumption) ?here ?past
    case here =>
      have hgo := go4
      by_cases h60 : c = 60
      · subst h60
        have h60' : (60 : UInt8).toNat = 60 := rfl
        have hid : ∀ p rest sp, idOf (l.drop (j + 1)) = some (p, rest) → sp = l.length - rest.length → lreadS l = (acc ++ [p]) ++ lreadS (l.drop sp) ∧ j + 1 ≤ sp ∧ sp ≤ l.length := fun p rest sp h e => by
          have q := idOf_suffix h
          rw [D1] at h q
          have q2 := q.length_le
          have hlen : l.length = j + 1 + r.length := by rw [← D1, List.length_drop]; omega
          subst e
          refine ⟨?_, by omega, by omega⟩
          rw [hc, D, lreadS_id h, (suffix_drop D1 q).1, List.append_assoc]
          rfl
        have hno : idOf (l.drop (j + 1)) = none → lreadS l = acc ++ lreadS (l.drop (j + 1)) := fun h => by
          rw [D1] at h ⊢
          rw [hc, D, lreadS_noid h]
        k_unmd
        (try k_fold)
        k_steps
        all_goals first
          | (obtain ⟨f1, f2, f3⟩ := hid _ _ _ (by assumption) (by assumption)
             exact setg_end ⟨vs ++ [_], acc ++ [_], ep + 1, _, _⟩ (by assumption) (by assumption) (by kst_in) ⟨by rw [List.map_append]; exact StrsAre.snoc hP, (by simp only [List.length_append, List.length_singleton]; omega), .inr ⟨_, _, rfl, f1, f2, f3⟩⟩ (fun _ => rfl))
          | (have f1 := hno (by assumption)
             exact setg_end ⟨vs, acc, ep, .none, _⟩ (by assumption) (by assumption) (by kst_in) ⟨hP, Nat.le_succ_of_le hv, .inl ⟨rfl, f1⟩⟩ (fun z => by
               by_cases e1 : z = Str.ofString "behind"
               · subst e1; with_unfolding_all rfl
               · by_cases e2 : z = Str.ofString "heard"
                 · subst e2; with_unfolding_all rfl
                 · first | rfl | simp only [if_neg e1, if_neg e2]))
      · have h60' : c.toNat ≠ 60 := fun h => h60 (UInt8.toNat_inj.mp h)
        by_cases h34 : c = 34
        · subst h34
          have h34' : (34 : UInt8).toNat = 34 := rfl
          have hid : ∀ p rest sp, closed 34 [] (l.drop (j + 1)) = some (p, rest) → sp = l.length - rest.length → lreadS l = acc ++ lreadS (l.drop sp) ∧ j + 1 ≤ sp ∧ sp ≤ l.length := fun p rest sp h e => by
            have q := closed_suffix _ _ _ _ _ h
            rw [D1] at h q
            have q2 := q.length_le
            have hlen : l.length = j + 1 + r.length := by rw [← D1, List.length_drop]; omega
            subst e
            refine ⟨?_, by omega, by omega⟩
            rw [hc, D, lreadS_34 h, (suffix_drop D1 q).1]
          have hno : closed 34 [] (l.drop (j + 1)) = none → lreadS l = acc ++ lreadS (l.drop (j + 1)) := fun h => by
            rw [D1] at h ⊢
            rw [hc, D, lreadS_34n h]
          k_unmd
          (try k_fold)
          k_steps
          all_goals first
            | (have f1 := hno (by assumption)
               exact setg_end ⟨vs, acc, ep, .none, _⟩ (by assumption) (by assumption) (by kst_in) ⟨hP, Nat.le_succ_of_le hv, .inl ⟨rfl, f1⟩⟩ (fun z => by
               by_cases e1 : z = Str.ofString "behind"
               · subst e1; with_unfolding_all rfl
               · by_cases e2 : z = Str.ofString "heard"
                 · subst e2; with_unfolding_all rfl
                 · first | rfl | simp only [if_neg e1, if_neg e2]))
            | (obtain ⟨f1, f2, f3⟩ := hid _ _ _ (by assumption) (by assumption)
               exact setg_end ⟨vs, acc, ep, _, _⟩ (by assumption) (by assumption) (by kst_in) ⟨hP, Nat.le_succ_of_le hv, .inr ⟨_, _, rfl, f1, f2, f3⟩⟩ (fun z => by
               by_cases e1 : z = Str.ofString "behind"
               · subst e1; with_unfolding_all rfl
               · by_cases e2 : z = Str.ofString "heard"
                 · subst e2; with_unfolding_all rfl
                 · first | rfl | simp only [if_neg e1, if_neg e2]))
        · have h34' : c.toNat ≠ 34 := fun h => h34 (UInt8.toNat_inj.mp h)
          by_cases h40 : c = 40
          · subst h40
            have h40' : (40 : UInt8).toNat = 40 := rfl
            have hid : ∀ rest sp, commentU 1 (l.drop (j + 1)) = some rest → sp = l.length - rest.length → lreadS l = acc ++ lreadS (l.drop sp) ∧ j + 1 ≤ sp ∧ sp ≤ l.length := fun rest sp h e => by
              have q := commentU_suffix _ _ _ _ (Nat.le_refl _) h
              rw [D1] at h q
              have q2 := q.length_le
              have hlen : l.length = j + 1 + r.length := by rw [← D1, List.length_drop]; omega
              subst e
              refine ⟨?_, by omega, by omega⟩
              rw [hc, D, lreadS_40 h, (suffix_drop D1 q).1]
            have hno : commentU 1 (l.drop (j + 1)) = none → lreadS l = acc ++ lreadS (l.drop (j + 1)) := fun h => by
              rw [D1] at h ⊢
              rw [hc, D, lreadS_40n h]
            k_unmd
            (try k_fold)
            k_steps
            all_goals first
              | (have f1 := hno (by assumption)
                 exact setg_end ⟨vs, acc, ep, .none, u (Str.ofString "heard")⟩ (by assumption) (by assumption) (by kst_in) ⟨hP, Nat.le_succ_of_le hv, .inl ⟨rfl, f1⟩⟩ (fun z => by
               by_cases e1 : z = Str.ofString "behind"
               · subst e1; with_unfolding_all rfl
               · by_cases e2 : z = Str.ofString "heard"
                 · subst e2; with_unfolding_all rfl
                 · first | rfl | simp only [if_neg e1, if_neg e2]))
              | (obtain ⟨f1, f2, f3⟩ := hid _ _ (by assumption) (by assumption)
                 exact setg_end ⟨vs, acc, ep, _, u (Str.ofString "heard")⟩ (by assumption) (by assumption) (by kst_in) ⟨hP, Nat.le_succ_of_le hv, .inr ⟨_, _, rfl, f1, f2, f3⟩⟩ (fun z => by
               by_cases e1 : z = Str.ofString "behind"
               · subst e1; with_unfolding_all rfl
               · by_cases e2 : z = Str.ofString "heard"
                 · subst e2; with_unfolding_all rfl
                 · first | rfl | simp only [if_neg e1, if_neg e2]))
          · have h40' : c.toNat ≠ 40 := fun h => h40 (UInt8.toNat_inj.mp h)
            have f1 : lreadS l = acc ++ lreadS (l.drop (j + 1)) := by rw [D1, hc, D, lreadS_skip h60, skipU_other h34 h40]
            k_unmd
            (try k_fold)
            k_steps
            all_goals exact setg_end ⟨vs, acc, ep, .none, u (Str.ofString "heard")⟩ (by assumption) (by assumption) (by kst_in) ⟨hP, Nat.le_succ_of_le hv, .inl ⟨rfl, f1⟩⟩ (fun z => by
               by_cases e1 : z = Str.ofString "behind"
               · subst e1; with_unfolding_all rfl
               · by_cases e2 : z = Str.ofString "heard"
                 · subst e2; with_unfolding_all rfl
                 · first | rfl | simp only [if_neg e1, if_neg e2])
    case past =>
    rintro ⟨vs, acc, ep, bv, hv'⟩ h2 tk2 ⟨hP, hv, hb⟩ F N
    dsimp only at hP hv hb F N
    have hgo := go4
    rcases hb with ⟨rfl, f1⟩ | ⟨sp, tb, rfl, f1, f2, f3⟩
    · k_unmd
      (try k_fold)
      k_steps
      all_goals exact wturn_next ⟨j + 1, _, vs, acc, ep⟩ (by assumption) (by assumption) (by kst_in) (by kst_all) (fun z h2 h3 => (same4 (h2 _ (.head _)) (ne_of_stored h3 (by decide)) (ne_of_stored h3 (by decide)) (ne_of_stored h3 (by decide))).trans (kst1_rest (h2 _ (.head _)) h3)) ⟨hP, hv, h1, f1⟩ (Nat.sub_lt_sub_left h1 (Nat.lt_succ_self _))
    · k_unmd
      (try k_fold)
      k_steps
      all_goals exact wturn_next ⟨sp, _, vs, acc, ep⟩ (by assumption) (by assumption) (by kst_in) (by kst_all) (fun z h2 h3 => (same4 (h2 _ (.head _)) (ne_of_stored h3 (by decide)) (ne_of_stored h3 (by decide)) (ne_of_stored h3 (by decide))).trans (kst1_rest (h2 _ (.head _)) h3)) ⟨hP, Nat.le_trans hv f2, f3, f1⟩ (Nat.sub_lt_sub_left h1 f2)
end
end Mine
end
section
open PySem PySem.W PySem.Spec PySem.Calls PyProof.Rows
namespace Mine
/-- a contract of a def that may run within a handler -/
noncomputable def SpecH (w : World) (base : Heap) (f : Addr) (args : List Value) (dd uu : Nat) (s : Shared) (Ret : Value → Heap → Prop) : Prop :=
  ∀ (A : Around) (l : List Env) (Q E : Value → Shared → Prop),
    Hd A s.heap → Below A base l s.heap → A.depth + dd < recursionLimit → A.units + uu < cLine →
    (∀ r h' tk', Heap.StaysIn s.heap h' → Ret r h' → Q r { s with heap := h', toks := tk' }) →
    wpAny (model PySem.Challenge.rw_no0368_01.row.toRowW.prog w) A (call (.ref f) args) Q E s
section
variable {w : World} {mean : ExcName → Option Value} {mg mb : Str → Option Value} {base g : Heap} {f : Addr} {args : List Value} {dd uu : Nat} {s : Shared} {Ret : Value → Heap → Prop} {A : Around} {l : List Env} {L a : Addr} {m : Str → Option Value} {news : List (Addr × Obj)} {Q E : Value → Shared → Prop}
theorem enterH {name qual : Str} {params : Arguments} {body : List Stmt} {scope : Scope} {dV kV doc pm cdv ct oc : Value} {an od : Option Addr} {osl : Array (Option Value)} {binds : List (Str × Value)}
    (hb : Bas w mean mg mb base)
    (ho : (ltop.heap_1 w.params).lookup f = some ⟨oc, od, .func (fnOf name qual params body scope dV kV doc pm an cdv ct), osl⟩) (hcd : codeIn (ltop.heap_1 w.params) cdv qual = true)
    (hbind : BindsTo s (fnOf name qual params body scope dV kV doc pm an cdv ct) ⟨args, []⟩ binds) (hloc : ∀ y ∈ binds, scope.names.lookup y.1 = some .local)
    (hco : scope.isCoroutine = false) (hgen : scope.isGenerator = false) (hk : scope.kind = .function) (hcell : ∀ x ∈ scope.names, x.2 ≠ .cell)
    (h : ∀ (A : Around) (l : List Env) (L : Addr) (h₁ : Heap), Hd A s.heap → Below A base l s.heap → A.depth + dd < recursionLimit → A.units + uu < cLine →
      (ltop.heap_1 w.params).In s.heap → Top ltop.view_1 (looseW ltop.view_1 [Str.ofString "PostError"]) mean mg mb s.heap → Fr s.heap L h₁ (fun y => binds.reverse.lookup y) → News s.heap L h₁ [] →
      wpAny (model PySem.Challenge.rw_no0368_01.row.toRowW.prog w) (A.deeper (envOf qual scope L f cdv)) (execs body (envOf qual scope L f cdv))
        (fun fl s' => RetK s Ret (match fl with | .ret v => v | _ => .none) s') (fun _ _ => False)
        { s with heap := h₁, toks := s.toks + binds.length }) : SpecH w base f args dd uu s Ret := by
  intro A l Q E hh B hd hu hret
  have X : (ltop.heap_1 w.params).In s.heap := hb.x.keeps B.stays
  have T := hb.t.keeps B.stays
  refine wpAny_call ?_
  refine codeAny_call_def (fd := fnOf name qual params body scope dV kV doc pm an cdv ct) (body := body) (binds := binds) (by omega) (X _ _ ho) rfl T.nolimit (codeRec_of X hcd) rfl hbind hcell hloc (fun h₁ hns hk₁ => ?_) hco hgen hk
  refine wpAny_mono (h A l s.heap.objs.size h₁ hh B hd hu X T ⟨hns, hk₁, Nat.le_refl _⟩ News.nil) (fun fl s' hl => ?_) fun e s' he => he.elim
  obtain ⟨h', tk', rfl, k, r⟩ := hl
  exact hret _ _ _ k r
theorem call_specH {name : Str} {scope : Scope} {cd : Value} {A' : Around} (H : SpecH w base f args dd uu s Ret) (B : Below A base l g) (F : Fr g L s.heap m) (N : News g L s.heap news) (hA : SameStack A' (A.deeper (envOf name scope L a cd)) ∨ A' = A.deeper (envOf name scope L a cd)) (hB : Below A' base (envOf name scope L a cd :: l) s.heap) (hh : Hd A' s.heap) (hd : A'.depth + dd < recursionLimit) (hu : A'.units + uu < cLine)
    (ret : ∀ r h' tk', Fr g L h' m → News g L h' news → Heap.StaysIn s.heap h' → Ret r h' → Q r { s with heap := h', toks := tk' }) :
    wpAny (model PySem.Challenge.rw_no0368_01.row.toRowW.prog w) A' (call (.ref f) args) Q E s :=
  H _ _ _ _ hh hB hd hu (fun r h' tk' k hr => ret r h' tk' (F.keeps k) (fun q hq => ⟨k _ _ (N q hq).1, (N q hq).2⟩) k hr)
end
end Mine
end
section
open PySem PySem.W PySem.Spec PySem.Calls PyProof.Rows
namespace Mine
theorem fillX23 : (PySem.Challenge.rw_no0368_01, ltop.heap_1) = (PySem.Challenge.rw_no0368_01, ltop.heap_1) := by k_fill; rfl
theorem _root_.Mine.rowsX23_1 : True := by
  k_with_none
  k_with "subscriptTail" => (k_here; (with_reducible show wpAny _ _ (subscriptTail _ _ (Value.bytes _ _) (Value.int _ _)) _ _ _); k_dflt (refine b_item rfl (by assumption) (by assumption) ?_); intro _ _)
  k_with "subscriptTail" => (k_here; (with_reducible show wpAny _ _ (subscriptTail _ (Expr.Slice (some _) (some _) none _) (Value.bytes _ _) (Value.ref _)) _ _ _); (with_reducible rename Fr _ _ _ _ => F'); (with_reducible rename News _ _ _ _ => N'); k_dflt (refine b_slice (s := ⟨_, _, _, _, _⟩) F' N' (by constructor) (by constructor) (by assumption) (by first | exact cut1 rfl rfl (by assumption) | exact cut0 rfl rfl (by assumption) | exact cut2 rfl rfl (by assumption)) ?_); intro _ _ _ _ _)
  k_with "compareOp Eq bytes bytes" => (k_here; (with_reducible show wpAny _ _ (compareOp CmpOp.Eq (Value.bytes _ _) (Value.bytes _ _)) _ _ _); k_dflt (refine b_eq (by first | exact beq_cons_false (by assumption) | exact beq_self_true | exact (rfl : _ = false) | exact (rfl : _ = true)) ?_))
  k_with "compareOp NotEq bytes bytes" => (k_here; (with_reducible show wpAny _ _ (compareOp CmpOp.NotEq (Value.bytes _ _) (Value.bytes _ _)) _ _ _); k_dflt (refine b_ne (by first | exact bne_cons_true (by assumption) | exact bne_self_false | exact (rfl : _ = false) | exact (rfl : _ = true)) ?_))
  k_with "call builtin:len" => (k_here; (with_reducible show wpAny _ _ (call (Value.builtin "len") [Value.bytes _ _]) _ _ _); k_dflt (refine b_len (by assumption) ?_); intro _ _)
  k_with "compareOp In int bytes" => (k_here; (with_reducible show wpAny _ _ (compareOp CmpOp.In (Value.int _ _) (Value.bytes _ _)) _ _ _); k_dflt (refine b_in rfl (by first | assumption | rfl) ?_))
  k_with "exec Raise some none" => (k_here; k_dflt (refine raise_wf (by assumption) ?_))
  k_with "ktr_unf" => ((refine' enter (by assumption) ?k6 ?k7 ?k9 ?kl ?c2 ?c3 ?c4 ?c5 ?_); (case k6 => k_is); (case k7 => k_is); (case k9 => exact BindsTo.of_eq rfl); (case kl => exact locs rfl); (case c2 => exact rfl); (case c3 => exact rfl); (case c4 => exact rfl); (case c5 => decide); intro A le L h₁ hh B hd hu X T F N; (try (have hHd := hh rfl)); (try k_unmd); (try dsimp only); k_fold)
  k_with "ktr_rel" => ((try dsimp only); (refine ret_end (by assumption) ?_))
  k_with "call ref" => (k_here; (with_reducible show wpAny _ _ (call (Value.ref 59) _) _ _ _); k_dflt (refine wf_make_K (by assumption) (by assumption) (by assumption) (by omega) (by first | exact .inr ⟨_, _, rfl⟩ | exact .inl rfl) ?_); intro h' tk' e' H'; k_dflt (refine leave_new (by assumption) (by assumption) H' rfl ?_))
  k_with "ite" => (k_here; k_dflt (first
    | (refine ite_pos (by first | omega | (simp only [decide_eq_true_eq, beq_iff_eq, bne_iff_ne, ne_eq, Bool.and_eq_true, Bool.or_eq_true, Bool.not_eq_true', decide_eq_false_iff_not, beq_eq_false_iff_ne]; omega) | exact beq_self_eq_true _) ?_; walk_say "PRUNED here")
    | (refine ite_neg (by first | omega | (simp only [decide_eq_true_eq, beq_iff_eq, bne_iff_ne, ne_eq, Bool.and_eq_true, Bool.or_eq_true, Bool.not_eq_true', decide_eq_false_iff_not, beq_eq_false_iff_ne]; omega) | exact beq_self_eq_true _) ?_; walk_say "PRUNED here")))
  k_with "compareOp In int ref" => (k_here; (with_reducible show wpAny _ _ (compareOp CmpOp.In (Value.int _ _) (Value.ref 62)) _ _ _); k_dflt (refine in_nev (by assumption) (by assumption) ?_))
  k_with "exec While Compare" => (k_here; (with_reducible show wpAny _ _ (exec (Stmt.While _ _ _ _) _) _ _ _); (refine hold ?_); walk_say "HELD")
  k_with "assign Tuple" => (k_here; (with_reducible show wpAny _ _ (assign (Expr.Tuple _ _ _) _ (Value.ref _)) _ _ _); k_dflt (refine unpackN_ (by k_asm) (by k_asm) (News.isTup (by k_asm) (by k_mem)) (by assumption) rfl rfl ?_); intro h' F' N'; (try k_sweep))
  k_with "call builtin:list.append" => (k_here; (with_reducible show wpAny _ _ (call (Value.builtin _) [Value.ref _, _]) _ _ _); k_dflt (refine' append_K (by k_asm) (by k_asm) (by k_upd) ?_ (by first | size_fits | (rw [sizeLine_eq]; show List.length _ ≤ _; omega)); k_whole); intro h' F' N'; (try simp only [List.push_toArray] at N'); (try k_sweep))
  k_with "pyIter bytes" => (k_here; (refine hold ?_); walk_say "HELD")
  k_with "eval ListComp" => (k_here; (with_reducible show wpAny _ _ (eval (Expr.ListComp _ _ _ _) _) _ _ _); (refine hold ?_); walk_say "HELD")
  k_with "compareOp Eq ref ref" => (k_here; (with_reducible show wpAny _ _ (compareOp CmpOp.Eq (Value.ref _) (Value.ref _)) _ _ _); k_dflt (refine eq_nil (by is_list) (by is_list) (by show _ + 1 < _; omega) ?_))
  k_with "subscriptTail" => (k_here; (with_reducible show wpAny _ _ (subscriptTail _ (Expr.Slice (some _) none none _) (Value.str _ _) (Value.ref _)) _ _ _); (with_reducible rename Fr _ _ _ _ => F'); (with_reducible rename News _ _ _ _ => N'); k_dflt (first | refine s_last (s := ⟨_, _, _, _, _⟩) F' N' (by assumption) ?_ | refine s_from (s := ⟨_, _, _, _, _⟩) (k := 0) (by omega) (by omega) F' N' (by assumption) ?_ | refine s_from (s := ⟨_, _, _, _, _⟩) rfl (by omega) F' N' (by assumption) ?_); intro _ _ _ _ _)
  k_with "subscriptTail Name Slice str ref" => (k_here; (with_reducible show wpAny _ _ (subscriptTail _ (Expr.Slice (some _) none none _) (Value.str _ _) (Value.ref _)) _ _ _); (with_reducible rename Fr _ _ _ _ => F'); (with_reducible rename News _ _ _ _ => N'); k_dflt (first | refine s_last (s := ⟨_, _, _, _, _⟩) F' N' (by assumption) ?_ | refine s_from (s := ⟨_, _, _, _, _⟩) (k := 0) (by omega) (by omega) F' N' (by assumption) ?_ | refine s_from (s := ⟨_, _, _, _, _⟩) rfl (by omega) F' N' (by assumption) ?_); intro _ _ _ _ _)
  k_with "subscriptTail" => (k_here; (with_reducible show wpAny _ _ (subscriptTail _ (Expr.Slice none (some _) none _) (Value.bytes _ _) (Value.ref _)) _ _ _); (with_reducible rename Fr _ _ _ _ => F'); (with_reducible rename News _ _ _ _ => N'); k_dflt (refine b_slice (s := ⟨_, _, _, _, _⟩) F' N' (by constructor) (by constructor) (by assumption) (cut_to rfl (by omega)) ?_); intro _ _ _ _ _)
  k_with "subscriptTail" => (k_here; (with_reducible show wpAny _ _ (subscriptTail _ (Expr.Slice (some _) none none _) (Value.bytes _ _) (Value.ref _)) _ _ _); (with_reducible rename Fr _ _ _ _ => F'); (with_reducible rename News _ _ _ _ => N'); k_dflt (refine b_slice (s := ⟨_, _, _, _, _⟩) F' N' (by constructor) (by constructor) (by assumption) (cut_from rfl (by omega)) ?_); intro _ _ _ _ _)
  k_with "compareOp Eq str str" => (k_here; (with_reducible show wpAny _ _ (compareOp CmpOp.Eq (Value.str _ _) (Value.str _ _)) _ _ _); k_dflt (first | with_reducible refine s_eq1 lit9 (by assumption) ?_ | with_reducible refine s_eq lit93 (by assumption) ?_))
  k_with "compareOp NotEq str str" => (k_here; (with_reducible show wpAny _ _ (compareOp CmpOp.NotEq (Value.str _ _) (Value.str _ _)) _ _ _); k_dflt (refine s_ne lit0 (by assumption) ?_))
  k_with "compareOp In str str" => (k_here; (with_reducible show wpAny _ _ (compareOp CmpOp.In (Value.str _ _) (Value.str _ _)) _ _ _); k_dflt (refine s_in lit6491 (by assumption) ?_))
  k_with "call builtin:str.rfind" => (k_here; k_dflt (first | with_reducible refine s_rfind_some lit64 (by assumption) ?_ | with_reducible refine s_rfind_none lit64 (by assumption) ?_ | with_reducible refine s_rfind_some lit6491 (by assumption) ?_ | with_reducible refine s_rfind_none lit6491 (by assumption) ?_); intro _ _)
  k_with "call builtin:ord" => (k_here; (with_reducible show wpAny _ _ (call (Value.builtin _) [Value.str (chB _) _]) _ _ _); k_dflt (refine s_ord ?_); intro _ _)
  k_with "pyIter str" => (k_here; (refine hold ?_); walk_say "HELD")
  k_with "call type:bytes" => (k_here; (with_reducible show wpAny _ _ (call (Value.type _) [Value.ref _]) _ _ _); k_dflt (refine s_bytes (by assumption) (by assumption) (by assumption) (by is_list) (by assumption) (by assumption) ?_); intro _ _ _ _ _)
  k_with "truthy ref" => (k_here; (with_reducible show wpAny _ _ (truthy (Value.ref _)) _ _ _); k_dflt (refine t_list (by is_list) (by simp only [List.size_toArray, List.length_cons, List.length_nil, List.length_append]; omega) (by first | exact t_cons | exact t_nil) ?_); intro _)
  k_with "exec For" => (k_here; (with_reducible show wpAny _ _ (exec (Stmt.For (Expr.Name _ _) (Expr.Name _ _) (_ :: _) [] _) _) _ _ _); (rename Fr _ _ _ _ => lF'); (with_unfolding_all refine' For_invVF lF' (by exact rfl) (by exact rfl) ?_; k_whole))
  k_with "ktr_unf" => ((refine' enterH (by assumption) ?k6 ?k7 ?k9 ?kl ?c2 ?c3 ?c4 ?c5 ?_); (case k6 => k_is); (case k7 => k_is); (case k9 => exact BindsTo.of_eq rfl); (case kl => exact locs rfl); (case c2 => exact rfl); (case c3 => exact rfl); (case c4 => exact rfl); (case c5 => decide); intro A le L h₁ hH B hd hu X T F N; (try k_unmd); (try dsimp only); k_fold)
  k_with "call ref" => (k_here; (with_reducible show wpAny _ _ (call (Value.ref 197) _) _ _ _); k_dflt (refine call_spec (lrun_spec (by assumption)) (by assumption) (by assumption) (by assumption) (fun q => by cases q) (by omega) (by omega) rfl ?_ (fun x => x.elim)); intro _ _ _ _ _ _ er'; subst er'; (try dsimp only); (try simp only [*]))
  trivial
theorem canB_bad {p : List UInt8} (h : p.all plainB = false) : canB p = false := by unfold canB; rw [h]; rfl
theorem canB_93 {p : List UInt8} {b : Bool} (h : p.all plainB = true) (hl : p.getLast? = some 93) (hb : (rf [64, 91] p).isSome = b) : canB p = b := by unfold canB; rw [h, if_pos hl, hb]; rfl
theorem canB_none {p : List UInt8} (h : p.all plainB = true) (hl : p.getLast? ≠ some 93) (hr : rf [64] p = none) : canB p = false := by unfold canB; rw [h, if_neg hl, hr]; rfl
theorem canB_some {p : List UInt8} {i : Nat} (h : p.all plainB = true) (hl : p.getLast? ≠ some 93) (hr : rf [64] p = some i) : canB p = runAll (p.drop (i + 1)) := by unfold canB; rw [h, if_neg hl, hr]; rfl
section
variable {w : World} {mean : ExcName → Option Value} {mg mb : Str → Option Value} {base : Heap} {s : Shared} {p : List UInt8} {td : Tok}
theorem can_spec (hb : Bas w mean mg mb base) (hz : p.length ≤ 65536) :
    SpecH w base 240 [.str (strB p) td] 20 400 s (fun v h' => v = .bool (canB p)) := by
  have hz' : p.length ≤ 16777216 := by omega
  ktr_unf
  k_steps
  refine unhold ?_
  refine comp_eval (by with_unfolding_all rfl) rfl (by decide) ?_
  k_steps
  refine comp_textF (fun pre ys => ys.isEmpty = pre.all plainB) (EC := fun _ _ _ => False) (by assumption) (by assumption) (by assumption) (by assumption) (by decide) rfl rfl rfl ?turn (fun D C e s' h hf => hf.elim) ?fin
  case turn =>
    intro pre post c u ys I oI C oC D m₂ h tk el hJ hC hv F N o ne
    refine wpAny_tests_one ?_
    by_cases hc : plain c
    · have hJ' : ys.isEmpty = (pre ++ [c]).all plainB := by rw [hJ, List.all_append, List.all_cons, show plainB c = true from decide_eq_true hc]; simp
      obtain ⟨a1, a2⟩ := id hc
      by_cases h32 : 32 ≤ c.toNat
      · clear a2
        k_unmd
        (try k_fold)
        k_steps
        all_goals exact CEnd.intro (by assumption) (by assumption) _ (fun p hp => hp) o ⟨rfl, hJ'⟩
      · have h9 : c.toNat = 9 := a2.resolve_left h32
        have h9' : (c == 9) = true := beq_iff_eq.mpr (UInt8.toNat_inj.mp h9)
        clear a2
        k_unmd
        (try k_fold)
        k_steps
        all_goals exact CEnd.intro (by assumption) (by assumption) _ (fun p hp => hp) o ⟨rfl, hJ'⟩
    · have hJ' : (ys ++ [Value.str (chB c) u]).isEmpty = (pre ++ [c]).all plainB := by rw [List.all_append, List.all_cons, show plainB c = false from decide_eq_false hc]; simp
      have hc' : ¬ (c.toNat ≤ 126 ∧ (32 ≤ c.toNat ∨ c.toNat = 9)) := hc
      have h9' : (c == 9) = false := by rw [beq_eq_false_iff_ne]; intro e; subst e; exact hc (by decide)
      k_unmd
      (try k_fold)
      k_steps
      all_goals exact CEnd.intro (by assumption) (by assumption) _ (fun p hp => hp) o ⟨rfl, hJ'⟩
  case fin =>
    intro D ys h tk hl hJ F N o
    cases ys with
    | cons y ys =>
      have hx := canB_bad (p := p) hJ.symm
      simp only [List.length_cons] at hl
      k_unmd
      (try k_fold)
      k_steps
      all_goals ktr_rel
      all_goals exact congrArg Value.bool hx.symm
    | nil =>
      have hp : p.all plainB = true := hJ.symm
      by_cases h93 : p.getLast? = some 93
      · have h1 : (p.drop (p.length - 1) == [93]) = true := by rw [last_is]; exact decide_eq_true h93
        obtain ⟨b, hr⟩ : ∃ b, (rf [64, 91] p).isSome = b := ⟨_, rfl⟩
        have hx := canB_93 hp h93 hr
        k_unmd
        (try k_fold)
        k_steps
        all_goals ktr_rel
        all_goals exact congrArg Value.bool hx.symm
      · have h1 : (p.drop (p.length - 1) == [93]) = false := by rw [last_is]; exact decide_eq_false h93
        cases hr : rf [64] p with
        | none =>
          have hx := canB_none hp h93 hr
          k_unmd
          (try k_fold)
          k_steps
          all_goals ktr_rel
          all_goals exact congrArg Value.bool hx.symm
        | some i =>
          have hi : i + 1 ≤ p.length := by
            obtain ⟨a, b, _⟩ := rf_some hr
            have := b.length_le
            rw [List.length_drop] at this
            simp at this; omega
          have hx := canB_some hp h93 hr
          cases hd : p.drop (i + 1) with
          | nil =>
            have hne : (p.drop (i + 1) != []) = false := by rw [hd]; rfl
            rw [hd] at hx
            k_unmd
            (try k_fold)
            k_steps
            all_goals ktr_rel
            all_goals exact congrArg Value.bool hx.symm
          | cons c0 r0 =>
            have hne : (p.drop (i + 1) != []) = true := by rw [hd]; rfl
            k_unmd
            (try k_fold)
            k_steps
            refine unhold ?_
            refine comp_eval (by with_unfolding_all rfl) rfl (by decide) ?_
            k_steps
            refine comp_textF (fun pre ys => ys.isEmpty = pre.all isRun) (EC := fun _ _ _ => False) (by assumption) (by assumption) (by assumption) (by rw [List.length_drop]; omega) (by decide) rfl rfl rfl ?turn2 (fun D C e s' h hf => hf.elim) ?fin2
            case turn2 =>
              intro pre post c u ys I oI C oC D m₂ h tk el hJ hC hv F N o ne
              refine wpAny_tests_one ?_
              cases hr : isRun c with
              | true =>
                have hJ' : ys.isEmpty = (pre ++ [c]).all isRun := by rw [hJ, List.all_append, List.all_cons, hr]; simp
                k_unmd
                (try k_fold)
                k_steps
                all_goals exact CEnd.intro (by assumption) (by assumption) _ (fun p hp => hp) o ⟨rfl, hJ'⟩
              | false =>
                have hJ' : (ys ++ [Value.str (chB c) u]).isEmpty = (pre ++ [c]).all isRun := by rw [List.all_append, List.all_cons, hr]; simp
                k_unmd
                (try k_fold)
                k_steps
                all_goals exact CEnd.intro (by assumption) (by assumption) _ (fun p hp => hp) o ⟨rfl, hJ'⟩
            case fin2 =>
              intro D ys h tk hl hJ F N o
              have hx' : canB p = ys.isEmpty := by rw [hx, hJ, hd]; rfl
              k_unmd
              (try k_fold)
              k_steps
              all_goals ktr_rel
              all_goals exact congrArg Value.bool hx'.symm
end
end Mine
end
section
open PySem PySem.W PySem.Spec PySem.Calls PyProof.Rows
namespace Mine
theorem plain_nobad {l : List UInt8} (h : l.all plainB = true) : NoBad l := fun c hc => by
  obtain ⟨_, h2⟩ : plain c := of_decide_eq_true (List.all_eq_true.mp h c hc)
  refine ⟨?_, ?_, ?_⟩ <;> (intro e; subst e; revert h2; decide)
theorem sides_facts {p l r : List UInt8} (h : sidesOf p = some (l, r)) : l.length ≤ p.length ∧ r.length ≤ p.length ∧ NoBad l ∧ NoBad r := by
  unfold sidesOf at h
  rw [Option.bind_eq_some_iff] at h
  obtain ⟨i, _, h⟩ := h
  split at h
  · rename_i hp
    cases h
    have hn := plain_nobad hp
    exact ⟨by rw [List.length_take]; omega, by rw [List.length_drop]; omega, fun c hc => hn c (List.mem_of_mem_take hc), fun c hc => hn c (List.mem_of_mem_drop hc)⟩
  · cases h
theorem cut_to_one {c : UInt8} {r : List UInt8} {i : Int} (hi : i = 1) :
    ((c :: r).drop ((none : Option Int).elim 0 (clipAt (c :: r).length))).take ((some i).elim (c :: r).length (clipAt (c :: r).length) - (none : Option Int).elim 0 (clipAt (c :: r).length)) = [c] := by
  subst hi
  show ((c :: r).drop 0).take (clipAt (c :: r).length ((1 : Nat) : Int) - 0) = _
  rw [clipAt_nat, Nat.min_eq_left (by rw [List.length_cons]; omega)]
  rfl
theorem cut_to_nil {i : Int} (hi : i = 1) :
    (([] : List UInt8).drop ((none : Option Int).elim 0 (clipAt ([] : List UInt8).length))).take ((some i).elim ([] : List UInt8).length (clipAt ([] : List UInt8).length) - (none : Option Int).elim 0 (clipAt ([] : List UInt8).length)) = [] := by
  subst hi; rfl
theorem cut_from1 {c : UInt8} {r : List UInt8} {i : Int} (hi : i = 1) :
    ((c :: r).drop ((some i).elim 0 (clipAt (c :: r).length))).take ((none : Option Int).elim (c :: r).length (clipAt (c :: r).length) - (some i).elim 0 (clipAt (c :: r).length)) = r := by
  subst hi
  exact (cut_from (l := c :: r) (n := 1) rfl (by rw [List.length_cons]; omega)).trans rfl
theorem clip_neg1 (n : Nat) : clipAt n (-1) = n - 1 := by
  cases n with
  | zero => rfl
  | succ k =>
    show (max (0 : Int) (min (-1 + ((k + 1 : Nat) : Int)) ((k + 1 : Nat) : Int))).toNat = k
    rw [show (-1 : Int) + ((k + 1 : Nat) : Int) = (k : Int) by omega, Int.min_eq_left (Int.ofNat_le.mpr (Nat.le_succ k)), Int.max_eq_right (Int.natCast_nonneg k)]
    rfl
theorem cut_last {l : List UInt8} {i : Int} (hi : i = -1) :
    (l.drop ((some i).elim 0 (clipAt l.length))).take ((none : Option Int).elim l.length (clipAt l.length) - (some i).elim 0 (clipAt l.length)) = l.drop (l.length - 1) := by
  subst hi
  show (l.drop (clipAt l.length (-1))).take (l.length - clipAt l.length (-1)) = _
  rw [clip_neg1, List.take_of_length_le (by rw [List.length_drop]; omega)]
theorem cut_mid {c : UInt8} {r : List UInt8} {i j : Int} (hi : i = 1) (hj : j = -1) :
    ((c :: r).drop ((some i).elim 0 (clipAt (c :: r).length))).take ((some j).elim (c :: r).length (clipAt (c :: r).length) - (some i).elim 0 (clipAt (c :: r).length)) = r.dropLast := by
  subst hi hj
  show ((c :: r).drop (clipAt (c :: r).length ((1 : Nat) : Int))).take (clipAt (c :: r).length (-1) - clipAt (c :: r).length ((1 : Nat) : Int)) = _
  rw [clip_neg1, clipAt_nat, Nat.min_eq_left (by rw [List.length_cons]; omega)]
  show r.take ((r.length + 1) - 1 - 1) = _
  rw [List.dropLast_eq_take]; congr 1
section
variable {w : World} {mean : ExcName → Option Value} {mg mb : Str → Option Value} {base g : Heap} {s : Shared} {p l r sg : List UInt8} {td ts : Tok} {A : Around} {le : List Env} {L a : Addr} {m : Str → Option Value} {news : List (Addr × Obj)} {name : Str} {scope : Scope} {cd : Value} {Q E : Value → Shared → Prop}
theorem call_sides (hb : Bas w mean mg mb base) (hz : p.length ≤ 65536) (B : Below A base le g) (F : Fr g L s.heap m) (N : News g L s.heap news) (hh : A.handled = none) (hd : A.depth + 41 < recursionLimit) (hu : A.units + 703 < cLine) (hk : scope.kind = .function)
    (ret : Held (∀ l r D t1 t2 ep h' tk', sidesOf p = some (l, r) → l.length ≤ p.length → r.length ≤ p.length → NoBad l → NoBad r → Fr g L h' m → News g L h' ((D, tupOf [.bytes (List.toArray l) t1, .bytes (List.toArray r) t2] ep) :: news) → AllNe D news → Q (.ref D) { s with heap := h', toks := tk' }))
    (exn : sidesOf p = none → ∀ e h' tk', Raised s.heap (envOf name scope L a cd :: le) e h' → E (.ref e) { s with heap := h', toks := tk' }) :
    wpAny (model PySem.Challenge.rw_no0368_01.row.toRowW.prog w) (A.deeper (envOf name scope L a cd)) (call (.ref 154) [.str (strB p) td]) Q E s := by
  refine call_spec (sides_spec hb hz) B F N (fun _ => hh) hd hu hk (fun v h' tk' F' N' K hr => ?_) exn
  obtain ⟨l, r, hi, D, t1, t2, ep, rfl, hD, ho⟩ := hr
  obtain ⟨f1, f2, f3, f4⟩ := sides_facts hi
  exact ret l r D t1 t2 ep h' tk' hi f1 f2 f3 f4 F' (news_cons' F hD N' ho) (allNe_of (news_ne N hD))
theorem call_isrun {b : Bool} (hb : Bas w mean mg mb base) (hz : l.length ≤ 16777216) (hr : runAll l = b) (B : Below A base le g) (F : Fr g L s.heap m) (N : News g L s.heap news) (hh : A.handled = none) (hd : A.depth + 21 < recursionLimit) (hu : A.units + 403 < cLine) (hk : scope.kind = .function)
    (ret : ∀ h' tk', Fr g L h' m → News g L h' news → Q (.bool b) { s with heap := h', toks := tk' }) :
    wpAny (model PySem.Challenge.rw_no0368_01.row.toRowW.prog w) (A.deeper (envOf name scope L a cd)) (call (.ref 116) [.bytes l.toArray td]) Q E s := by
  refine call_spec (isrun_spec hb hz) B F N (fun _ => hh) hd hu hk (fun v h' tk' F' N' K hv => ?_) (fun x => x.elim)
  rw [show v = .bool b from hv.trans (congrArg Value.bool hr)]
  exact ret h' tk' F' N'
theorem call_esc (hb : Bas w mean mg mb base) (hz : l.length ≤ 65536) (hl : NoBad l) (B : Below A base le g) (F : Fr g L s.heap m) (N : News g L s.heap news) (hh : A.handled = none) (hd : A.depth + 21 < recursionLimit) (hu : A.units + 403 < cLine) (hk : scope.kind = .function)
    (ret : ∀ t h' tk', (escB sg l).length ≤ 2 * l.length → Fr g L h' m → News g L h' news → Q (.bytes (escB sg l).toArray t) { s with heap := h', toks := tk' }) :
    wpAny (model PySem.Challenge.rw_no0368_01.row.toRowW.prog w) (A.deeper (envOf name scope L a cd)) (call (.ref 104) [.bytes l.toArray td, .bytes sg.toArray ts]) Q E s := by
  refine call_spec (esc_spec hb hz hl) B F N (fun _ => hh) hd hu hk (fun v h' tk' F' N' K hv => ?_) (fun x => x.elim)
  obtain ⟨t, rfl⟩ := hv
  exact ret t h' tk' (escB_len l) F' N'
end
theorem idOct_some {p l r R : List UInt8} (h : sidesOf p = some (l, r)) (hR : rightW r = some R) : idOct p = some (60 :: (leftW l ++ 64 :: (R ++ [62]))) := by
  unfold idOct
  rw [h]
  show (rightW r).map _ = _
  rw [hR]; rfl
theorem idOct_none {p l r : List UInt8} (h : sidesOf p = some (l, r)) (hR : rightW r = none) : idOct p = none := by
  unfold idOct
  rw [h]
  show (rightW r).map _ = _
  rw [hR]; rfl
theorem rightW_br {r : List UInt8} (h : r.getLast? = some 93) : rightW (91 :: r) = some ([91] ++ escB [91, 93, 92] r.dropLast ++ [93]) := by
  unfold rightW
  rw [if_pos ⟨rfl, h⟩]; rfl
theorem rightW_nobr {r : List UInt8} (h : r.getLast? ≠ some 93) : rightW (91 :: r) = none := by
  unfold rightW
  rw [if_neg (fun q => h q.2), if_neg]
  intro q
  unfold runAll at q
  rw [List.all_cons, isRun_91] at q
  simp at q
theorem rightW_run {r : List UInt8} (h : r.head? ≠ some 91) : rightW r = if runAll r = true then some r else none := by
  unfold rightW
  rw [if_neg (fun q => h q.1)]
theorem runAll_91 {r : List UInt8} : runAll (91 :: r) = false := by
  unfold runAll
  rw [List.all_cons, isRun_91]; simp
theorem runAll_nil : runAll [] = false := rfl
end Mine
end
section
open PySem PySem.W PySem.Spec PySem.Calls PyProof.Rows
namespace Mine
theorem fillX21 : (PySem.Challenge.rw_no0368_01, ltop.heap_1) = (PySem.Challenge.rw_no0368_01, ltop.heap_1) := by k_fill; rfl
theorem leftW_len (l : List UInt8) : (leftW l).length ≤ 2 * l.length + 2 := by
  unfold leftW
  split
  · omega
  · have := escB_len (sg := [34, 92]) l
    simp only [List.length_append, List.length_cons, List.length_nil]; omega
noncomputable def LeftS (a b : Str) (v' : Option Value) (l : List UInt8) (g : Heap) (L : Addr) (m₀ : Str → Option Value) (s0 : Shared) (news : List (Addr × Obj)) (f : Flow) (s' : Shared) : Prop :=
  ∃ t h' tk, f = .next ∧ s' = { s0 with heap := h', toks := tk } ∧ Fr g L h' (fun y => if y = b then v' else if y = a then some (.bytes (leftW l).toArray t) else m₀ y) ∧ News g L h' news
theorem left_cut {M : Model} {A : Around} {c : Sem Flow} {Q : Flow → Shared → Prop} {E : Value → Shared → Prop} {s0 : Shared} {g : Heap} {L : Addr} {m₀ : Str → Option Value} {v' u : Option Value} {news : List (Addr × Obj)} (a b : Str) (l : List UInt8) (F : Fr g L s0.heap (fun y => if y = b then v' else if y = a then u else m₀ y)) (N : News g L s0.heap news)
    (h : wpAny M A c (LeftS a b v' l g L m₀ s0 news) E s0)
    (k : ∀ t h' tk, Fr g L h' (fun y => if y = b then v' else if y = a then some (.bytes (leftW l).toArray t) else m₀ y) → News g L h' news → Q .next { s0 with heap := h', toks := tk }) : wpAny M A c Q E s0 := by
  refine wpAny_mono h (fun f s' hq => ?_) fun _ _ h => h
  obtain ⟨t, h', tk, rfl, rfl, F', N'⟩ := hq
  exact k t h' tk F' N'
theorem left_end {s0 : Shared} {g : Heap} {L : Addr} {m₀ m' : Str → Option Value} {a b : Str} {v' : Option Value} {news news' : List (Addr × Obj)} {l x : List UInt8} {t : Tok} {h' : Heap} {tk : Nat} (F : Fr g L h' m') (N : News g L h' news') (sub : ∀ p ∈ news, p ∈ news') (hx : leftW l = x) (e : m' = fun y => if y = b then v' else if y = a then some (.bytes x.toArray t) else m₀ y) :
    LeftS a b v' l g L m₀ s0 news .next { s0 with heap := h', toks := tk } := by
  subst hx
  exact ⟨t, h', tk, rfl, rfl, e ▸ F, fun p hp => N p (sub p hp)⟩
theorem _root_.Mine.rowsX21_1 : True := by
  k_with_none
  k_with "subscriptTail" => (k_here; (with_reducible show wpAny _ _ (subscriptTail _ _ (Value.bytes _ _) (Value.int _ _)) _ _ _); k_dflt (refine b_item rfl (by assumption) (by assumption) ?_); intro _ _)
  k_with "subscriptTail" => (k_here; (with_reducible show wpAny _ _ (subscriptTail _ (Expr.Slice (some _) (some _) none _) (Value.bytes _ _) (Value.ref _)) _ _ _); (with_reducible rename Fr _ _ _ _ => F'); (with_reducible rename News _ _ _ _ => N'); k_dflt (refine b_slice (s := ⟨_, _, _, _, _⟩) F' N' (by constructor) (by constructor) (by assumption) (by first | exact cut1 rfl rfl (by assumption) | exact cut0 rfl rfl (by assumption) | exact cut2 rfl rfl (by assumption)) ?_); intro _ _ _ _ _)
  k_with "compareOp Eq bytes bytes" => (k_here; (with_reducible show wpAny _ _ (compareOp CmpOp.Eq (Value.bytes _ _) (Value.bytes _ _)) _ _ _); k_dflt (refine b_eq (by first | exact beq_cons_false (by assumption) | exact beq_self_true | exact (rfl : _ = false) | exact (rfl : _ = true)) ?_))
  k_with "compareOp NotEq bytes bytes" => (k_here; (with_reducible show wpAny _ _ (compareOp CmpOp.NotEq (Value.bytes _ _) (Value.bytes _ _)) _ _ _); k_dflt (refine b_ne (by first | exact bne_cons_true (by assumption) | exact bne_self_false | exact (rfl : _ = false) | exact (rfl : _ = true)) ?_))
  k_with "call builtin:len" => (k_here; (with_reducible show wpAny _ _ (call (Value.builtin "len") [Value.bytes _ _]) _ _ _); k_dflt (refine b_len (by assumption) ?_); intro _ _)
  k_with "compareOp In int bytes" => (k_here; (with_reducible show wpAny _ _ (compareOp CmpOp.In (Value.int _ _) (Value.bytes _ _)) _ _ _); k_dflt (refine b_in rfl (by first | assumption | rfl) ?_))
  k_with "exec Raise some none" => (k_here; k_dflt (refine raise_wf (by assumption) ?_))
  k_with "ktr_unf" => ((refine' enter (by assumption) ?k6 ?k7 ?k9 ?kl ?c2 ?c3 ?c4 ?c5 ?_); (case k6 => k_is); (case k7 => k_is); (case k9 => exact BindsTo.of_eq rfl); (case kl => exact locs rfl); (case c2 => exact rfl); (case c3 => exact rfl); (case c4 => exact rfl); (case c5 => decide); intro A le L h₁ hh B hd hu X T F N; (try (have hHd := hh rfl)); (try k_unmd); (try dsimp only); k_fold)
  k_with "ktr_rel" => ((try dsimp only); (refine ret_end (by assumption) ?_))
  k_with "call ref" => (k_here; (with_reducible show wpAny _ _ (call (Value.ref 59) _) _ _ _); k_dflt (refine wf_make_K (by assumption) (by assumption) (by assumption) (by omega) (by first | exact .inr ⟨_, _, rfl⟩ | exact .inl rfl) ?_); intro h' tk' e' H'; k_dflt (refine leave_new (by assumption) (by assumption) H' rfl ?_))
  k_with "ite" => (k_here; k_dflt (first
    | (refine ite_pos (by first | omega | (simp only [decide_eq_true_eq, beq_iff_eq, bne_iff_ne, ne_eq, Bool.and_eq_true, Bool.or_eq_true, Bool.not_eq_true', decide_eq_false_iff_not, beq_eq_false_iff_ne]; omega) | exact beq_self_eq_true _) ?_; walk_say "PRUNED here")
    | (refine ite_neg (by first | omega | (simp only [decide_eq_true_eq, beq_iff_eq, bne_iff_ne, ne_eq, Bool.and_eq_true, Bool.or_eq_true, Bool.not_eq_true', decide_eq_false_iff_not, beq_eq_false_iff_ne]; omega) | exact beq_self_eq_true _) ?_; walk_say "PRUNED here")))
  k_with "compareOp In int ref" => (k_here; (with_reducible show wpAny _ _ (compareOp CmpOp.In (Value.int _ _) (Value.ref 62)) _ _ _); k_dflt (refine in_nev (by assumption) (by assumption) ?_))
  k_with "exec While Compare" => (k_here; (with_reducible show wpAny _ _ (exec (Stmt.While _ _ _ _) _) _ _ _); (refine hold ?_); walk_say "HELD")
  k_with "assign Tuple" => (k_here; (with_reducible show wpAny _ _ (assign (Expr.Tuple _ _ _) _ (Value.ref _)) _ _ _); k_dflt (refine unpackN_ (by k_asm) (by k_asm) (News.isTup (by k_asm) (by k_mem)) (by assumption) rfl rfl ?_); intro h' F' N'; (try k_sweep))
  k_with "call builtin:list.append" => (k_here; (with_reducible show wpAny _ _ (call (Value.builtin _) [Value.ref _, _]) _ _ _); k_dflt (refine' append_K (by k_asm) (by k_asm) (by k_upd) ?_ (by first | size_fits | (rw [sizeLine_eq]; show List.length _ ≤ _; omega)); k_whole); intro h' F' N'; (try simp only [List.push_toArray] at N'); (try k_sweep))
  k_with "pyIter bytes" => (k_here; (refine hold ?_); walk_say "HELD")
  k_with "call ref" => (k_here; (with_reducible show wpAny _ _ (call (Value.ref 154) _) _ _ _); k_dflt (refine call_sides (by assumption) (by assumption) (by assumption) (by assumption) (by assumption) (by assumption) (by omega) (by omega) rfl ?_ ?_); (case' refine_2 => intro hC' _ _ _ R'; (refine leave_pass (by assumption) (by assumption) R' rfl ?_)))
  k_with "call ref" => (k_here; (with_reducible show wpAny _ _ (call (Value.ref 116) _) _ _ _); k_dflt (refine call_isrun (by assumption) (by first | omega | (simp only [List.length_cons, List.length_append, List.length_nil]; omega)) (by assumption) (by assumption) (by assumption) (by assumption) (by assumption) (by omega) (by omega) rfl ?_); intro _ _ _ _)
  k_with "call ref" => (k_here; (with_reducible show wpAny _ _ (call (Value.ref 104) _) _ _ _); k_dflt (refine call_esc (by assumption) (by first | omega | (simp only [List.length_cons, List.length_append, List.length_nil]; omega)) (by assumption) (by assumption) (by assumption) (by assumption) (by assumption) (by omega) (by omega) rfl ?_); intro _ _ _ _ _ _)
  k_with "subscriptTail" => (k_here; (with_reducible show wpAny _ _ (subscriptTail _ (Expr.Slice none (some _) none _) (Value.bytes _ _) (Value.ref _)) _ _ _); (with_reducible rename Fr _ _ _ _ => F'); (with_reducible rename News _ _ _ _ => N'); k_dflt (refine b_slice (s := ⟨_, _, _, _, _⟩) F' N' (by constructor) (by constructor) (by first | omega | (simp only [List.length_cons, List.length_append, List.length_nil]; omega)) (by first | exact cut_to_one rfl | exact cut_to_nil rfl) ?_); intro _ _ _ _ _)
  k_with "subscriptTail" => (k_here; (with_reducible show wpAny _ _ (subscriptTail _ (Expr.Slice (some _) none none _) (Value.bytes _ _) (Value.ref _)) _ _ _); (with_reducible rename Fr _ _ _ _ => F'); (with_reducible rename News _ _ _ _ => N'); k_dflt (refine b_slice (s := ⟨_, _, _, _, _⟩) F' N' (by constructor) (by constructor) (by first | omega | (simp only [List.length_cons, List.length_append, List.length_nil]; omega)) (by first | exact cut_last rfl | exact cut_from1 rfl) ?_); intro _ _ _ _ _)
  k_with "subscriptTail" => (k_here; (with_reducible show wpAny _ _ (subscriptTail _ (Expr.Slice (some _) (some _) none _) (Value.bytes _ _) (Value.ref _)) _ _ _); (with_reducible rename Fr _ _ _ _ => F'); (with_reducible rename News _ _ _ _ => N'); k_dflt (refine b_slice (s := ⟨_, _, _, _, _⟩) F' N' (by constructor) (by constructor) (by first | omega | (simp only [List.length_cons, List.length_append, List.length_nil]; omega)) (cut_mid rfl rfl) ?_); intro _ _ _ _ _)
  k_with "compareOp Eq bytes bytes" => (k_here; (with_reducible show wpAny _ _ (compareOp CmpOp.Eq (Value.bytes _ _) (Value.bytes _ _)) _ _ _); k_dflt (refine b_eq (by first | assumption | exact beq_cons_false (by assumption) | exact beq_self_true | exact (rfl : _ = false) | exact (rfl : _ = true)) ?_))
  k_with "binaryOp Add bytes bytes" => (k_here; (with_reducible show wpAny _ _ (binaryOp Operator.Add (Value.bytes _ _) (Value.bytes _ _)) _ _ _); k_dflt (refine b_add (by first | omega | (simp only [List.length_append, List.length_cons, List.length_nil]; omega)) ?_); intro _ _)
  k_with "exec If" => (k_here; (fail_if_success (with_reducible rename Go => hGo9)); (with_reducible show wpAny _ _ (exec (Stmt.If _ _ [] _) _) _ _ _); (refine hold ?_); walk_say "HELD")
  trivial
section
variable {w : World} {mean : ExcName → Option Value} {mg mb : Str → Option Value} {base : Heap} {s : Shared} {p : List UInt8} {td : Tok}
theorem idoct_spec (hb : Bas w mean mg mb base) (hz : p.length ≤ 65536) :
    Spec w base 161 [.str (strB p) td] false 60 1100 s (fun v h' => ∃ o t, idOct p = some o ∧ v = .bytes (List.toArray o) t) (idOct p = none) := by
  ktr_unf
  k_steps
  · exact by unfold idOct; rw [show sidesOf p = none by assumption]; rfl
  · refine unhold ?_
    intro l r D t1 t2 ep h' tk' hS fl fr nl nr F N ne
    k_unmd
    (try k_fold)
    k_steps
    refine unhold ?_
    refine left_cut (Str.ofString "left") (Str.ofString "right") l (by assumption) (by assumption) ?mid ?rest
    case mid =>
      have hgo := go
      cases hL : runAll l with
      | true =>
        k_unmd
        (try k_fold)
        k_steps
        all_goals exact left_end (by assumption) (by assumption) (by exact fun p hp => hp) (by unfold leftW; rw [if_pos hL]) rfl
      | false =>
        k_unmd
        (try k_fold)
        k_steps
        all_goals exact left_end (by assumption) (by assumption) (by first | exact fun p hp => hp | exact fun p hp => .tail _ hp | exact fun p hp => .tail _ (.tail _ hp)) (by unfold leftW; rw [if_neg (by rw [hL]; exact Bool.false_ne_true)]; rfl) (map_swap (by decide))
    case rest =>
      intro t3 h3 tk3 F N
      have hgo := go
      have hLl := leftW_len l
      cases r with
      | nil =>
        have hR := runAll_nil
        have hx : idOct p = none := idOct_none hS (by rw [rightW_run (by simp)]; rfl)
        k_unmd
        (try k_fold)
        k_steps
        all_goals exact hx
      | cons c r =>
        simp only [List.length_cons] at fr
        by_cases h91 : c = 91
        · subst h91
          have hR := runAll_91 (r := r)
          by_cases h93 : r.getLast? = some 93
          · have hl1 : (r.drop (r.length - 1) == [93]) = true := by rw [last_is]; exact decide_eq_true h93
            have hx := idOct_some hS (rightW_br h93)
            have nr' : NoBad r.dropLast := fun c hc => nr c (.tail _ (List.dropLast_subset _ hc))
            have lr' : r.dropLast.length ≤ 65536 := by rw [List.length_dropLast]; omega
            k_unmd
            (try k_fold)
            k_steps
            all_goals ktr_rel
            all_goals exact ⟨_, _, hx, by simp only [List.append_assoc, List.cons_append, List.nil_append]; rfl⟩
          · have hl1 : (r.drop (r.length - 1) == [93]) = false := by rw [last_is]; exact decide_eq_false h93
            have hx : idOct p = none := idOct_none hS (rightW_nobr h93)
            k_unmd
            (try k_fold)
            k_steps
            all_goals exact hx
        · cases hR : runAll (c :: r) with
          | true =>
            have hx := idOct_some hS (R := c :: r) (by rw [rightW_run (by simpa using h91), if_pos hR])
            k_unmd
            (try k_fold)
            k_steps
            all_goals ktr_rel
            all_goals exact ⟨_, _, hx, by simp only [List.append_assoc, List.cons_append, List.nil_append]; rfl⟩
          | false =>
            have hx : idOct p = none := idOct_none hS (by rw [rightW_run (by simpa using h91), hR]; rfl)
            k_unmd
            (try k_fold)
            k_steps
            all_goals exact hx
end
end Mine
end
section
open PySem PySem.W PySem.Spec PySem.Calls PyProof.Rows
namespace Mine
theorem StrsAre.at {vs : List Value} {ps : List (List UInt8)} (h : StrsAre vs (ps.map strB)) : ∀ {pre : List Value} {v : Value} {post : List Value}, vs = pre ++ v :: post → ∃ p u, v = .str (strB p) u ∧ p ∈ ps ∧ ps.take (pre ++ [v]).length = ps.take pre.length ++ [p] := by
  generalize hk : ps.map strB = ks at h
  induction h generalizing ps with
  | nil => intro pre v post e; cases pre <;> cases e
  | @cons y t vs ys h ih =>
    intro pre v post e
    cases ps with
    | nil => cases hk
    | cons p ps =>
      rw [List.map_cons] at hk
      injection hk with h1 h2
      cases pre with
      | nil =>
        cases e
        exact ⟨p, t, by rw [h1], .head _, rfl⟩
      | cons q pre =>
        injection e with e1 e2
        obtain ⟨p', u, a1, a2, a3⟩ := ih h2 e2
        refine ⟨p', u, a1, .tail _ a2, ?_⟩
        rw [List.cons_append, List.length_cons, List.length_cons, List.take_succ_cons, List.take_succ_cons, a3, List.cons_append]
theorem BytesAre.snoc {vs : List Value} {bs : List (List UInt8)} {b : List UInt8} {t : Tok} (h : BytesAre vs bs) : BytesAre (vs ++ [.bytes (List.toArray b) t]) (bs ++ [b]) := by
  induction h with
  | nil => exact .cons .nil
  | cons _ ih => exact .cons ih
/-- all can be written -/
noncomputable def octsOf : List (List UInt8) → Option (List (List UInt8))
  | [] => some []
  | p :: r => (idOct p).bind fun o => (octsOf r).map fun os => o :: os
theorem octsOf_snoc {p : List UInt8} : ∀ {ps os : List (List UInt8)} {o : List UInt8}, octsOf ps = some os → idOct p = some o → octsOf (ps ++ [p]) = some (os ++ [o])
  | [], os, o, h, ho => by
    cases h
    show (idOct p).bind _ = _
    rw [ho]; rfl
  | q :: ps, os, o, h, ho => by
    unfold octsOf at h
    rw [Option.bind_eq_some_iff] at h
    obtain ⟨x, hx, h⟩ := h
    rw [Option.map_eq_some_iff] at h
    obtain ⟨y, hy, h⟩ := h
    subst h
    show (idOct q).bind _ = _
    rw [hx]
    show (octsOf (ps ++ [p])).map _ = _
    rw [octsOf_snoc hy ho]; rfl
theorem octsOf_bad {p : List UInt8} (h : idOct p = none) : ∀ {ps : List (List UInt8)}, p ∈ ps → octsOf ps = none
  | q :: ps, hm => by
    unfold octsOf
    rcases List.mem_cons.mp hm with rfl | hm
    · rw [h]; rfl
    · rw [octsOf_bad h hm]
      cases idOct q <;> rfl
theorem escB_len2 {sg l : List UInt8} {n : Nat} (h : l.length ≤ n) : (escB sg l).length ≤ 2 * n := Nat.le_trans (escB_len l) (Nat.mul_le_mul_left 2 h)
theorem idOct_len {p o : List UInt8} (h : idOct p = some o) : o.length ≤ 4 * p.length + 9 := by
  unfold idOct at h
  rw [Option.bind_eq_some_iff] at h
  obtain ⟨⟨l, r⟩, h1, h2⟩ := h
  rw [Option.map_eq_some_iff] at h2
  obtain ⟨R, h3, rfl⟩ := h2
  obtain ⟨f1, f2, _, _⟩ := sides_facts h1
  have hl : (leftW l).length ≤ 2 * p.length + 2 := by
    unfold leftW
    split
    · omega
    · simp only [List.length_append, List.length_cons, List.length_nil]
      have := escB_len2 (sg := [34, 92]) f1
      omega
  have hR : R.length ≤ 2 * p.length + 2 := by
    dsimp only at h3
    unfold rightW at h3
    split at h3
    · cases h3
      simp only [List.length_append, List.length_cons, List.length_nil]
      have : (r.drop 1).dropLast.length ≤ p.length := by rw [List.length_dropLast, List.length_drop]; omega
      have := escB_len2 (sg := [91, 93, 92]) this
      omega
    · split at h3
      · cases h3; omega
      · cases h3
  simp only [List.length_cons, List.length_append, List.length_nil]
  omega
theorem octsOf_len : ∀ {ps os : List (List UInt8)}, octsOf ps = some os → os.length = ps.length ∧ (os.map List.length).sum ≤ 4 * (ps.map List.length).sum + 9 * ps.length
  | [], os, h => by cases h; exact ⟨rfl, Nat.le_refl _⟩
  | p :: ps, os, h => by
    unfold octsOf at h
    rw [Option.bind_eq_some_iff] at h
    obtain ⟨x, hx, h⟩ := h
    rw [Option.map_eq_some_iff] at h
    obtain ⟨y, hy, h⟩ := h
    subst h
    obtain ⟨a, b⟩ := octsOf_len hy
    have := idOct_len hx
    simp only [List.length_cons, List.map_cons, List.sum_cons]
    omega
theorem jn_le {ps os : List (List UInt8)} (h : octsOf ps = some os) : (jn [32] os).length ≤ 4 * (ps.map List.length).sum + 10 * ps.length := by
  obtain ⟨a, b⟩ := octsOf_len h
  rw [jn_length]
  simp only [List.length_cons, List.length_nil]
  omega
section
variable {w : World} {mean : ExcName → Option Value} {mg mb : Str → Option Value} {base g : Heap} {s : Shared} {p : List UInt8} {td : Tok} {A : Around} {le : List Env} {L a : Addr} {m : Str → Option Value} {news : List (Addr × Obj)} {name : Str} {scope : Scope} {cd : Value} {Q E : Value → Shared → Prop}
theorem call_idoct (hb : Bas w mean mg mb base) (hz : p.length ≤ 65536) (B : Below A base le g) (F : Fr g L s.heap m) (N : News g L s.heap news) (hh : A.handled = none) (hd : A.depth + 61 < recursionLimit) (hu : A.units + 1103 < cLine) (hk : scope.kind = .function)
    (ret : ∀ o t h' tk', idOct p = some o → Fr g L h' m → News g L h' news → Q (.bytes (List.toArray o) t) { s with heap := h', toks := tk' })
    (exn : idOct p = none → ∀ e h' tk', Raised s.heap (envOf name scope L a cd :: le) e h' → E (.ref e) { s with heap := h', toks := tk' }) :
    wpAny (model PySem.Challenge.rw_no0368_01.row.toRowW.prog w) (A.deeper (envOf name scope L a cd)) (call (.ref 161) [.str (strB p) td]) Q E s := by
  refine call_spec (idoct_spec hb hz) B F N (fun _ => hh) hd hu hk (fun v h' tk' F' N' K hr => ?_) exn
  obtain ⟨o, t, hi, rfl⟩ := hr
  exact ret o t h' tk' hi F' N'
end
end Mine
end
section
open PySem PySem.W PySem.Spec PySem.Calls PyProof.Rows
namespace Mine
theorem fillX22 : (PySem.Challenge.rw_no0368_01, ltop.heap_1) = (PySem.Challenge.rw_no0368_01, ltop.heap_1) := by k_fill; rfl
theorem _root_.Mine.rowsX22_1 : True := by
  k_with_none
  k_with "subscriptTail" => (k_here; (with_reducible show wpAny _ _ (subscriptTail _ _ (Value.bytes _ _) (Value.int _ _)) _ _ _); k_dflt (refine b_item rfl (by assumption) (by assumption) ?_); intro _ _)
  k_with "subscriptTail" => (k_here; (with_reducible show wpAny _ _ (subscriptTail _ (Expr.Slice (some _) (some _) none _) (Value.bytes _ _) (Value.ref _)) _ _ _); (with_reducible rename Fr _ _ _ _ => F'); (with_reducible rename News _ _ _ _ => N'); k_dflt (refine b_slice (s := ⟨_, _, _, _, _⟩) F' N' (by constructor) (by constructor) (by assumption) (by first | exact cut1 rfl rfl (by assumption) | exact cut0 rfl rfl (by assumption) | exact cut2 rfl rfl (by assumption)) ?_); intro _ _ _ _ _)
  k_with "compareOp Eq bytes bytes" => (k_here; (with_reducible show wpAny _ _ (compareOp CmpOp.Eq (Value.bytes _ _) (Value.bytes _ _)) _ _ _); k_dflt (refine b_eq (by first | exact beq_cons_false (by assumption) | exact beq_self_true | exact (rfl : _ = false) | exact (rfl : _ = true)) ?_))
  k_with "compareOp NotEq bytes bytes" => (k_here; (with_reducible show wpAny _ _ (compareOp CmpOp.NotEq (Value.bytes _ _) (Value.bytes _ _)) _ _ _); k_dflt (refine b_ne (by first | exact bne_cons_true (by assumption) | exact bne_self_false | exact (rfl : _ = false) | exact (rfl : _ = true)) ?_))
  k_with "call builtin:len" => (k_here; (with_reducible show wpAny _ _ (call (Value.builtin "len") [Value.bytes _ _]) _ _ _); k_dflt (refine b_len (by assumption) ?_); intro _ _)
  k_with "compareOp In int bytes" => (k_here; (with_reducible show wpAny _ _ (compareOp CmpOp.In (Value.int _ _) (Value.bytes _ _)) _ _ _); k_dflt (refine b_in rfl (by first | assumption | rfl) ?_))
  k_with "exec Raise some none" => (k_here; k_dflt (refine raise_wf (by assumption) ?_))
  k_with "ktr_unf" => ((refine' enter (by assumption) ?k6 ?k7 ?k9 ?kl ?c2 ?c3 ?c4 ?c5 ?_); (case k6 => k_is); (case k7 => k_is); (case k9 => exact BindsTo.of_eq rfl); (case kl => exact locs rfl); (case c2 => exact rfl); (case c3 => exact rfl); (case c4 => exact rfl); (case c5 => decide); intro A le L h₁ hh B hd hu X T F N; (try (have hHd := hh rfl)); (try k_unmd); (try dsimp only); k_fold)
  k_with "ktr_rel" => ((try dsimp only); (refine ret_end (by assumption) ?_))
  k_with "call ref" => (k_here; (with_reducible show wpAny _ _ (call (Value.ref 59) _) _ _ _); k_dflt (refine wf_make_K (by assumption) (by assumption) (by assumption) (by omega) (by first | exact .inr ⟨_, _, rfl⟩ | exact .inl rfl) ?_); intro h' tk' e' H'; k_dflt (refine leave_new (by assumption) (by assumption) H' rfl ?_))
  k_with "ite" => (k_here; k_dflt (first
    | (refine ite_pos (by first | omega | (simp only [decide_eq_true_eq, beq_iff_eq, bne_iff_ne, ne_eq, Bool.and_eq_true, Bool.or_eq_true, Bool.not_eq_true', decide_eq_false_iff_not, beq_eq_false_iff_ne]; omega) | exact beq_self_eq_true _) ?_; walk_say "PRUNED here")
    | (refine ite_neg (by first | omega | (simp only [decide_eq_true_eq, beq_iff_eq, bne_iff_ne, ne_eq, Bool.and_eq_true, Bool.or_eq_true, Bool.not_eq_true', decide_eq_false_iff_not, beq_eq_false_iff_ne]; omega) | exact beq_self_eq_true _) ?_; walk_say "PRUNED here")))
  k_with "compareOp In int ref" => (k_here; (with_reducible show wpAny _ _ (compareOp CmpOp.In (Value.int _ _) (Value.ref 62)) _ _ _); k_dflt (refine in_nev (by assumption) (by assumption) ?_))
  k_with "exec While Compare" => (k_here; (with_reducible show wpAny _ _ (exec (Stmt.While _ _ _ _) _) _ _ _); (refine hold ?_); walk_say "HELD")
  k_with "assign Tuple" => (k_here; (with_reducible show wpAny _ _ (assign (Expr.Tuple _ _ _) _ (Value.ref _)) _ _ _); k_dflt (refine unpackN_ (by k_asm) (by k_asm) (News.isTup (by k_asm) (by k_mem)) (by assumption) rfl rfl ?_); intro h' F' N'; (try k_sweep))
  k_with "call builtin:list.append" => (k_here; (with_reducible show wpAny _ _ (call (Value.builtin _) [Value.ref _, _]) _ _ _); k_dflt (refine' append_K (by k_asm) (by k_asm) (by k_upd) ?_ (by first | size_fits | (rw [sizeLine_eq]; show List.length _ ≤ _; omega)); k_whole); intro h' F' N'; (try simp only [List.push_toArray] at N'); (try k_sweep))
  k_with "pyIter bytes" => (k_here; (refine hold ?_); walk_say "HELD")
  k_with "eval ListComp" => (k_here; (with_reducible show wpAny _ _ (eval (Expr.ListComp _ _ _ _) _) _ _ _); (refine hold ?_); walk_say "HELD")
  k_with "getMethod bytes" => (k_here; (with_reducible refine m_join ?_))
  k_with "call builtin:bytes.join" => (k_here; k_dflt (refine b_join (by is_list) (by assumption) (by assumption) ?_); intro _ _)
  k_with "call ref" => (k_here; (with_reducible show wpAny _ _ (call (Value.ref 161) _) _ _ _); k_dflt (refine call_idoct (by assumption) (by assumption) (by assumption) (by assumption) (by assumption) (by assumption) (by omega) (by omega) rfl ?_ ?_); (case' refine_1 => intro o' t' _ _ hO' _ _); (case' refine_2 => (refine hold ?_; walk_say "HELD")))
  trivial
section
variable {w : World} {mean : ExcName → Option Value} {mg mb : Str → Option Value} {base : Heap} {s : Shared} {P0 : Addr} {vs : List Value} {ps : List (List UInt8)}
theorem write_spec (hb : Bas w mean mg mb base) (hl : s.heap.IsList P0 vs.toArray) (hv : StrsAre vs (ps.map strB)) (hp : ∀ p ∈ ps, p.length ≤ 65536) (hn : ps.length ≤ 65536) (hsum : 4 * (ps.map List.length).sum + 10 * ps.length ≤ 16777216) :
    Spec w base 166 [.ref P0] false 70 1300 s (fun v h' => ∃ os t, octsOf ps = some os ∧ v = .bytes (jn [32] os).toArray t) (octsOf ps = none) := by
  have hlen : vs.length = ps.length := by rw [StrsAre.len hv, List.length_map]
  ktr_unf
  k_steps
  refine unhold ?_
  refine comp_eval (by with_unfolding_all rfl) rfl (by decide) ?_
  k_steps
  refine comp_vals (items := vs) (fun pre ys nw => ∃ os, octsOf (ps.take pre.length) = some os ∧ BytesAre ys os) (by assumption) (by assumption) (by assumption) (fun _ _ _ _ => .inl hl) (by rw [hlen]; omega) (by decide) rfl rfl ⟨[], rfl, .nil⟩ ?turn (comp_raised (by assumption)) ?fin
  case turn =>
    intro pre v post ys nw I oI C oC D m₂ h tk el hJ hC hx F N o ne
    obtain ⟨os, ho, hB⟩ := hJ
    obtain ⟨p, u, rfl, hm, ht⟩ := StrsAre.at hv el
    have hpl := hp p hm
    refine wpAny_tests_nil ?_
    simp only [if_true]
    k_unmd
    (try k_fold)
    k_steps
    · refine unhold ?_
      intro hN e h' tk' R
      have zC := N (C, oC) (.tail _ (.head _))
      exact ⟨octsOf_bad hN hm, e, _, h', tk', _, _, rfl, rfl, F, hC.ns zC.1, zC.2.1, R⟩
    · exact CEnd.intro (by assumption) (by assumption) _ (fun p hp => hp) o ⟨_, by rw [ht]; exact octsOf_snoc ho (by assumption), BytesAre.snoc hB⟩
  case fin =>
    intro D ys nw h tk hl2 hJ F N o
    have hJ : ∃ os, octsOf (ps.take vs.length) = some os ∧ BytesAre ys os := hJ
    rw [hlen, List.take_length] at hJ
    obtain ⟨os, ho, hB⟩ := hJ
    have hjl : (jn [32] os).length ≤ 16777216 := Nat.le_trans (jn_le ho) hsum
    simp only [List.cons_append, List.nil_append]
    k_unmd
    (try k_fold)
    k_steps
    all_goals ktr_rel
    all_goals exact ⟨_, _, ho, rfl⟩
end
end Mine
end
section
open PySem PySem.W PySem.Spec PySem.Calls PyProof.Rows
namespace Mine
/-- a contract of a def that may change two objects, P and C -/
noncomputable def SpecP (w : World) (base : Heap) (f : Addr) (args : List Value) (dd uu : Nat) (s : Shared) (P C : Addr) (Ret : Value → Heap → Prop) : Prop :=
  ∀ (A : Around) (l : List Env) (Q E : Value → Shared → Prop),
    A.handled = none → Below A base l s.heap → base.get? P = none → base.get? C = none → (∀ b ∈ frs l, b ≠ P ∧ b ≠ C) → A.depth + dd < recursionLimit → A.units + uu < cLine →
    (∀ r h' tk', Heap.StaysIn (hideAll s.heap [P, C]) h' → Ret r h' → Q r { s with heap := h', toks := tk' }) →
    wpAny (model PySem.Challenge.rw_no0368_01.row.toRowW.prog w) A (call (.ref f) args) Q E s
noncomputable def RetP (s : Shared) (P C : Addr) (Ret : Value → Heap → Prop) (v : Value) (s' : Shared) : Prop :=
  ∃ h' tk', s' = { s with heap := h', toks := tk' } ∧ Heap.StaysIn (hideAll s.heap [P, C]) h' ∧ Ret v h'
section
variable {w : World} {mean : ExcName → Option Value} {mg mb : Str → Option Value} {base g : Heap} {f P C : Addr} {args : List Value} {dd uu : Nat} {s : Shared} {Ret : Value → Heap → Prop} {A : Around} {l : List Env} {L a : Addr} {m : Str → Option Value} {news : List (Addr × Obj)} {Q E : Value → Shared → Prop} {oP oC : Obj}
theorem below_hide (B : Below A base l s.heap) (bP : base.get? P = none) (bC : base.get? C = none) (hf : ∀ b ∈ frs l, b ≠ P ∧ b ≠ C) : Below A base l (hideAll s.heap [P, C]) := by
  refine ⟨B.stack, fun b o e => hideAll_get _ (B.stays b o e) fun hm => ?_, funFrames_hideAll B.frames fun env he b hb hq => ?_⟩
  · rcases List.mem_cons.mp hm with q | hm
    · rw [q, bP] at e; cases e
    · rw [List.mem_singleton.mp hm, bC] at e; cases e
  · have := hf b (List.mem_filterMap.mpr ⟨env, he, hq⟩)
    rcases List.mem_cons.mp hb with q | hm
    · exact this.1 q
    · exact this.2 (List.mem_singleton.mp hm)
theorem enterP {name qual : Str} {params : Arguments} {body : List Stmt} {scope : Scope} {dV kV doc pm cdv ct oc : Value} {an od : Option Addr} {osl : Array (Option Value)} {binds : List (Str × Value)}
    (hb : Bas w mean mg mb base) (hP : s.heap.get? P = some oP) (hC : s.heap.get? C = some oC)
    (ho : (ltop.heap_1 w.params).lookup f = some ⟨oc, od, .func (fnOf name qual params body scope dV kV doc pm an cdv ct), osl⟩) (hcd : codeIn (ltop.heap_1 w.params) cdv qual = true)
    (hbind : BindsTo s (fnOf name qual params body scope dV kV doc pm an cdv ct) ⟨args, []⟩ binds) (hloc : ∀ y ∈ binds, scope.names.lookup y.1 = some .local)
    (hco : scope.isCoroutine = false) (hgen : scope.isGenerator = false) (hk : scope.kind = .function) (hcell : ∀ x ∈ scope.names, x.2 ≠ .cell)
    (h : ∀ (A : Around) (l : List Env) (L : Addr) (h₁ g : Heap), A.handled = none → Below A base l g → A.depth + dd < recursionLimit → A.units + uu < cLine → g = hideAll s.heap [P, C] →
      (ltop.heap_1 w.params).In g → Top ltop.view_1 (looseW ltop.view_1 [Str.ofString "PostError"]) mean mg mb g → Fr g L h₁ (fun y => binds.reverse.lookup y) → News g L h₁ [(P, oP), (C, oC)] →
      wpAny (model PySem.Challenge.rw_no0368_01.row.toRowW.prog w) (A.deeper (envOf qual scope L f cdv)) (execs body (envOf qual scope L f cdv))
        (fun fl s' => RetP s P C Ret (match fl with | .ret v => v | _ => .none) s') (fun _ _ => False)
        { s with heap := h₁, toks := s.toks + binds.length }) : SpecP w base f args dd uu s P C Ret := by
  intro A l Q E hh B bP bC hf hd hu hret
  have B' := below_hide B bP bC hf
  have X : (ltop.heap_1 w.params).In s.heap := hb.x.keeps B.stays
  have T := hb.t.keeps B.stays
  refine wpAny_call ?_
  refine codeAny_call_def (fd := fnOf name qual params body scope dV kV doc pm an cdv ct) (body := body) (binds := binds) (by omega) (X _ _ ho) rfl T.nolimit (codeRec_of X hcd) rfl hbind hcell hloc (fun h₁ hns hk₁ => ?_) hco hgen hk
  refine wpAny_mono (h A l s.heap.objs.size h₁ _ hh B' hd hu rfl (hb.x.keeps B'.stays) (hb.t.keeps B'.stays) ⟨hns, fun b o e => hk₁ b o (of_hideAll _ e), Nat.le_of_eq (hideAll_size _ _)⟩ (fun p hp => ?_)) (fun fl s' hl => ?_) fun e s' he => he.elim
  · rcases List.mem_cons.mp hp with rfl | hp
    · exact ⟨hk₁ _ _ hP, Nat.ne_of_lt (Heap.lt_size hP), hideAll_none _ (.head _)⟩
    · rw [List.mem_singleton.mp hp]
      exact ⟨hk₁ _ _ hC, Nat.ne_of_lt (Heap.lt_size hC), hideAll_none _ (.tail _ (.head _))⟩
  · obtain ⟨h', tk', rfl, k, r⟩ := hl
    exact hret _ _ _ k r
theorem enterPc {name qual : Str} {params : Arguments} {body : List Stmt} {scope : Scope} {dV kV doc pm cdv ct oc : Value} {an od : Option Addr} {osl : Array (Option Value)} {binds : List (Str × Value)}
    (hb : Bas w mean mg mb base) (hP : s.heap.get? P = some oP) (hC : s.heap.get? C = some oC)
    (ho : (ltop.heap_1 w.params).lookup f = some ⟨oc, od, .func (fnOf name qual params body scope dV kV doc pm an cdv ct), osl⟩) (hcd : codeIn (ltop.heap_1 w.params) cdv qual = true)
    (hbind : BindsTo s (fnOf name qual params body scope dV kV doc pm an cdv ct) ⟨args, []⟩ binds) (hkind : (binds.all fun y => scope.names.lookup y.1 == some .local || scope.names.lookup y.1 == some .cell) = true)
    (hnd : ((cellsFrom 0 scope.names []).map (·.1)).Nodup)
    (hco : scope.isCoroutine = false) (hgen : scope.isGenerator = false) (hk : scope.kind = .function)
    (h : ∀ (A : Around) (l : List Env) (L : Addr) (h₁ g : Heap) tk cells, A.handled = none → Below A base l g → A.depth + dd < recursionLimit → A.units + uu < cLine → g = hideAll s.heap [P, C] →
      (ltop.heap_1 w.params).In g → Top ltop.view_1 (looseW ltop.view_1 [Str.ofString "PostError"]) mean mg mb g → Fr g L h₁ (bindL (envOfC qual scope L f cdv).kindOf binds fun _ => none) → News g L h₁ ((P, oP) :: (C, oC) :: cells) →
      CellsAre (bindC (envOfC qual scope L f cdv).kindOf binds fun _ => none) (cellsFrom (L + 1) scope.names []) cells → (∀ p ∈ cells, p.1 ≠ P ∧ p.1 ≠ C) →
      wpAny (model PySem.Challenge.rw_no0368_01.row.toRowW.prog w) (A.deeper (envOfC qual scope L f cdv)) (execs body (envOfC qual scope L f cdv))
        (fun fl s' => RetP s P C Ret (match fl with | .ret v => v | _ => .none) s') (fun _ _ => False)
        { s with heap := h₁, toks := tk }) : SpecP w base f args dd uu s P C Ret := by
  intro A l Q E hh B bP bC hf hd hu hret
  have B' := below_hide B bP bC hf
  have X : (ltop.heap_1 w.params).In s.heap := hb.x.keeps B.stays
  have T := hb.t.keeps B.stays
  refine wpAny_call ?_
  refine codeAny_call_function (by omega) (X _ _ ho) rfl hco hgen rfl (codeRec_of X hcd) (hbind _ _ _ _ ?_)
  refine wpAny_newFunctionEnv_cells hk (kindsX hkind _) fun env' he s' x => ?_
  subst he
  refine ⟨T.nolimit.keeps x.toInCall.keep, codeAny_func ?_⟩
  obtain ⟨h₁, tk, rfl, _⟩ := x.done
  have hk₁ := x.toInCall.keep
  obtain ⟨cells, NC, Y⟩ := Cl.news (h₀ := s.heap) (Nat.le_refl _) fun n c hm => ⟨x.cell n c (lookup_of_mem_nodup (cellsFrom_names scope.names 0 (s.heap.objs.size + 1) [] [] rfl ▸ hnd) hm), x.above n c hm⟩
  have cn : ∀ p ∈ cells, p.1 ≠ P ∧ p.1 ≠ C := fun p hp => by
    have z := (NC p hp).2.2
    exact ⟨fun q => (by rw [q, hP] at z; cases z), fun q => (by rw [q, hC] at z; cases z)⟩
  refine wpAny_mono (h A l s.heap.objs.size h₁ _ tk cells hh B' hd hu rfl (hb.x.keeps B'.stays) (hb.t.keeps B'.stays) ⟨x.toInCall.ns, fun b o e => hk₁ b o (of_hideAll _ e), Nat.le_of_eq (hideAll_size _ _)⟩ (fun p hp => ?_) Y cn) (fun fl s' hl => ?_) fun e s' he => he.elim
  · rcases List.mem_cons.mp hp with rfl | hp
    · exact ⟨hk₁ _ _ hP, Nat.ne_of_lt (Heap.lt_size hP), hideAll_none _ (.head _)⟩
    rcases List.mem_cons.mp hp with rfl | hp
    · exact ⟨hk₁ _ _ hC, Nat.ne_of_lt (Heap.lt_size hC), hideAll_none _ (.tail _ (.head _))⟩
    · refine ⟨(NC p hp).1, (NC p hp).2.1, ?_⟩
      cases q : (hideAll s.heap [P, C]).get? p.1 with
      | none => rfl
      | some o => have := of_hideAll _ q; rw [(NC p hp).2.2] at this; cases this
  · obtain ⟨h', tk', rfl, k, r⟩ := hl
    exact hret _ _ _ k r
theorem retP_end {h' : Heap} {tk' : Nat} {v : Value} (hg : g = hideAll s.heap [P, C]) (F : Fr g L h' m) (hr : Ret v h') : RetP s P C Ret v { s with heap := h', toks := tk' } :=
  ⟨h', tk', rfl, by rw [← hg]; exact F.keep, hr⟩
/-- after a call that may change P and C -/
theorem fr_hide {h h' : Heap} (F : Fr g L h m) (gP : g.get? P = none) (gC : g.get? C = none) (hPL : P ≠ L) (hCL : C ≠ L) (k : Heap.StaysIn (hideAll h [P, C]) h') : Fr g L h' m := by
  have nm : ∀ b, b ≠ P → b ≠ C → b ∉ [P, C] := fun b h1 h2 hm => by
    rcases List.mem_cons.mp hm with q | hm
    · exact h1 q
    · exact h2 (List.mem_singleton.mp hm)
  obtain ⟨o, es, ep, ho, r⟩ := F.ns
  refine ⟨⟨o, es, ep, k L o (hideAll_get _ ho (nm L (Ne.symm hPL) (Ne.symm hCL))), r⟩, fun b o e => k b o (hideAll_get _ (F.keep b o e) (nm b (fun q => ?_) fun q => ?_)), F.above⟩
  · rw [q, gP] at e; cases e
  · rw [q, gC] at e; cases e
theorem news_hide {h h' : Heap} (N : News g L h news) (off : ∀ p ∈ news, p.1 ≠ P ∧ p.1 ≠ C) (k : Heap.StaysIn (hideAll h [P, C]) h') : News g L h' news := fun p hp => by
  have z := N p hp
  have o := off p hp
  refine ⟨k _ _ (hideAll_get _ z.1 fun hm => ?_), z.2⟩
  rcases List.mem_cons.mp hm with q | hm
  · exact o.1 q
  · exact o.2 (List.mem_singleton.mp hm)
theorem call_specP {env : Env} {rest : List (Addr × Obj)} (H : SpecP w base f args dd uu s P C Ret) (B : Below A base l g) (F : Fr g L s.heap m) (N : News g L s.heap news) (hmP : (P, oP) ∈ news) (hmC : (C, oC) ∈ news) (off : ∀ p ∈ rest, p ∈ news ∧ p.1 ≠ P ∧ p.1 ≠ C) (hh : A.handled = none) (hf : env.frame = some L) (hk : env.scope.kind = .function) (hd : (A.deeper env).depth + dd < recursionLimit) (hu : (A.deeper env).units + uu < cLine)
    (ret : ∀ r h' tk' , Fr g L h' m → Ret r h' → (∀ oP' oC', h'.get? P = some oP' → h'.get? C = some oC' → News g L h' ((P, oP') :: (C, oC') :: rest)) → Q r { s with heap := h', toks := tk' }) :
    wpAny (model PySem.Challenge.rw_no0368_01.row.toRowW.prog w) (A.deeper env) (call (.ref f) args) Q E s := by
  have zP := N _ hmP
  have zC := N _ hmC
  have bn : ∀ b, g.get? b = none → base.get? b = none := fun b hb => by
    cases q : base.get? b with
    | none => rfl
    | some o => rw [B.stays _ _ q] at hb; cases hb
  refine H _ _ _ _ hh (pushX B F hf hk) (bn _ zP.2.2) (bn _ zC.2.2) (fun b hb => ?_) hd hu fun r h' tk' k hr => ?_
  · rcases List.mem_filterMap.mp hb with ⟨e, he, q⟩
    rcases List.mem_cons.mp he with rfl | he
    · have hbL : b = L := Option.some.inj (q.symm.trans hf)
      rw [hbL]
      exact ⟨Ne.symm zP.2.1, Ne.symm zC.2.1⟩
    · obtain ⟨L₁, o₁, hf₁, ho₁⟩ := funFrames_in B.frames e he
      have hbL : b = L₁ := Option.some.inj (q.symm.trans hf₁)
      rw [hbL]
      exact ⟨fun z => (by rw [z, zP.2.2] at ho₁; cases ho₁), fun z => (by rw [z, zC.2.2] at ho₁; cases ho₁)⟩
  · have N' := news_hide (P := P) (C := C) (news := rest) (fun p hp => N p (off p hp).1) (fun p hp => (off p hp).2) k
    refine ret r h' tk' (fr_hide F zP.2.2 zC.2.2 zP.2.1 zC.2.1 k) hr fun oP' oC' e1 e2 p hp => ?_
    rcases List.mem_cons.mp hp with rfl | hp
    · exact ⟨e1, zP.2⟩
    rcases List.mem_cons.mp hp with rfl | hp
    · exact ⟨e2, zC.2⟩
    · exact N' p hp
end
/-- ints that are not negative -/
noncomputable def NatsAre (vs : List Value) : Prop := ∀ v ∈ vs, ∃ (n : Int) (t : Tok), v = .int n t ∧ 0 ≤ n
theorem NatsAre.set {vs : List Value} {i : Nat} {n : Int} {t : Tok} (h : NatsAre vs) (hn : 0 ≤ n) : NatsAre (vs.set i (.int n t)) := fun v hv => by
  rcases List.mem_or_eq_of_mem_set hv with q | q
  · exact h v q
  · exact ⟨n, t, q, hn⟩
/-- the pot of the law -/
noncomputable def Pot (h : Heap) (P C : Addr) (pl : Nat) : Prop := ∃ (vs : List Value) (st : Int) (t1 t2 : Tok) (e1 e2 : Nat),
  @Ne Nat P C ∧ h.get? P = some (listOf (List.toArray [.ref C, .int st t1, .int (pl : Int) t2]) e1) ∧ h.get? C = some (listOf (List.toArray vs) e2) ∧ NatsAre vs ∧ 0 ≤ st ∧ vs.length ≤ 63
section
variable {prog : Program} {w : World} {A : Around} {E : Value → Shared → Prop} {s : Shared} {x y : Int} {t u : Tok} {Q : Value → Shared → Prop} {value slice : PySem.Expr} {C : Addr} {vs : List Value}
theorem i_mod (hy : 0 < y) (h : ∀ r t k, 0 ≤ r → r < y → Q (.int r t) { s with toks := k }) : wpAny (model prog w) A (binaryOp .Mod (.int x t) (.int y u)) Q E s := by
  refine mod_int' (by omega) ?_
  rw [Int.fmod_eq_emod_of_nonneg _ (by omega)]
  exact h _ _ _ (Int.emod_nonneg _ (by omega)) (Int.emod_lt_of_pos _ hy)
theorem i_div (hx : 0 ≤ x) (hy : 0 < y) (hy2 : y < 1000000) (h : ∀ r t k, 0 ≤ r → Q (.int r t) { s with toks := k }) : wpAny (model prog w) A (binaryOp .FloorDiv (.int x t) (.int y u)) Q E s := by
  refine floordiv_int (by omega) ?_ (.inl (PyProof.noPylong_small (by omega)))
  rw [Int.fdiv_eq_ediv_of_nonneg _ (by omega)]
  exact h _ _ _ (Int.ediv_nonneg hx (by omega))
theorem bits_le {x : Int} (h : x.natAbs < 2 ^ 60) : Builtin.Int.intBits x ≤ 64 := by
  unfold Builtin.Int.intBits
  split
  · omega
  · rename_i hx
    have : x.natAbs ≠ 0 := by
      intro q
      have : x = 0 := Int.natAbs_eq_zero.mp q
      subst this
      exact hx rfl
    have := (Nat.log2_lt this).mpr h
    omega
theorem i_mul (hx : 0 ≤ x) (hy : 0 ≤ y) (hy2 : y < 1000000) (h : ∀ r t k, 0 ≤ r → Q (.int r t) { s with toks := k }) : wpAny (model prog w) A (binaryOp .Mult (.int x t) (.int y u)) Q E s :=
  PyProof.Rows.mul_int (h _ _ _ (Int.mul_nonneg hx hy)) (.of_right (bits_le (by omega)))
theorem l_item {i : Int} (hl : s.heap.IsList C vs.toArray) (hn : NatsAre vs) (h0 : 0 ≤ i) (h1 : i < vs.length) (hz : vs.length ≤ 1000) (h : ∀ n t, 0 ≤ n → Q (.int n t) s)
    (hs : subscripted slice false (.ref C) (.int i u) = operate [.ref C, .int i u] (getItem (.ref C) (.int i u)) := by with_unfolding_all rfl)
    (ht : ∀ r, letTemporaryGo value (.ref C) r = pure () := by intro _; with_unfolding_all rfl) : wpAny (model prog w) A (subscriptTail value slice (.ref C) (.int i u)) Q E s := by
  have hlt : i.toNat < vs.length := by omega
  obtain ⟨n, t, e, hn0⟩ := hn _ (List.getElem_mem hlt)
  have g : wpAny (model prog w) A (getItem (.ref C) (.int i u)) Q E s :=
    getItem_listL hl h0 (by omega) (x := .int n t) (by rw [List.getElem?_eq_getElem hlt, e]) (h n t hn0)
  exact tail_of_ItemOn ⟨"list", _, slot_list_getitem.lookup, hl.typeIs, g⟩ hs ht
theorem l_len (hl : s.heap.IsList C vs.toArray) (hz : vs.length ≤ 65536) (h : ∀ t k, Q (.int ((vs.length : Nat) : Int) t) { s with toks := k }) : wpAny (model prog w) A (call (.builtin "len") [.ref C]) Q E s :=
  PyProof.Rows.len_list hl (by rw [List.size_toArray]; omega) (by rw [List.size_toArray]; exact h _ _)
theorem setL_ok {v : Value} : ∀ {l : List Value} {k : Nat}, k < l.length → ki_setL l k v = some (l.set k v)
  | [], k, h => absurd h (Nat.not_lt_zero _)
  | _ :: _, 0, _ => rfl
  | x :: r, k + 1, h => by
    unfold ki_setL
    rw [setL_ok (by simpa using h)]
    rfl
end
noncomputable def DrawRet (P C : Addr) (lim pl : Nat) (v : Value) (h' : Heap) : Prop := ∃ (k : Nat) (t : Tok), v = .int (k : Int) t ∧ k < lim ∧ Pot h' P C (pl + 1)
theorem draw_end {g h' : Heap} {P C L : Addr} {vs : List Value} {st x r : Int} {t ta tb : Tok} {e1 e2 pl lim : Nat} (hne : @Ne Nat P C) (N : News g L h' [(P, listOf (List.toArray [.ref C, .int st ta, .int x tb]) e1), (C, listOf (List.toArray vs) e2)]) (hx : x = (pl : Int) + 1) (hn : NatsAre vs) (hs : 0 ≤ st) (hv : vs.length ≤ 63) (h0 : 0 ≤ r) (h1 : r < (lim : Int)) : DrawRet P C lim pl (.int r t) h' := by
  refine ⟨r.toNat, t, by congr 1; omega, by omega, vs, st, ta, tb, e1, e2, hne, ?_, (N _ (.tail _ (.head _))).1, hn, hs, hv⟩
  have := (N _ (.head _)).1
  rw [hx] at this
  exact this
end Mine
end
section
open PySem PySem.W PySem.Spec PySem.Calls PyProof.Rows
namespace Mine
theorem fillX24 : (PySem.Challenge.rw_no0368_01, ltop.heap_1) = (PySem.Challenge.rw_no0368_01, ltop.heap_1) := by k_fill; rfl
theorem _root_.Mine.rowsX24_1 : True := by
  k_with_none
  k_with "ktr_unf" => ((refine' enterP (by assumption) (by assumption) (by assumption) ?k6 ?k7 ?k9 ?kl ?c2 ?c3 ?c4 ?c5 ?_); (case k6 => k_is); (case k7 => k_is); (case k9 => exact BindsTo.of_eq rfl); (case kl => exact locs rfl); (case c2 => exact rfl); (case c3 => exact rfl); (case c4 => exact rfl); (case c5 => decide); intro A le L h₁ g hH B hd hu hg X T F N; (try k_unmd); (try dsimp only); k_fold)
  k_with "ktr_rel" => ((try dsimp only); (refine retP_end (by assumption) (by assumption) ?_))
  k_with "binaryOp Mod int int" => (k_here; k_dflt (refine i_mod (by first | omega | (simp only [List.length_cons]; omega)) ?_); intro _ _ _ _ _)
  k_with "binaryOp FloorDiv int int" => (k_here; k_dflt (refine i_div (by omega) (by omega) (by omega) ?_); intro _ _ _ _)
  k_with "binaryOp Mult int int" => (k_here; k_dflt (refine i_mul (by omega) (by omega) (by omega) ?_); intro _ _ _ _)
  k_with "subscriptTail" => (k_here; (with_reducible show wpAny _ _ (subscriptTail _ (Expr.Name _ _) (Value.ref _) (Value.int _ _)) _ _ _); k_dflt (refine l_item (by is_list) (by assumption) (by omega) (by first | omega | (simp only [List.length_cons] at *; omega)) (by first | omega | (simp only [List.length_cons] at *; omega)) ?_); intro _ _ _)
  trivial
local macro_rules | `(tactic| walk_at "setItem ref int") => `(tactic| (k_here; (with_reducible show wpAny _ _ (setItem (Value.ref _) (Value.int _ _) (Value.int _ _)) _ _ _); k_dflt (refine' ki_set ?F ?N ?a ?b ?e ?U ?_; (case F => k_asm); (case N => k_asm); (case U => k_upd); (case a => omega); (case b => omega); (case e => first | exact rfl | exact setL_ok (by first | omega | (simp only [List.toList_toArray]; omega) | (simp; omega)))); intro _ _ _; (try k_sweep)))
theorem _root_.Mine.rowsX24_2 : True := by
  k_with "truthy ref" => (k_here; (with_reducible show wpAny _ _ (truthy (Value.ref _)) _ _ _); k_dflt (refine t_list (by is_list) (by first | (rw [List.size_toArray]; omega) | (simp only [List.size_toArray, List.length_cons, List.length_nil, List.length_append] at *; omega)) (by first | assumption | exact t_cons | exact t_nil) ?_); intro _)
  k_with "call builtin:len" => (k_here; (with_reducible show wpAny _ _ (call (Value.builtin "len") [Value.ref _]) _ _ _); k_dflt (refine l_len (by is_list) (by first | omega | (simp only [List.length_cons] at *; omega)) ?_); intro _ _)
  trivial
section
variable {w : World} {mean : ExcName → Option Value} {mg mb : Str → Option Value} {base : Heap} {s : Shared} {P C : Addr} {pl lim : Nat} {tl : Tok}
theorem draw_spec (hb : Bas w mean mg mb base) (hp : Pot s.heap P C pl) (hpl : pl ≤ 1000) (h0 : 0 < lim) (h100 : lim ≤ 100) :
    SpecP w base 178 [.ref P, .int (lim : Int) tl] 20 400 s P C (DrawRet P C lim pl) := by
  obtain ⟨vs, st, t1, t2, e1, e2, hne, hP, hC, hi, hs0, hv⟩ := hp
  cases vs with
  | nil =>
    ktr_unf
    k_steps
    all_goals ktr_rel
    all_goals exact draw_end hne (by assumption) (by omega) (fun v hv => by cases hv) (by omega) (by decide) (by assumption) (by assumption)
  | cons v0 vs =>
    have hpos : 0 < (v0 :: vs).length := Nat.succ_pos _
    have hte : (!(List.toArray (v0 :: vs)).isEmpty) = true := t_cons
    generalize (v0 :: vs) = vs at *
    ktr_unf
    k_steps
    all_goals ktr_rel
    all_goals exact draw_end hne (by assumption) (by omega) (by first | assumption | exact NatsAre.set hi (by assumption)) (by omega) (by first | assumption | (rw [List.length_set]; assumption)) (by assumption) (by assumption)
end
end Mine
end
section
open PySem PySem.W PySem.Spec PySem.Calls PyProof.Rows
namespace Mine
noncomputable abbrev potObj (C : Addr) (st : Int) (t1 : Tok) (pl : Nat) (t2 : Tok) (e1 : Nat) : Obj := listOf (List.toArray [.ref C, .int st t1, .int (pl : Int) t2]) e1
section
variable {w : World} {mean : ExcName → Option Value} {mg mb : Str → Option Value} {base g : Heap} {P C D : Addr} {s : Shared} {A : Around} {l : List Env} {L : Addr} {m : Str → Option Value} {news rest : List (Addr × Obj)} {Q E : Value → Shared → Prop} {st x y : Int} {t1 t2 tl : Tok} {e1 e2 pl lim : Nat} {vs : List Value} {env : Env}
theorem call_draw (hb : Bas w mean mg mb base) (hne : @Ne Nat P C) (B : Below A base l g) (F : Fr g L s.heap m) (N : News g L s.heap news) (hmP : (P, potObj C st t1 pl t2 e1) ∈ news) (hmC : (C, listOf (List.toArray vs) e2) ∈ news) (hn : NatsAre vs) (hs : 0 ≤ st) (hv : vs.length ≤ 63) (hpl : pl ≤ 1000) (hlim : y = ((lim : Nat) : Int)) (h0 : 0 < lim) (h100 : lim ≤ 100) (off : ∀ p ∈ rest, p ∈ news ∧ p.1 ≠ P ∧ p.1 ≠ C) (hh : A.handled = none) (hf : env.frame = some L) (hk : env.scope.kind = .function) (hd : (A.deeper env).depth + 20 < recursionLimit) (hu : (A.deeper env).units + 400 < cLine)
    (ret : ∀ k t vs' st' ta tb e1' e2' h' tk', k < lim → NatsAre vs' → 0 ≤ st' → vs'.length ≤ 63 → Fr g L h' m → News g L h' ((P, potObj C st' ta (pl + 1) tb e1') :: (C, listOf (List.toArray vs') e2') :: rest) → Q (.int ((k : Nat) : Int) t) { s with heap := h', toks := tk' }) :
    wpAny (model PySem.Challenge.rw_no0368_01.row.toRowW.prog w) (A.deeper env) (call (.ref 178) [.ref P, .int y tl]) Q E s := by
  subst hlim
  refine call_specP (draw_spec hb ⟨vs, st, t1, t2, e1, e2, hne, (N _ hmP).1, (N _ hmC).1, hn, hs, hv⟩ hpl h0 h100) B F N hmP hmC off hh hf hk hd hu fun r h' tk' F' hr N' => ?_
  obtain ⟨k, t, rfl, hk, vs', st', ta, tb, e1', e2', _, q1, q2, q3, q4, q5⟩ := hr
  exact ret k t vs' st' ta tb e1' e2' h' tk' hk q3 q4 q5 F' (N' _ _ q1 q2)
end
theorem call_specE {w : World} {base g : Heap} {f : Addr} {args : List Value} {q : Bool} {dd uu : Nat} {s : Shared} {Ret : Value → Heap → Prop} {A : Around} {l : List Env} {L : Addr} {m : Str → Option Value} {news : List (Addr × Obj)} {Q E : Value → Shared → Prop} {env : Env} (H : Spec w base f args q dd uu s Ret False) (B : Below A base l g) (F : Fr g L s.heap m) (N : News g L s.heap news) (hh : q = false → A.handled = none) (hf : env.frame = some L) (hk : env.scope.kind = .function) (hd : (A.deeper env).depth + dd < recursionLimit) (hu : (A.deeper env).units + uu < cLine)
    (ret : ∀ r h' tk', Fr g L h' m → News g L h' news → Heap.StaysIn s.heap h' → Ret r h' → Q r { s with heap := h', toks := tk' }) :
    wpAny (model PySem.Challenge.rw_no0368_01.row.toRowW.prog w) (A.deeper env) (call (.ref f) args) Q E s :=
  H _ _ _ _ hh (pushX B F hf hk) hd hu (fun r h' tk' k hr => ret r h' tk' (F.keeps k) (fun q hq => ⟨k _ _ (N q hq).1, (N q hq).2⟩) k hr) False.elim
noncomputable def Good (l : List UInt8) (n : Nat) : Prop := NoBad l ∧ l.length ≤ 11 * n ∧ rnd l ≤ 5 * n
theorem good_nil : Good [] 0 := ⟨(fun c h => by cases h), Nat.le_refl _, Nat.le_refl _⟩
theorem good_app {a b : List UInt8} {n : Nat} (h : Good a n) (k : Good b 1) : Good (a ++ b) (n + 1) := by
  obtain ⟨a1, a2, a3⟩ := h
  obtain ⟨b1, b2, b3⟩ := k
  refine ⟨fun c hc => ?_, by rw [List.length_append]; omega, ?_⟩
  · rcases List.mem_append.mp hc with q | q
    · exact a1 c q
    · exact b1 c q
  · unfold rnd at *
    rw [List.countP_append]; omega
noncomputable def goodB (b : List UInt8) : Bool := b.all (fun c => c != 0 && c != 10 && c != 13) && decide (b.length ≤ 11) && decide (rnd b ≤ 5)
theorem goodB_good {b : List UInt8} (h : goodB b = true) : Good b 1 := by
  unfold goodB at h
  simp only [Bool.and_eq_true, decide_eq_true_eq, List.all_eq_true, bne_iff_ne, ne_eq] at h
  exact ⟨fun c hc => ⟨(h.1.1 c hc).1.1, (h.1.1 c hc).1.2, (h.1.1 c hc).2⟩, by omega, by omega⟩
noncomputable def pieces : List (List UInt8) := [[60, 97, 46, 98, 64, 99, 62], [60, 34, 120, 32, 121, 34, 64, 100, 46, 101, 62], [60, 97, 64, 91, 49, 46, 50, 93, 62], [60, 34, 113, 64, 114, 34, 64, 115, 62], [40], [41], [34], [60], [62], [40, 60, 105, 110, 64, 99, 111, 109, 62, 41], [34, 60, 105, 110, 64, 113, 117, 111, 62, 34], [64], [60, 34, 97, 92, 34, 98, 34, 64, 99, 62], [60, 97, 64, 91, 98, 92, 93, 99, 93, 62], [60, 97, 32, 98, 64, 99, 62], [60, 64, 99, 62], [60, 97, 64, 62], [119, 111, 114, 100, 32], [92], [91], [93], [60, 34, 34, 64, 122, 62], [60, 97, 64, 98], [60, 233, 64, 98, 62], [9, 60, 107, 64, 108, 62]]
theorem pieces_good {b : List UInt8} (h : b ∈ pieces) : Good b 1 := by
  have k : pieces.all goodB = true := by decide
  exact goodB_good (List.all_eq_true.mp k b h)
noncomputable def lsigns : List UInt8 := [97, 90, 57, 46, 45, 95, 60, 62, 64, 40, 41, 91, 93, 34, 92, 32, 9, 127, 1, 195]
theorem signs_good {cs : List UInt8} (h : ∀ c ∈ cs, c ∈ lsigns) (hl : cs.length ≤ 5) : Good cs 1 := by
  have k : lsigns.all (fun c => c != 0 && c != 10 && c != 13) = true := by decide
  refine ⟨fun c hc => ?_, by omega, ?_⟩
  · have := List.all_eq_true.mp k c (h c hc)
    simp only [Bool.and_eq_true, bne_iff_ne, ne_eq] at this
    exact ⟨this.1.1, this.1.2, this.2⟩
  · have : rnd cs ≤ cs.length := List.countP_le_length
    omega
section
variable {prog : Program} {w : World} {A : Around} {E : Value → Shared → Prop} {s : Shared} {t u : Tok} {Q : Value → Shared → Prop} {value slice : PySem.Expr} {D : Addr} {vs : List Value} {bs : List (List UInt8)} {l : List UInt8} {k : Nat}
theorem BytesAre.mem {vs : List Value} {bs : List (List UInt8)} (h : BytesAre vs bs) : ∀ {i : Nat} (hi : i < vs.length), ∃ b t, vs[i] = .bytes (List.toArray b) t ∧ b ∈ bs := by
  intro i hi
  obtain ⟨b, t, h1, h2⟩ := h.at hi
  rw [List.getElem?_eq_getElem hi] at h1
  exact ⟨b, t, Option.some.inj h1, List.mem_of_getElem? h2⟩
theorem l_bytes (hl : s.heap.IsList D vs.toArray) (hn : BytesAre vs bs) (h1 : k < bs.length) (hz : bs.length ≤ 1000) (h : ∀ b t, b ∈ bs → Q (.bytes (List.toArray b) t) s)
    (hs : subscripted slice false (.ref D) (.int (k : Int) u) = operate [.ref D, .int (k : Int) u] (getItem (.ref D) (.int (k : Int) u)) := by with_unfolding_all rfl)
    (ht : ∀ r, letTemporaryGo value (.ref D) r = pure () := by intro _; with_unfolding_all rfl) : wpAny (model prog w) A (subscriptTail value slice (.ref D) (.int (k : Int) u)) Q E s := by
  have hlt : k < vs.length := by rw [hn.length]; exact h1
  obtain ⟨b, t, e, hb⟩ := hn.mem hlt
  have g : wpAny (model prog w) A (getItem (.ref D) (.int (k : Int) u)) Q E s :=
    getItem_listL hl (by omega) (by omega) (x := .bytes (List.toArray b) t) (by rw [Int.toNat_natCast, List.getElem?_eq_getElem hlt, e]) (h b t hb)
  exact tail_of_ItemOn ⟨"list", _, slot_list_getitem.lookup, hl.typeIs, g⟩ hs ht
theorem l_pieces (hl : s.heap.IsList D vs.toArray) (hn : BytesAre vs pieces) (h1 : k < 25) (h : ∀ b t, Good b 1 → b.length ≤ 11 → Q (.bytes (List.toArray b) t) s)
    (hs : subscripted slice false (.ref D) (.int (k : Int) u) = operate [.ref D, .int (k : Int) u] (getItem (.ref D) (.int (k : Int) u)) := by with_unfolding_all rfl)
    (ht : ∀ r, letTemporaryGo value (.ref D) r = pure () := by intro _; with_unfolding_all rfl) : wpAny (model prog w) A (subscriptTail value slice (.ref D) (.int (k : Int) u)) Q E s :=
  l_bytes hl hn h1 (by decide) (fun b t hb => h b t (pieces_good hb) (by have := (pieces_good hb).2.1; omega)) hs ht
theorem b_any (h1 : k < l.length) (hz : l.length ≤ 1000) (h : ∀ c t' kk, c ∈ l → Q (.int (UInt8.toNat c : Int) t') { s with toks := kk })
    (hs : subscripted slice false (.bytes l.toArray t) (.int (k : Int) u) = operate [.bytes l.toArray t, .int (k : Int) u] (getItem (.bytes l.toArray t) (.int (k : Int) u)) := by with_unfolding_all rfl)
    (ht : ∀ r, letTemporaryGo value (.bytes l.toArray t) r = pure () := by intro _; with_unfolding_all rfl) : wpAny (model prog w) A (subscriptTail value slice (.bytes l.toArray t) (.int (k : Int) u)) Q E s := by
  have e : l.drop k = l[k] :: l.drop (k + 1) := List.drop_eq_getElem_cons h1
  exact b_item (n := k) rfl e (by omega) (fun t' kk => h _ t' kk (List.getElem_mem h1)) hs ht
end
theorem off_cons {p0 : Addr × Obj} {l : List (Addr × Obj)} {P C : Addr} (h : p0.1 ≠ P ∧ p0.1 ≠ C) (k : ∀ p ∈ l, p.1 ≠ P ∧ p.1 ≠ C) : ∀ p ∈ p0 :: l, p.1 ≠ P ∧ p.1 ≠ C := fun p hp => by
  rcases List.mem_cons.mp hp with rfl | hp
  · exact h
  · exact k p hp
theorem off_two {a b : Addr × Obj} {l : List (Addr × Obj)} {P C : Addr} (k : ∀ p ∈ l, p.1 ≠ P ∧ p.1 ≠ C) : ∀ p ∈ l, p ∈ a :: b :: l ∧ p.1 ≠ P ∧ p.1 ≠ C := fun p hp => ⟨.tail _ (.tail _ hp), k p hp⟩
theorem off_three {d a b : Addr × Obj} {l : List (Addr × Obj)} {P C : Addr} (h : d.1 ≠ P ∧ d.1 ≠ C) (k : ∀ p ∈ l, p.1 ≠ P ∧ p.1 ≠ C) : ∀ p ∈ d :: l, p ∈ d :: a :: b :: l ∧ p.1 ≠ P ∧ p.1 ≠ C := fun p hp => by
  rcases List.mem_cons.mp hp with rfl | hp
  · exact ⟨.head _, h⟩
  · exact ⟨.tail _ (.tail _ (.tail _ hp)), k p hp⟩
theorem off_one {a b p0 : Addr × Obj} {P C : Addr} (h1 : p0.1 ≠ P) (h2 : p0.1 ≠ C) : ∀ p ∈ [p0], p ∈ [a, b, p0] ∧ p.1 ≠ P ∧ p.1 ≠ C := fun p hp => by
  rw [List.mem_singleton.mp hp]; exact ⟨.tail _ (.tail _ (.head _)), h1, h2⟩
theorem off_comp {a b c p q : Addr × Obj} {l : List (Addr × Obj)} {P C : Addr} (h1 : a.1 ≠ P ∧ a.1 ≠ C) (h2 : b.1 ≠ P ∧ b.1 ≠ C) (h3 : c.1 ≠ P ∧ c.1 ≠ C) (k : ∀ p ∈ l, p.1 ≠ P ∧ p.1 ≠ C) : ∀ x ∈ a :: b :: c :: l, x ∈ a :: b :: c :: p :: q :: l ∧ x.1 ≠ P ∧ x.1 ≠ C := fun x hx => by
  rcases List.mem_cons.mp hx with rfl | hx
  · exact ⟨.head _, h1⟩
  rcases List.mem_cons.mp hx with rfl | hx
  · exact ⟨.tail _ (.head _), h2⟩
  rcases List.mem_cons.mp hx with rfl | hx
  · exact ⟨.tail _ (.tail _ (.head _)), h3⟩
  · exact ⟨.tail _ (.tail _ (.tail _ (.tail _ (.tail _ hx)))), k x hx⟩
theorem perm5 {a b c p q : Addr × Obj} {l : List (Addr × Obj)} : ∀ x ∈ a :: b :: c :: p :: q :: l, x ∈ p :: q :: a :: b :: c :: l := fun x hx => by
  rcases List.mem_cons.mp hx with rfl | hx
  · exact .tail _ (.tail _ (.head _))
  rcases List.mem_cons.mp hx with rfl | hx
  · exact .tail _ (.tail _ (.tail _ (.head _)))
  rcases List.mem_cons.mp hx with rfl | hx
  · exact .tail _ (.tail _ (.tail _ (.tail _ (.head _))))
  rcases List.mem_cons.mp hx with rfl | hx
  · exact .head _
  rcases List.mem_cons.mp hx with rfl | hx
  · exact .tail _ (.head _)
  · exact .tail _ (.tail _ (.tail _ (.tail _ (.tail _ hx))))
theorem off3_same {I C' D P C : Addr} {o1 o2 o1' o2' : Obj} {l : List (Addr × Obj)} (h : LCg.Off3 I C' D ((P, o1) :: (C, o2) :: l)) : LCg.Off3 I C' D ((P, o1') :: (C, o2') :: l) := LCg.Off3.of fun p hp => by
  rcases List.mem_cons.mp hp with rfl | hp
  · exact h.mem (P, o1) (.head _)
  rcases List.mem_cons.mp hp with rfl | hp
  · exact h.mem (C, o2) (.tail _ (.head _))
  · exact h.mem _ (.tail _ (.tail _ hp))
theorem in3 {a b c : Addr × Obj} {l : List (Addr × Obj)} : ∀ p ∈ [a, b, c], p ∈ a :: b :: c :: l := fun p hp => by
  rcases List.mem_cons.mp hp with rfl | hp
  · exact .head _
  rcases List.mem_cons.mp hp with rfl | hp
  · exact .tail _ (.head _)
  · rw [List.mem_singleton.mp hp]; exact .tail _ (.tail _ (.head _))
theorem in3' {a b c d : Addr × Obj} {l : List (Addr × Obj)} : ∀ p ∈ [a, b, c], p ∈ a :: b :: d :: c :: l := fun p hp => by
  rcases List.mem_cons.mp hp with rfl | hp
  · exact .head _
  rcases List.mem_cons.mp hp with rfl | hp
  · exact .tail _ (.head _)
  · rw [List.mem_singleton.mp hp]; exact .tail _ (.tail _ (.tail _ (.head _)))
theorem good_mono {l : List UInt8} {n k : Nat} (h : Good l n) (hk : n ≤ k) : Good l k := ⟨h.1, by have := h.2.1; omega, by have := h.2.2; omega⟩
theorem ints_snocB {ys : List Value} {cs : List UInt8} {c : UInt8} {t : Tok} (h : IntsAre ys (cs.map ofB)) : IntsAre (ys ++ [.int (c.toNat : Int) t]) ((cs ++ [c]).map ofB) := by
  rw [List.map_append]; exact IntsAre.snoc h
theorem mem_snoc {cs l : List UInt8} {c : UInt8} (h : ∀ c ∈ cs, c ∈ l) (hc : c ∈ l) : ∀ x ∈ cs ++ [c], x ∈ l := fun x hx => by
  rcases List.mem_append.mp hx with q | q
  · exact h x q
  · rw [List.mem_singleton.mp q]; exact hc
end Mine
end
section
open PySem PySem.W PySem.Spec PySem.Calls PyProof.Rows
namespace Mine
theorem fillX25 : (PySem.Challenge.rw_no0368_01, ltop.heap_1) = (PySem.Challenge.rw_no0368_01, ltop.heap_1) := by k_fill; rfl
theorem _root_.Mine.rowsX25_1 : True := by
  k_with_none
  k_with "subscriptTail" => (k_here; (with_reducible show wpAny _ _ (subscriptTail _ _ (Value.bytes _ _) (Value.int _ _)) _ _ _); k_dflt (refine b_item rfl (by assumption) (by assumption) ?_); intro _ _)
  k_with "subscriptTail" => (k_here; (with_reducible show wpAny _ _ (subscriptTail _ (Expr.Slice (some _) (some _) none _) (Value.bytes _ _) (Value.ref _)) _ _ _); (with_reducible rename Fr _ _ _ _ => F'); (with_reducible rename News _ _ _ _ => N'); k_dflt (refine b_slice (s := ⟨_, _, _, _, _⟩) F' N' (by constructor) (by constructor) (by assumption) (by first | exact cut1 rfl rfl (by assumption) | exact cut0 rfl rfl (by assumption) | exact cut2 rfl rfl (by assumption)) ?_); intro _ _ _ _ _)
  k_with "compareOp Eq bytes bytes" => (k_here; (with_reducible show wpAny _ _ (compareOp CmpOp.Eq (Value.bytes _ _) (Value.bytes _ _)) _ _ _); k_dflt (refine b_eq (by first | exact beq_cons_false (by assumption) | exact beq_self_true | exact (rfl : _ = false) | exact (rfl : _ = true)) ?_))
  k_with "compareOp NotEq bytes bytes" => (k_here; (with_reducible show wpAny _ _ (compareOp CmpOp.NotEq (Value.bytes _ _) (Value.bytes _ _)) _ _ _); k_dflt (refine b_ne (by first | exact bne_cons_true (by assumption) | exact bne_self_false | exact (rfl : _ = false) | exact (rfl : _ = true)) ?_))
  k_with "call builtin:len" => (k_here; (with_reducible show wpAny _ _ (call (Value.builtin "len") [Value.bytes _ _]) _ _ _); k_dflt (refine b_len (by assumption) ?_); intro _ _)
  k_with "compareOp In int bytes" => (k_here; (with_reducible show wpAny _ _ (compareOp CmpOp.In (Value.int _ _) (Value.bytes _ _)) _ _ _); k_dflt (refine b_in rfl (by first | assumption | rfl) ?_))
  k_with "exec Raise some none" => (k_here; k_dflt (refine raise_wf (by assumption) ?_))
  k_with "ktr_unf" => ((refine' enter (by assumption) ?k6 ?k7 ?k9 ?kl ?c2 ?c3 ?c4 ?c5 ?_); (case k6 => k_is); (case k7 => k_is); (case k9 => exact BindsTo.of_eq rfl); (case kl => exact locs rfl); (case c2 => exact rfl); (case c3 => exact rfl); (case c4 => exact rfl); (case c5 => decide); intro A le L h₁ hh B hd hu X T F N; (try (have hHd := hh rfl)); (try k_unmd); (try dsimp only); k_fold)
  k_with "ktr_rel" => ((try dsimp only); (refine ret_end (by assumption) ?_))
  k_with "call ref" => (k_here; (with_reducible show wpAny _ _ (call (Value.ref 59) _) _ _ _); k_dflt (refine wf_make_K (by assumption) (by assumption) (by assumption) (by omega) (by first | exact .inr ⟨_, _, rfl⟩ | exact .inl rfl) ?_); intro h' tk' e' H'; k_dflt (refine leave_new (by assumption) (by assumption) H' rfl ?_))
  k_with "ite" => (k_here; k_dflt (first
    | (refine ite_pos (by first | omega | (simp only [decide_eq_true_eq, beq_iff_eq, bne_iff_ne, ne_eq, Bool.and_eq_true, Bool.or_eq_true, Bool.not_eq_true', decide_eq_false_iff_not, beq_eq_false_iff_ne]; omega) | exact beq_self_eq_true _) ?_; walk_say "PRUNED here")
    | (refine ite_neg (by first | omega | (simp only [decide_eq_true_eq, beq_iff_eq, bne_iff_ne, ne_eq, Bool.and_eq_true, Bool.or_eq_true, Bool.not_eq_true', decide_eq_false_iff_not, beq_eq_false_iff_ne]; omega) | exact beq_self_eq_true _) ?_; walk_say "PRUNED here")))
  k_with "compareOp In int ref" => (k_here; (with_reducible show wpAny _ _ (compareOp CmpOp.In (Value.int _ _) (Value.ref 62)) _ _ _); k_dflt (refine in_nev (by assumption) (by assumption) ?_))
  k_with "exec While Compare" => (k_here; (with_reducible show wpAny _ _ (exec (Stmt.While _ _ _ _) _) _ _ _); (refine hold ?_); walk_say "HELD")
  k_with "assign Tuple" => (k_here; (with_reducible show wpAny _ _ (assign (Expr.Tuple _ _ _) _ (Value.ref _)) _ _ _); k_dflt (refine unpackN_ (by k_asm) (by k_asm) (News.isTup (by k_asm) (by k_mem)) (by assumption) rfl rfl ?_); intro h' F' N'; (try k_sweep))
  k_with "call builtin:list.append" => (k_here; (with_reducible show wpAny _ _ (call (Value.builtin _) [Value.ref _, _]) _ _ _); k_dflt (refine' append_K (by k_asm) (by k_asm) (by k_upd) ?_ (by first | size_fits | (rw [sizeLine_eq]; show List.length _ ≤ _; omega)); k_whole); intro h' F' N'; (try simp only [List.push_toArray] at N'); (try k_sweep))
  k_with "pyIter bytes" => (k_here; (refine hold ?_); walk_say "HELD")
  trivial
theorem News.get2 {g h : Heap} {L D : Addr} {o : Obj} {news : List (Addr × Obj)} (N : News g L h ((D, o) :: news)) : h.get? D = some o ∧ g.get? D = none := ⟨(N _ (.head _)).1, (N _ (.head _)).2.2⟩
theorem pieces_spec {w : World} {mean : ExcName → Option Value} {mg mb : Str → Option Value} {base : Heap} {s : Shared} (hb : Bas w mean mg mb base) :
    Spec w base 185 [] false 3 50 s (fun v h' => ∃ D vs ep, v = .ref D ∧ s.heap.get? D = none ∧ h'.get? D = some (listOf (List.toArray vs) ep) ∧ BytesAre vs pieces) False := by
  ktr_unf
  k_steps
  all_goals ktr_rel
  all_goals exact ⟨_, _, _, rfl, (News.get2 (by assumption)).2, (News.get2 (by assumption)).1, by unfold pieces; repeat (first | exact BytesAre.nil | refine BytesAre.cons ?_)⟩
section
variable {w : World} {mean : ExcName → Option Value} {mg mb : Str → Option Value} {base g : Heap} {s : Shared} {A : Around} {l : List Env} {L : Addr} {m : Str → Option Value} {news : List (Addr × Obj)} {Q E : Value → Shared → Prop} {env : Env}
theorem call_pieces (hb : Bas w mean mg mb base) (B : Below A base l g) (F : Fr g L s.heap m) (N : News g L s.heap news) (hh : A.handled = none) (hf : env.frame = some L) (hk : env.scope.kind = .function) (hd : (A.deeper env).depth + 3 < recursionLimit) (hu : (A.deeper env).units + 50 < cLine)
    (ret : ∀ D vs ep h' tk', BytesAre vs pieces → Fr g L h' m → News g L h' ((D, listOf (List.toArray vs) ep) :: news) → (∀ p ∈ news, p.1 ≠ D) → Q (.ref D) { s with heap := h', toks := tk' }) :
    wpAny (model PySem.Challenge.rw_no0368_01.row.toRowW.prog w) (A.deeper env) (call (.ref 185) []) Q E s := by
  refine call_specE (pieces_spec hb) B F N (fun _ => hh) hf hk hd hu fun r h' tk' F' N' K hr => ?_
  obtain ⟨D, vs, ep, rfl, hD, ho, hB⟩ := hr
  exact ret D vs ep h' tk' hB F' (news_cons' F hD N' ho) (news_ne N hD)
end
end Mine
end
section
open PySem PySem.W PySem.Spec PySem.Calls PyProof.Rows
namespace Mine
theorem fillX26 : (PySem.Challenge.rw_no0368_01, ltop.heap_1) = (PySem.Challenge.rw_no0368_01, ltop.heap_1) := by k_fill; rfl
theorem _root_.Mine.rowsX26_1 : True := by
  k_with_none
  k_with "eval ListComp" => (k_here; (with_reducible show wpAny _ _ (eval (Expr.ListComp _ _ _ _) _) _ _ _); (refine hold ?_); walk_say "HELD")
  k_with "call ref" => (k_here; (with_reducible show wpAny _ _ (call (Value.ref 178) _) _ _ _); (refine hold ?_); walk_say "HELD")
  k_with "pyIter ref" => (k_here; (refine hold ?_); walk_say "HELD")
  k_with "call ref" => (k_here; (with_reducible show wpAny _ _ (call (Value.ref 185) _) _ _ _); (refine hold ?_); walk_say "HELD")
  k_with "subscriptTail" => (k_here; (with_reducible show wpAny _ _ (subscriptTail _ _ (Value.ref _) (Value.int _ _)) _ _ _); k_dflt (refine l_pieces (by is_list) (by assumption) (by omega) ?_); intro _ _ _ _)
  k_with "subscriptTail" => (k_here; (with_reducible show wpAny _ _ (subscriptTail _ _ (Value.bytes _ _) (Value.int _ _)) _ _ _); k_dflt (refine b_any (by show _ < 20; omega) (by decide) ?_); intro _ _ _ _)
  k_with "binaryOp Add bytes bytes" => (k_here; (with_reducible show wpAny _ _ (binaryOp Operator.Add (Value.bytes _ _) (Value.bytes _ _)) _ _ _); k_dflt (refine b_add (by first | omega | (simp only [List.length_append, List.length_cons, List.length_nil]; omega)) ?_); intro _ _)
  k_with "call type:bytes" => (k_here; (with_reducible show wpAny _ _ (call (Value.type _) [Value.ref _]) _ _ _); k_dflt (refine s_bytes (by assumption) (by assumption) (by assumption) (by is_list) (by assumption) (by omega) ?_); intro _ _ _ _ _)
  k_with "ktr_rel" => ((try dsimp only); (refine retP_end (by assumption) (by assumption) ?_))
  trivial
structure OcSt where
  vs : List Value
  st : Int
  t1 : Tok
  pl : Nat
  t2 : Tok
  e1 : Nat
  e2 : Nat
  l : List UInt8
  t : Tok
noncomputable def OctRet (P C : Addr) (pl : Nat) (v : Value) (h' : Heap) : Prop := ∃ l t pl', v = .bytes (List.toArray l) t ∧ Good l 6 ∧ pl' ≤ pl + 60 ∧ Pot h' P C pl'
section
variable {w : World} {mean : ExcName → Option Value} {mg mb : Str → Option Value} {base : Heap} {s : Shared} {P C : Addr} {pl : Nat}
theorem octets_spec (hb : Bas w mean mg mb base) (hp : Pot s.heap P C pl) (hpl : pl ≤ 100) :
    SpecP w base 190 [.ref P] 40 800 s P C (OctRet P C pl) := by
  obtain ⟨vs, st, t1, t2, e1, e2, hne, hP, hC, hi, hs0, hv⟩ := hp
  refine' enterPc (by assumption) (by assumption) (by assumption) ?k6 ?k7 ?k9 ?kB ?kD ?c2 ?c3 ?c4 ?_
  case k6 => k_is
  case k7 => k_is
  case k9 => exact BindsTo.of_eq rfl
  case kB => exact rfl
  case kD => decide +kernel
  case c2 => exact rfl
  case c3 => exact rfl
  case c4 => exact rfl
  intro A le L h₁ g tk cells hH B hd hu hg X T F N Y cn
  k_unmd
  (try dsimp only)
  obtain ⟨oc, hE, d1⟩ := CellsAre.one Y
  subst hE
  obtain ⟨cn1, cn2⟩ := cn _ (.head _)
  clear Y cn
  (try k_fold)
  k_steps
  have hd20 : A.depth + 1 + 20 < recursionLimit := by omega
  have hu400 : A.units + 3 + 400 < cLine := by omega
  refine unhold ?_
  refine call_draw (lim := 7) hb hne B (by assumption) (by assumption) (.head _) (.tail _ (.head _)) hi hs0 hv (by omega) rfl (by decide) (by decide) (off_one cn1 cn2) hH rfl rfl hd20 hu400 ?_
  intro n0 tn vs st ta tb e1 e2 h2 tk2 hn0 hi hs0 hv F N
  k_unmd
  (try k_fold)
  k_steps
  refine unhold ?_
  refine kst_range (σ := OcSt) (n := n0) (fun c => [(P, potObj C c.st c.t1 c.pl c.t2 c.e1), (C, listOf (List.toArray c.vs) c.e2), (L + 1, oc)]) (fun c => [(Str.ofString "octets", .bytes (List.toArray c.l) c.t)]) (fun _ => True) []
    (fun pre c => NatsAre c.vs ∧ 0 ≤ c.st ∧ c.vs.length ≤ 63 ∧ Good c.l pre.length ∧ c.pl ≤ pl + 1 + 8 * pre.length) ⟨vs, st, ta, pl + 1, tb, e1, e2, [], ?tt⟩ hH (by assumption) (range_small (by omega)) (range_size _) (by assumption) (by assumption) trivial ?hk ⟨hi, hs0, hv, good_nil, by simp⟩ ?turn ?done
  case hk => exact List.forall_mem_singleton.mpr (by with_unfolding_all rfl)
  case turn =>
    intro c pre kk t u h tk' own hkk hlt hoff _ hp F N
    obtain ⟨vs, st, ta, plc, tb, e1, e2, lo, to⟩ := c
    dsimp only at hp F N hoff
    obtain ⟨hi, hs0, hv, hG, hpl2⟩ := hp
    have hoff3 : ∀ p ∈ (L + 1, oc) :: own, p.1 ≠ P ∧ p.1 ≠ C := off_cons ⟨cn1, cn2⟩ fun p hp => ⟨hoff p hp P (.head _), hoff p hp C (.tail _ (.head _))⟩
    simp only [List.cons_append, List.nil_append] at N
    have hll : lo.length ≤ 77 := by have := hG.2.1; omega
    k_unmd
    (try k_fold)
    k_steps
    refine unhold ?_
    refine call_draw (lim := 4) hb hne B (by assumption) (by assumption) (.head _) (.tail _ (.head _)) hi hs0 hv (by omega) rfl (by decide) (by decide) (off_two hoff3) hH rfl rfl hd20 hu400 ?_
    intro k4 t4 vs st ta tb e1 e2 h4 tk4 hk4 hi hs0 hv F N
    k_unmd
    (try k_fold)
    k_steps
    · refine unhold ?_
      refine comp_eval (by with_unfolding_all rfl) rfl (by decide) ?_
      k_steps
      refine unhold ?_
      refine call_draw (lim := 6) hb hne B (by assumption) (by assumption) (.head _) (.tail _ (.head _)) hi hs0 hv (by omega) rfl (by decide) (by decide) (off_two hoff3) hH rfl rfl hd20 hu400 ?_
      intro n6 t6 vs st ta tb e1 e2 h6 tk6 hn6 hi hs0 hv F N
      k_unmd
      (try k_fold)
      k_steps
      refine comp_range (n := n6) (fun i ys nw => ∃ (vs : List Value) (st : Int) (ta tb : Tok) (e1 e2 plx : Nat) (cs : List UInt8), nw = (P, potObj C st ta plx tb e1) :: (C, listOf (List.toArray vs) e2) :: (L + 1, oc) :: own ∧ NatsAre vs ∧ 0 ≤ st ∧ vs.length ≤ 63 ∧ plx ≤ plc + 2 + i ∧ IntsAre ys (cs.map ofB) ∧ cs.length ≤ i ∧ ∀ c ∈ cs, c ∈ lsigns) (EC := fun _ _ _ => False) hH (by assumption) (by assumption) (by assumption) (range_small (by omega)) (range_size _) (by omega) (by decide) rfl rfl ⟨vs, st, ta, tb, e1, e2, plc + 1 + 1, [], rfl, hi, hs0, hv, by omega, .nil, Nat.le_refl _, fun c h => by cases h⟩ ?cturn (fun D C e s' h hf => hf.elim) ?cfin
      case cturn =>
        intro i ys uu nw I oI C' oC D m₂ h tk hi6 hyl hJ hC hv2 F N o ne
        obtain ⟨vs, st, ta, tb, e1, e2, plx, cs, rfl, hi, hs0, hv, hplx, hIn, hcl, hcs⟩ := hJ
        have oo := o.mem
        refine wpAny_tests_nil ?_
        simp only [if_true]
        k_unmd
        (try k_fold)
        k_steps
        refine unhold ?_
        have zP := oo (P, _) (.head _)
        have zC := oo (C, _) (.tail _ (.head _))
        refine call_draw (lim := 20) hb hne B (by assumption) (by assumption) (.tail _ (.tail _ (.tail _ (.head _)))) (.tail _ (.tail _ (.tail _ (.tail _ (.head _))))) hi hs0 hv (by omega) rfl (by decide) (by decide) (off_comp ⟨Ne.symm zP.1, Ne.symm zC.1⟩ ⟨Ne.symm zP.2.1, Ne.symm zC.2.1⟩ ⟨Ne.symm zP.2.2, Ne.symm zC.2.2⟩ hoff3) hH rfl rfl hd20 hu400 ?_
        intro k20 t20 vs st ta tb e1 e2 h20 tk20 hk20 hi hs0 hv F N
        k_unmd
        (try k_fold)
        k_steps
        all_goals exact CEnd.intro (by assumption) (by assumption) _ perm5 (off3_same o) ⟨vs, st, ta, tb, e1, e2, plx + 1, cs ++ [_], rfl, hi, hs0, hv, by omega, ints_snocB hIn, by rw [List.length_append, List.length_singleton]; omega, mem_snoc hcs (by assumption)⟩
      case cfin =>
        intro D ys nw h tk hyl hJ F N o
        obtain ⟨vs, st, ta, tb, e1, e2, plx, cs, rfl, hi, hs0, hv, hplx, hIn, hcl, hcs⟩ := hJ
        k_unmd
        (try k_fold)
        k_steps
        all_goals exact kst_end ⟨vs, st, ta, plx, tb, e1, e2, lo ++ cs, _⟩ (by assumption) (by assumption) (fun p hp => .tail _ (in3 p hp)) (fun p hp => .tail _ (.tail _ (.tail _ (.tail _ hp)))) rfl trivial (by kst_all) (fun z h1 h2 h3 => (same_tac (h2 _ (.head _)) h1).trans (kst1_rest (h2 _ (.head _)) h3)) ⟨hi, hs0, hv, by rw [List.length_append, List.length_singleton]; exact good_app hG (signs_good hcs (by omega)), by rw [List.length_append, List.length_singleton]; dsimp only; omega⟩
    · refine unhold ?_
      refine call_pieces hb B (by assumption) (by assumption) hH rfl rfl (by show A.depth + 1 + 3 < _; omega) (by show A.units + 3 + 50 < _; omega) ?_
      intro D vsp epp hp tkp hBp F N nD
      have zP := nD _ (.head _)
      have zC := nD _ (.tail _ (.head _))
      k_unmd
      (try k_fold)
      k_steps
      refine unhold ?_
      refine call_draw (lim := 25) hb hne B (by assumption) (by assumption) (.tail _ (.head _)) (.tail _ (.tail _ (.head _))) hi hs0 hv (by omega) rfl (by decide) (by decide) (off_three ⟨Ne.symm zP, Ne.symm zC⟩ hoff3) hH rfl rfl hd20 hu400 ?_
      intro k25 t25 vs st ta tb e1 e2 h25 tk25 hk25 hi hs0 hv F N
      k_unmd
      (try k_fold)
      k_steps
      all_goals exact kst_end ⟨vs, st, ta, _, tb, e1, e2, lo ++ _, _⟩ (by assumption) (by assumption) in3' (fun p hp => .tail _ (.tail _ (.tail _ (.tail _ hp)))) rfl trivial (by kst_all) (fun z h1 h2 h3 => (same_tac (h2 _ (.head _)) h1).trans (kst1_rest (h2 _ (.head _)) h3)) ⟨hi, hs0, hv, by rw [List.length_append, List.length_singleton]; exact good_app hG (by assumption), by rw [List.length_append, List.length_singleton]; dsimp only; omega⟩
  case done =>
    intro c u h tk _ hp F N
    obtain ⟨vs, st, ta, plc, tb, e1, e2, lo, to⟩ := c
    dsimp only at hp F N
    rw [rangeKs_length] at hp
    obtain ⟨hi, hs0, hv, hG, hpl2⟩ := hp
    dsimp only
    k_unmd
    (try k_fold)
    k_steps
    all_goals ktr_rel
    all_goals exact ⟨lo, _, plc, rfl, good_mono hG (by omega), by omega, vs, st, ta, tb, e1, e2, hne, (N _ (.head _)).1, (N _ (.tail _ (.head _))).1, hi, hs0, hv⟩
end
end Mine
end
section
open PySem PySem.W PySem.Spec PySem.Calls PyProof.Rows
namespace Mine
noncomputable def tsigns : List UInt8 := [97, 98, 46, 64, 91, 93, 34, 92, 32, 9, 1, 233]
noncomputable def tails : List (List UInt8) := [[64, 98], [64, 91, 99, 93], [], [64, 91, 92, 93], [64]]
theorem lit_tsigns : Str.ofString "ab.\x40[]\"\\ \t\x01é" = strB tsigns := by decide +kernel
theorem lit_t1 : Str.ofString "@b" = strB [64, 98] := by decide +kernel
theorem lit_t2 : Str.ofString "\x40[c]" = strB [64, 91, 99, 93] := by decide +kernel
theorem lit_t4 : Str.ofString "\x40[\\]" = strB [64, 91, 92, 93] := by decide +kernel
theorem tails_are {a b c d e : Tok} : StrsAre [.str (Str.ofString "@b") a, .str (Str.ofString "\x40[c]") b, .str (Str.ofString "") c, .str (Str.ofString "\x40[\\]") d, .str (Str.ofString "@") e] (tails.map strB) := by
  rw [lit_t1, lit_t2, lit0, lit_t4, lit64]
  exact .cons _ _ (.cons _ _ (.cons _ _ (.cons _ _ (.cons _ _ .nil))))
section
variable {prog : Program} {w : World} {A : Around} {E : Value → Shared → Prop} {s : Shared} {t u : Tok} {Q : Value → Shared → Prop} {value slice : PySem.Expr} {D : Addr} {vs : List Value} {l a b : List UInt8} {k : Nat} {x : Str}
theorem s_any (hx : x = strB l) (h1 : k < l.length) (hz : l.length ≤ 1000) (h : ∀ c t' kk, Q (.str (chB c) t') { s with toks := kk })
    (hs : subscripted slice false (.str x t) (.int (k : Int) u) = operate [.str x t, .int (k : Int) u] (getItem (.str x t) (.int (k : Int) u)) := by with_unfolding_all rfl)
    (ht : ∀ r, letTemporaryGo value (.str x t) r = pure () := by intro _; with_unfolding_all rfl) : wpAny (model prog w) A (subscriptTail value slice (.str x t) (.int (k : Int) u)) Q E s := by
  have g : wpAny (model prog w) A (getItem (.str x t) (.int (k : Int) u)) Q E s := by
    subst hx
    refine PySem.P.getItem_str (c := (l[k]).toNat) (by simp only [Bool.or_eq_false_iff, decide_eq_false_iff_not]; omega) (StrLaws.at_nonneg (by omega) ?_) (h _ _ _)
    show ((l.map UInt8.toNat).toArray)[((k : Int)).toNat]? = _
    rw [Int.toNat_natCast, List.getElem?_toArray, List.getElem?_map, List.getElem?_eq_getElem h1]; rfl
  exact tail_of_ItemOn ⟨"str", _, PySem.F.slot_str_getitem.lookup, typeIs_str _ _ _, g⟩ hs ht
theorem s_tails (hl : s.heap.IsList D vs.toArray) (hn : StrsAre vs (tails.map strB)) (h1 : k < 5) (h : ∀ b t, b.length ≤ 4 → Q (.str (strB b) t) s)
    (hs : subscripted slice false (.ref D) (.int (k : Int) u) = operate [.ref D, .int (k : Int) u] (getItem (.ref D) (.int (k : Int) u)) := by with_unfolding_all rfl)
    (ht : ∀ r, letTemporaryGo value (.ref D) r = pure () := by intro _; with_unfolding_all rfl) : wpAny (model prog w) A (subscriptTail value slice (.ref D) (.int (k : Int) u)) Q E s := by
  refine item_strsA hl hn (by omega) (by show _ < ((5 : Nat) : Int); omega) (by omega) (fun t' => ?_) hs ht
  have hk : k < tails.length := h1
  have e : (tails.map strB).getD ((k : Int).toNat) Str.empty = strB (tails[k]) := by
    rw [Int.toNat_natCast, List.getD_eq_getElem?_getD, List.getElem?_map, List.getElem?_eq_getElem hk]; rfl
  rw [e]
  have : ∀ b ∈ tails, b.length ≤ 4 := by decide
  exact h _ _ (this _ (List.getElem_mem hk))
theorem strB_app (a b : List UInt8) : strB a ++ strB b = strB (a ++ b) := by
  refine strB_eq ?_
  rw [PySem.Str.cps_append, Array.toList_append, strB_list, strB_list, List.map_append]
theorem s_add (hsz : a.length + b.length ≤ 65536) (h : ∀ t' k, Q (.str (strB (a ++ b)) t') { s with toks := k }) : wpAny (model prog w) A (binaryOp .Add (.str (strB a) t) (.str (strB b) u)) Q E s :=
  PyProof.Rows.add_str (fun t' tk => by rw [strB_app]; exact h t' tk) (by rw [strB_len, strB_len, sizeLine_eq]; omega)
theorem s_addL {y : Str} (hy : y = strB b) (hsz : a.length + b.length ≤ 65536) (h : ∀ t' k, Q (.str (strB (a ++ b)) t') { s with toks := k }) : wpAny (model prog w) A (binaryOp .Add (.str (strB a) t) (.str y u)) Q E s := by
  subst hy; exact s_add hsz h
end
theorem strs_snocB {ys : List Value} {cs : List UInt8} {c : UInt8} {t : Tok} (h : StrsAre ys (cs.map chB)) : StrsAre (ys ++ [.str (chB c) t]) ((cs ++ [c]).map chB) := by
  rw [List.map_append]; exact StrsAre.snoc h
theorem off_text {x d a b : Addr × Obj} {l : List (Addr × Obj)} {P C : Addr} (h1 : P < x.1) (h2 : C < x.1) (k : ∀ p ∈ l, p.1 ≠ P ∧ p.1 ≠ C) : ∀ p ∈ x :: l, p ∈ x :: d :: a :: b :: l ∧ p.1 ≠ P ∧ p.1 ≠ C := fun p hp => by
  rcases List.mem_cons.mp hp with rfl | hp
  · exact ⟨.head _, Nat.ne_of_gt h1, Nat.ne_of_gt h2⟩
  · exact ⟨.tail _ (.tail _ (.tail _ (.tail _ hp))), k p hp⟩
end Mine
end
section
open PySem PySem.W PySem.Spec PySem.Calls PyProof.Rows
namespace Mine
theorem fillX27 : (PySem.Challenge.rw_no0368_01, ltop.heap_1) = (PySem.Challenge.rw_no0368_01, ltop.heap_1) := by k_fill; rfl
theorem _root_.Mine.rowsX27_1 : True := by
  k_with_none
  k_with "eval ListComp" => (k_here; (with_reducible show wpAny _ _ (eval (Expr.ListComp _ _ _ _) _) _ _ _); (refine hold ?_); walk_say "HELD")
  k_with "call ref" => (k_here; (with_reducible show wpAny _ _ (call (Value.ref 178) _) _ _ _); (refine hold ?_); walk_say "HELD")
  k_with "pyIter ref" => (k_here; (refine hold ?_); walk_say "HELD")
  k_with "call builtin:chr" => (k_here; (with_reducible show wpAny _ _ (call (Value.builtin _) [Value.int _ _]) _ _ _); k_dflt (refine chr_b ?_))
  k_with "call builtin:str.join" => (k_here; (with_reducible show wpAny _ _ (call (Value.builtin _) [Value.str _ _, Value.ref _]) _ _ _); k_dflt (refine join_chars (by is_list) (by assumption) ofs_empty (by first | omega | (simp only [List.length_append, List.length_cons, List.length_nil]; omega)) ?_); intro _ _)
  k_with "subscriptTail" => (k_here; (with_reducible show wpAny _ _ (subscriptTail _ _ (Value.str _ _) (Value.int _ _)) _ _ _); k_dflt (refine s_any lit_tsigns (by show _ < 12; omega) (by decide) ?_); intro _ _ _)
  k_with "subscriptTail" => (k_here; (with_reducible show wpAny _ _ (subscriptTail _ _ (Value.ref _) (Value.int _ _)) _ _ _); k_dflt (refine s_tails (by is_list) tails_are (by omega) ?_); intro _ _ _)
  k_with "binaryOp Add str str" => (k_here; (with_reducible show wpAny _ _ (binaryOp Operator.Add (Value.str _ _) (Value.str _ _)) _ _ _); k_dflt (first | with_reducible refine s_add (by omega) ?_ | with_reducible refine s_addL lit_t1 (by simp only [List.length_cons, List.length_nil]; omega) ?_ | with_reducible refine s_addL lit_t2 (by simp only [List.length_cons, List.length_nil]; omega) ?_ | with_reducible refine s_addL lit_t4 (by simp only [List.length_cons, List.length_nil]; omega) ?_ | with_reducible refine s_addL lit64 (by simp only [List.length_cons, List.length_nil]; omega) ?_ | with_reducible refine s_addL lit0 (by simp only [List.length_cons, List.length_nil]; omega) ?_); intro _ _)
  k_with "ktr_rel" => ((try dsimp only); (refine retP_end (by assumption) (by assumption) ?_))
  trivial
noncomputable def TextRet (P C : Addr) (v : Value) (h' : Heap) : Prop := ∃ p t pl', v = .str (strB p) t ∧ p.length ≤ 8 ∧ Pot h' P C pl'
section
variable {w : World} {mean : ExcName → Option Value} {mg mb : Str → Option Value} {base : Heap} {s : Shared} {P C : Addr} {pl : Nat}
theorem text_spec (hb : Bas w mean mg mb base) (hp : Pot s.heap P C pl) (hpl : pl ≤ 500) :
    SpecP w base 235 [.ref P] 40 800 s P C (TextRet P C) := by
  obtain ⟨vs, st, t1, t2, e1, e2, hne, hP, hC, hi, hs0, hv⟩ := hp
  refine' enterPc (by assumption) (by assumption) (by assumption) ?k6 ?k7 ?k9 ?kB ?kD ?c2 ?c3 ?c4 ?_
  case k6 => k_is
  case k7 => k_is
  case k9 => exact BindsTo.of_eq rfl
  case kB => exact rfl
  case kD => decide +kernel
  case c2 => exact rfl
  case c3 => exact rfl
  case c4 => exact rfl
  intro A le L h₁ g tk cells hH B hd hu hg X T F N Y cn
  k_unmd
  (try dsimp only)
  obtain ⟨oc, od, hE, d1, d2⟩ := CellsAre.two Y
  subst hE
  obtain ⟨cn1, cn2⟩ := cn _ (.head _)
  obtain ⟨dn1, dn2⟩ := cn _ (.tail _ (.head _))
  clear Y cn
  (try k_fold)
  k_steps
  rename Obj => oS
  rename News _ _ _ _ => N
  simp only [List.cons_append, List.nil_append] at N
  have hoff : ∀ p ∈ [((L + 1 + 1 : Addr), oS), (L + 1, od)], p.1 ≠ P ∧ p.1 ≠ C := off_cons ⟨cn1, cn2⟩ (off_cons ⟨dn1, dn2⟩ (fun p hp => by cases hp))
  have hd20 : A.depth + 1 + 20 < recursionLimit := by omega
  have hu400 : A.units + 3 + 400 < cLine := by omega
  refine unhold ?_
  refine comp_eval (by with_unfolding_all rfl) rfl (by decide) ?_
  k_steps
  refine unhold ?_
  refine call_draw (lim := 5) hb hne B (by assumption) (by assumption) (.head _) (.tail _ (.head _)) hi hs0 hv (by omega) rfl (by decide) (by decide) (off_two hoff) hH rfl rfl hd20 hu400 ?_
  intro n5 t5 vs st ta tb e1 e2 h5 tk5 hn5 hi hs0 hv F N
  k_unmd
  (try k_fold)
  k_steps
  refine comp_range (n := n5) (fun i ys nw => ∃ (vs : List Value) (st : Int) (ta tb : Tok) (e1 e2 plx : Nat) (cs : List UInt8), nw = (P, potObj C st ta plx tb e1) :: (C, listOf (List.toArray vs) e2) :: [((L + 1 + 1 : Addr), oS), (L + 1, od)] ∧ NatsAre vs ∧ 0 ≤ st ∧ vs.length ≤ 63 ∧ plx ≤ pl + 1 + i ∧ StrsAre ys (cs.map chB) ∧ cs.length ≤ i) (EC := fun _ _ _ => False) hH (by assumption) (by assumption) (by assumption) (range_small (by omega)) (range_size _) (by omega) (by decide) rfl rfl ⟨vs, st, ta, tb, e1, e2, pl + 1, [], rfl, hi, hs0, hv, by omega, .nil, Nat.le_refl _⟩ ?cturn (fun D C e s' h hf => hf.elim) ?cfin
  case cturn =>
    intro i ys uu nw I oI C' oC' D m₂ h tk hi6 hyl hJ hC' hv2 F N o ne
    obtain ⟨vs, st, ta, tb, e1, e2, plx, cs, rfl, hi, hs0, hv, hplx, hSt, hcl⟩ := hJ
    have oo := o.mem
    refine wpAny_tests_nil ?_
    simp only [if_true]
    k_unmd
    (try k_fold)
    k_steps
    refine unhold ?_
    have zP := oo (P, _) (.head _)
    have zC := oo (C, _) (.tail _ (.head _))
    refine call_draw (lim := 12) hb hne B (by assumption) (by assumption) (.tail _ (.tail _ (.tail _ (.head _)))) (.tail _ (.tail _ (.tail _ (.tail _ (.head _))))) hi hs0 hv (by omega) rfl (by decide) (by decide) (off_comp ⟨Ne.symm zP.1, Ne.symm zC.1⟩ ⟨Ne.symm zP.2.1, Ne.symm zC.2.1⟩ ⟨Ne.symm zP.2.2, Ne.symm zC.2.2⟩ hoff) hH rfl rfl hd20 hu400 ?_
    intro k12 t12 vs st ta tb e1 e2 h12 tk12 hk12 hi hs0 hv F N
    k_unmd
    (try k_fold)
    k_steps
    all_goals exact CEnd.intro (by assumption) (by assumption) _ perm5 (off3_same o) ⟨vs, st, ta, tb, e1, e2, plx + 1, cs ++ [_], rfl, hi, hs0, hv, by omega, strs_snocB hSt, by rw [List.length_append, List.length_singleton]; omega⟩
  case cfin =>
    intro D ys nw h tk hyl hJ F N o
    obtain ⟨vs, st, ta, tb, e1, e2, plx, cs, rfl, hi, hs0, hv, hplx, hSt, hcl⟩ := hJ
    simp only [List.cons_append, List.nil_append]
    k_unmd
    (try k_fold)
    k_steps
    rename _ < _ ∧ _ => l1
    refine unhold ?_
    refine call_draw (lim := 5) hb hne B (by assumption) (by assumption) (.tail _ (.tail _ (.head _))) (.tail _ (.tail _ (.tail _ (.head _)))) hi hs0 hv (by omega) rfl (by decide) (by decide) (off_text l1.2.1 l1.2.2.1 hoff) hH rfl rfl hd20 hu400 ?_
    intro k6 t6 vs st ta tb e1 e2 h6 tk6 hk6 hi hs0 hv F N
    have N0 := N
    k_unmd
    (try k_fold)
    k_steps
    all_goals ktr_rel
    all_goals exact ⟨_, _, plx + 1, rfl, by simp only [List.length_append, List.length_cons, List.length_nil]; omega, vs, st, ta, tb, e1, e2, hne, (N0 _ (.head _)).1, (N0 _ (.tail _ (.head _))).1, hi, hs0, hv⟩
end
end Mine
end
section
open PySem PySem.W PySem.Spec PySem.Calls PyProof.Rows
namespace Mine
/-- the rest of a comprehension that a name takes -/
noncomputable def CompAtA (prog : Program) (w : World) (A : Around) (elt iter : Expr) (ifs : List Expr) (x : Str) (px : Pos) (scope : Scope) (cl : List (Str × Addr)) (pos : Pos) (env : Env) (y : Str) (py : Pos) (Q : Flow → Shared → Prop) (E : Value → Shared → Prop) (xv : Value) (s₁ : Shared) : Prop :=
  wpAny (model prog w) A (pyIter xv) (fun it s₂ => wpAny (model prog w) A (newList []) (fun acc s₃ => wpAny (model prog w) A (newFunctionEnv scope env.globals cl [] env.qual none .none (some env)) (fun cenv s₄ =>
    codeAny (model prog w) A (.compStart (.ListComp elt [⟨.Name x px, iter, ifs, 0⟩] scope pos) 0 it acc { cenv with scope := relabel scope env }) (compPost (model prog w) A E (some (assign (.Name y py) env)) (fun _ s' => Q .next s') acc cenv.locals) s₄) E s₃) E s₂) E s₁
section
variable {prog : Program} {w : World} {A : Around} {E : Value → Shared → Prop} {s : Shared} {g : Heap} {m : Str → Option Value} {env : Env} {elt iter : Expr} {ifs : List Expr} {x y : Str} {px py : Pos} {scope : Scope} {cl : List (Str × Addr)} {pos spos : Pos} {Q : Flow → Shared → Prop} {news : List (Addr × Obj)} {EC : Addr → Value → Shared → Prop}
theorem comp_assign (hsw : swapsWith (.ListComp elt [⟨.Name x px, iter, ifs, 0⟩] scope pos) (some (.Name y py)) spos.line env = pure true) (hclos : closureFor scope env = pure cl) (hkind : scope.kind = .function) (hnames : ∀ z ∈ scope.names, z.2 = .local → scope.names.lookup z.1 = some .local)
    (h : wpAny (model prog w) A (eval iter env) (CompAtA prog w A elt iter ifs x px scope cl pos env y py Q E) E s)
    (hs : ∀ x, foldedSetIterable iter env x = pure x := by intro _; rfl) :
    wpAny (model prog w) A (exec (.Assign [.Name y py] (.ListComp elt [⟨.Name x px, iter, ifs, 0⟩] scope pos) spos) env) Q E s := by
  rw [exec_Assign_Name_used _ _ _ _ hsw]
  refine wpAny_bind (wpAny_standAt (wpAny_bind ?_))
  show wpAny _ A (do let _ ← comprehension (.ListComp elt [⟨.Name x px, iter, ifs, 0⟩] scope pos) scope env _ (newList []) false (eval iter env) (some (assign (.Name y py) env))) _ _ s
  exact wpAny_bind (wpAny_mono (wpAny_comprehension_free (use := some (assign (.Name y py) env)) (Q := fun _ s' => Q .next s') rfl hs hclos hkind hnames h) (fun _ s' hq => wpAny_pure (wpAny_pure hq)) fun _ _ e => e)
theorem comp_valsA {items : List Value} {P0 : Addr} (P : List Value → List Value → Prop) (hh : A.handled = none) (F : Fr g env.locals s.heap m) (N : News g env.locals s.heap news) (hS : LCg.SrcAt g P0 items.toArray news) (hsz : items.length ≤ 16777216)
    (hcell : ∀ y ∈ scope.names, y.2 ≠ .cell) (hkind : scope.kind = .function) (hx : scope.names.lookup x = some .local) (h0 : P [] [])
    (hy : env.kindOf y = some .local) (hp : (env.scope.kind == .class || (env.scope.kind == .module && env.locals != env.globals)) = false)
    (turn : ∀ pre v post ys I oI C oC D m₂ h tk, items = pre ++ v :: post → P pre ys → LCg.NsObj oC m₂ → m₂ x = some v → Fr g env.locals h m → News g env.locals h ((I, oI) :: (C, oC) :: (D, LCg.lst ys) :: news) → LCg.Off3 I C D news → ((@Ne Nat I C) ∧ (@Ne Nat I D) ∧ (@Ne Nat C D)) →
      CTurn prog w A ifs elt (compEnvC scope cl C env) g env.locals m I oI C oC D ys (fun ys nw => nw = news ∧ P (pre ++ [v]) ys) (EC C) { s with heap := h, toks := tk })
    (hEC : ∀ D C e s', g.get? C = none → EC C e s' → notedBy (model prog w) A (compEnvC scope cl C env) (fun e s' => compPost (model prog w) A E (some (assign (.Name y py) env)) (fun _ s' => Q .next s') (.ref D) C (.error e) s') e s')
    (fin : ∀ D ys h' tk', ys.length ≤ items.length → P items ys → Fr g env.locals h' (fun z => if z = y then some (.ref D) else m z) → News g env.locals h' ((D, LCg.lst ys) :: news) → LCg.Off1 D news → Q .next { s with heap := h', toks := tk' }) :
    CompAtA prog w A elt iter ifs x px scope cl pos env y py Q E (.ref P0) s := by
  have hl := hS.list F.keep N
  have hlt : P0 < s.heap.objs.size := by obtain ⟨_, e, _⟩ := hl; exact Heap.lt_size e
  refine wpAny_pyIter_list hl ?_
  obtain ⟨F', N', a, b, c⟩ := new_frame (o := { cls := .type "list_iterator", data := .fields #[.ref P0, .int 0 0] }) F N
  refine comp_core (J := fun i ys nw => nw = news ∧ P (items.take i) ys) (EC := EC) (RR := compPost (model prog w) A E (some (assign (.Name y py) env)) (fun _ s' => Q .next s')) (s₂ := { s with heap := s.heap.push { cls := .type "list_iterator", data := .fields #[.ref P0, .int 0 0] } })
    (Walks.list hh s.heap.objs.size P0 (Nat.ne_of_lt hlt) items.toArray) (by rw [sizeLine_eq, List.size_toArray]; exact hsz) (fun i h st => by obtain ⟨o, e, _⟩ := st.1; exact ⟨o, e⟩) (fun i i' h h' o nw ys st e e' k N hJ => LCg.list_st i h h' o nw st e e' k N (by rw [hJ.1]; exact hS))
    hcell hkind hx ⟨⟨_, Heap.get?_push_size _ rfl, rfl, rfl⟩, hl.push _⟩ (fun b hb => ?_) F' N' a b c (by simpa using h0) ?_ hEC ?_
  · show b < (s.heap.push _).objs.size
    rw [Heap.size_push]
    rcases List.mem_cons.mp hb with rfl | hb
    · exact Nat.lt_succ_self _
    · rw [List.mem_singleton.mp hb]; exact Nat.lt_succ_of_lt hlt
  · intro i v ys nw I oI C oC D m₂ h tk hi hP hl hJ hC hv F N₁ o ne _
    obtain ⟨rfl, hJ⟩ := hJ
    have e : items[i]? = some v := by simpa using hP
    have et : items.take (i + 1) = items.take i ++ [v] := by rw [List.take_add_one, e]; rfl
    have el : items = items.take i ++ v :: items.drop (i + 1) := by
      have := (List.take_append_drop (i + 1) items).symm
      rw [et, List.append_assoc] at this
      exact this
    dsimp only
    rw [et]
    exact turn _ v _ ys I oI C oC D m₂ h tk el hJ hC hv F N₁ o ne
  · intro D C h' tk m' ys nw F₁ N₁ o1 hn gC hCL hCD offC hl hJ
    obtain ⟨rfl, hJ⟩ := hJ
    rw [List.size_toArray] at hl
    have hJ : P (items.take items.toArray.size) ys := hJ
    rw [List.size_toArray, List.take_length] at hJ
    show wpAny _ A (assign (.Name y py) env (.ref D)) _ _ _
    refine wpAny_assign_Name (wpAny_storeName_local hy F₁.ns (fun h₂ hn₂ hs₂ => ?_) hp)
    have hL₀ : g.get? env.locals = none := Heap.get?_none_of_le F₁.above
    have F₂ : Fr g env.locals h₂ (fun z => if z = y then some (.ref D) else m z) := ⟨hn₂, fun b o e => hs₂.extBut b o (fun q => by rw [q, hL₀] at e; cases e) (F₁.keep b o e), F₁.above⟩
    refine ⟨m', hn.sameBut hs₂ hCL, fun h'' hs'' => fin D ys h'' _ hl hJ (F₂.change hs'' hCL gC) (fun p hp => ?_) o1⟩
    have z : h₂.get? p.1 = some p.2 := hs₂.extBut _ _ (N₁ p hp).2.1 (N₁ p hp).1
    refine ⟨hs''.extBut _ _ ?_ z, (N₁ p hp).2⟩
    rcases List.mem_cons.mp hp with rfl | hp
    · exact Ne.symm hCD
    · exact offC p hp
theorem i_pow {E : Value → Shared → Prop} {Q : Value → Shared → Prop} {t u : Tok} (h : ∀ r t k, 0 < r → Q (.int r t) { s with toks := k }) : wpAny (model prog w) A (binaryOp .Pow (.int 10 t) (.int 400 u)) Q E s :=
  pow_int_small (by decide) (by decide) (by decide) (h _ _ _ (by decide +kernel))
theorem i_abs {E : Value → Shared → Prop} {Q : Value → Shared → Prop} {a : Int} {t : Tok} (h : ∀ r t k, 0 ≤ r → Q (.int r t) { s with toks := k }) : wpAny (model prog w) A (call (.builtin "abs") [.int a t]) Q E s :=
  call_abs_int fun u tk => h _ _ _ (by split <;> omega)
end
/-- ints -/
noncomputable def AnyInts (vs : List Value) : Prop := ∀ v ∈ vs, ∃ (n : Int) (t : Tok), v = .int n t
theorem anyInts_of {vs : List Value} {ns : List Int} (h : IntsAre vs ns) : AnyInts vs := fun v hv => h.all v hv
theorem anyInts_snoc {vs : List Value} {n : Int} {t : Tok} (h : AnyInts vs) : AnyInts (vs ++ [.int n t]) := fun v hv => by
  rcases List.mem_append.mp hv with q | q
  · exact h v q
  · rw [List.mem_singleton.mp q]; exact ⟨n, t, rfl⟩
theorem nats_snoc {vs : List Value} {n : Int} {t : Tok} (h : NatsAre vs) (hn : 0 ≤ n) : NatsAre (vs ++ [.int n t]) := fun v hv => by
  rcases List.mem_append.mp hv with q | q
  · exact h v q
  · rw [List.mem_singleton.mp q]; exact ⟨n, t, rfl, hn⟩
theorem anyInts_ints : ∀ {vs : List Value}, AnyInts vs → ∃ ns, IntsAre vs ns
  | [], _ => ⟨[], .nil⟩
  | v :: vs, h => by
    obtain ⟨n, t, rfl⟩ := h v (.head _)
    obtain ⟨ns, k⟩ := anyInts_ints (vs := vs) fun v hv => h v (.tail _ hv)
    exact ⟨n :: ns, .cons n t k⟩
end Mine
end
section
open PySem PySem.W PySem.Spec PySem.Calls PyProof.Rows
namespace Mine
theorem fillX28 : (PySem.Challenge.rw_no0368_01, ltop.heap_1) = (PySem.Challenge.rw_no0368_01, ltop.heap_1) := by k_fill; rfl
theorem _root_.Mine.rowsX28_1 : True := by
  k_with_none
  k_with "subscriptTail" => (k_here; (with_reducible show wpAny _ _ (subscriptTail _ _ (Value.bytes _ _) (Value.int _ _)) _ _ _); k_dflt (refine b_item rfl (by assumption) (by assumption) ?_); intro _ _)
  k_with "subscriptTail" => (k_here; (with_reducible show wpAny _ _ (subscriptTail _ (Expr.Slice (some _) (some _) none _) (Value.bytes _ _) (Value.ref _)) _ _ _); (with_reducible rename Fr _ _ _ _ => F'); (with_reducible rename News _ _ _ _ => N'); k_dflt (refine b_slice (s := ⟨_, _, _, _, _⟩) F' N' (by constructor) (by constructor) (by assumption) (by first | exact cut1 rfl rfl (by assumption) | exact cut0 rfl rfl (by assumption) | exact cut2 rfl rfl (by assumption)) ?_); intro _ _ _ _ _)
  k_with "compareOp Eq bytes bytes" => (k_here; (with_reducible show wpAny _ _ (compareOp CmpOp.Eq (Value.bytes _ _) (Value.bytes _ _)) _ _ _); k_dflt (refine b_eq (by first | exact beq_cons_false (by assumption) | exact beq_self_true | exact (rfl : _ = false) | exact (rfl : _ = true)) ?_))
  k_with "compareOp NotEq bytes bytes" => (k_here; (with_reducible show wpAny _ _ (compareOp CmpOp.NotEq (Value.bytes _ _) (Value.bytes _ _)) _ _ _); k_dflt (refine b_ne (by first | exact bne_cons_true (by assumption) | exact bne_self_false | exact (rfl : _ = false) | exact (rfl : _ = true)) ?_))
  k_with "call builtin:len" => (k_here; (with_reducible show wpAny _ _ (call (Value.builtin "len") [Value.bytes _ _]) _ _ _); k_dflt (refine b_len (by assumption) ?_); intro _ _)
  k_with "compareOp In int bytes" => (k_here; (with_reducible show wpAny _ _ (compareOp CmpOp.In (Value.int _ _) (Value.bytes _ _)) _ _ _); k_dflt (refine b_in rfl (by first | assumption | rfl) ?_))
  k_with "exec Raise some none" => (k_here; k_dflt (refine raise_wf (by assumption) ?_))
  k_with "ktr_unf" => ((refine' enter (by assumption) ?k6 ?k7 ?k9 ?kl ?c2 ?c3 ?c4 ?c5 ?_); (case k6 => k_is); (case k7 => k_is); (case k9 => exact BindsTo.of_eq rfl); (case kl => exact locs rfl); (case c2 => exact rfl); (case c3 => exact rfl); (case c4 => exact rfl); (case c5 => decide); intro A le L h₁ hh B hd hu X T F N; (try (have hHd := hh rfl)); (try k_unmd); (try dsimp only); k_fold)
  k_with "ktr_rel" => ((try dsimp only); (refine ret_end (by assumption) ?_))
  k_with "call ref" => (k_here; (with_reducible show wpAny _ _ (call (Value.ref 59) _) _ _ _); k_dflt (refine wf_make_K (by assumption) (by assumption) (by assumption) (by omega) (by first | exact .inr ⟨_, _, rfl⟩ | exact .inl rfl) ?_); intro h' tk' e' H'; k_dflt (refine leave_new (by assumption) (by assumption) H' rfl ?_))
  k_with "ite" => (k_here; k_dflt (first
    | (refine ite_pos (by first | omega | (simp only [decide_eq_true_eq, beq_iff_eq, bne_iff_ne, ne_eq, Bool.and_eq_true, Bool.or_eq_true, Bool.not_eq_true', decide_eq_false_iff_not, beq_eq_false_iff_ne]; omega) | exact beq_self_eq_true _) ?_; walk_say "PRUNED here")
    | (refine ite_neg (by first | omega | (simp only [decide_eq_true_eq, beq_iff_eq, bne_iff_ne, ne_eq, Bool.and_eq_true, Bool.or_eq_true, Bool.not_eq_true', decide_eq_false_iff_not, beq_eq_false_iff_ne]; omega) | exact beq_self_eq_true _) ?_; walk_say "PRUNED here")))
  k_with "compareOp In int ref" => (k_here; (with_reducible show wpAny _ _ (compareOp CmpOp.In (Value.int _ _) (Value.ref 62)) _ _ _); k_dflt (refine in_nev (by assumption) (by assumption) ?_))
  k_with "exec While Compare" => (k_here; (with_reducible show wpAny _ _ (exec (Stmt.While _ _ _ _) _) _ _ _); (refine hold ?_); walk_say "HELD")
  k_with "assign Tuple" => (k_here; (with_reducible show wpAny _ _ (assign (Expr.Tuple _ _ _) _ (Value.ref _)) _ _ _); k_dflt (refine unpackN_ (by k_asm) (by k_asm) (News.isTup (by k_asm) (by k_mem)) (by assumption) rfl rfl ?_); intro h' F' N'; (try k_sweep))
  k_with "call builtin:list.append" => (k_here; (with_reducible show wpAny _ _ (call (Value.builtin _) [Value.ref _, _]) _ _ _); k_dflt (refine' append_K (by k_asm) (by k_asm) (by k_upd) ?_ (by first | size_fits | (rw [sizeLine_eq]; show List.length _ ≤ _; omega)); k_whole); intro h' F' N'; (try simp only [List.push_toArray] at N'); (try k_sweep))
  k_with "pyIter bytes" => (k_here; (refine hold ?_); walk_say "HELD")
  k_with "eval ListComp" => (k_here; (with_reducible show wpAny _ _ (eval (Expr.ListComp _ _ _ _) _) _ _ _); (refine hold ?_); walk_say "HELD")
  k_with "pyIter ref" => (k_here; (with_reducible show wpAny _ _ (pyIter (Value.ref _)) (fun it s₂ => LoopAtV _ _ _ _ _ _ _ _ _ it s₂) _ _); (refine hold ?_); walk_say "HELD")
  k_with "exec Assign cons ListComp" => (k_here; (with_reducible show wpAny _ _ (exec (Stmt.Assign [_] (Expr.ListComp _ _ _ _) _) _) _ _ _); (refine hold ?_); walk_say "HELD ASSIGN")
  k_with "exec For" => (k_here; (with_reducible show wpAny _ _ (exec (Stmt.For (Expr.Name _ _) (Expr.Name _ _) (_ :: _) [] _) _) _ _ _); (rename Fr _ _ _ _ => lF'); (with_unfolding_all refine' For_invVF lF' (by exact rfl) (by exact rfl) ?_; k_whole))
  k_with "binaryOp Mod int int" => (k_here; k_dflt (refine i_mod (by first | assumption | omega) ?_); intro _ _ _ _ _)
  k_with "binaryOp Mult int int" => (k_here; k_dflt (refine i_mul (by omega) (by omega) (by omega) ?_); intro _ _ _ _)
  k_with "binaryOp Pow int int" => (k_here; k_dflt (refine i_pow ?_); intro _ _ _ _)
  k_with "call builtin:abs" => (k_here; (with_reducible show wpAny _ _ (call (Value.builtin _) [Value.int _ _]) _ _ _); k_dflt (refine i_abs ?_); intro _ _ _ _)
  k_with "call type:int" => (k_here; (with_reducible show wpAny _ _ (call (Value.type _) [Value.int _ _]) _ _ _); k_dflt (refine PySem.call_int_int ?_))
  trivial
noncomputable def PotRet (s : Shared) (v : Value) (h' : Heap) : Prop := ∃ P C, v = .ref P ∧ s.heap.get? P = none ∧ s.heap.get? C = none ∧ Pot h' P C 0
section
variable {w : World} {mean : ExcName → Option Value} {mg mb : Str → Option Value} {base : Heap} {s : Shared} {S : Addr} {vs : List Value} {ns : List Int}
theorem pot_spec (hb : Bas w mean mg mb base) (hl : s.heap.IsList S vs.toArray) (hi : IntsAre vs ns) (hn : ns.length ≤ 63) :
    Spec w base 171 [.ref S] false 20 400 s (PotRet s) False := by
  ktr_unf
  k_steps
  refine unhold ?_
  refine comp_assign (by with_unfolding_all rfl) (by with_unfolding_all rfl) rfl (by decide) ?_
  k_steps
  rename IntsAre _ (List.take 40 ns) => hI
  have hA := anyInts_of hI
  have hwl := hI.length
  rw [List.length_take] at hwl
  refine comp_valsA (fun pre ys => AnyInts ys ∧ ys.length ≤ pre.length) (EC := fun _ _ _ => False) (by assumption) (by assumption) (by assumption) (.inr ⟨_, by k_mem, rfl, _, rfl⟩) (by omega) (by decide) rfl rfl ⟨(fun v h => by cases h), Nat.le_refl _⟩ rfl rfl ?turn (fun D C e s' h hf => hf.elim) ?fin
  case turn =>
    intro pre v post ys I oI C oC D m₂ h tk el hP hC hv F N o ne
    obtain ⟨n, t, rfl⟩ := hA v (by rw [el]; simp)
    refine wpAny_tests_nil ?_
    simp only [if_true]
    k_unmd
    (try k_fold)
    k_steps
    all_goals exact CEnd.intro (by assumption) (by assumption) _ (fun p hp => hp) o ⟨rfl, anyInts_snoc hP.1, by simp only [List.length_append, List.length_singleton]; exact Nat.succ_le_succ hP.2⟩
  case fin =>
    intro D ys h tk hl hP F N o
    obtain ⟨hP, _⟩ := hP
    have hyl : ys.length ≤ 40 := by omega
    clear hl
    obtain ⟨ms, hM⟩ := anyInts_ints hP
    k_unmd
    (try k_fold)
    k_steps
    rename News _ _ _ _ => N
    refine unhold ?_
    refine kst_listL (σ := Int × Tok) (l := D) (vs := ys) (ns := ms) (nn := ys.length) (fun c => [(D, listOf (List.toArray ys) ys.length)]) (fun c => [(Str.ofString "state", .int c.1 c.2)]) (fun _ => True) [] (fun pre c => 0 ≤ c.1) (1, ?tt) (by assumption) (fun c => .head _) hM (by assumption) (fun p hp => by rw [List.mem_singleton.mp hp]; exact N _ (.head _)) trivial ?hk (by show (0 : Int) ≤ 1; decide) ?lturn ?ldone
    case hk => exact List.forall_mem_singleton.mpr (by with_unfolding_all rfl)
    case lturn =>
      intro c pre post n t u h tk own e hn hoff _ hp F N
      obtain ⟨st, ts⟩ := c
      dsimp only at hp F N
      simp only [List.cons_append, List.nil_append] at N
      k_unmd
      (try k_fold)
      k_steps
      all_goals exact kst_end (_, _) (by assumption) (by assumption) (fun p hp => by rw [List.mem_singleton.mp hp]; exact .head _) (fun p hp => .tail _ hp) rfl trivial (by kst_all) (fun z h1 h2 h3 => (same_tac (h2 _ (.head _)) h1).trans (kst1_rest (h2 _ (.head _)) h3)) (by assumption)
    case ldone =>
      intro c u h tk _ hp F N
      obtain ⟨st, ts⟩ := c
      dsimp only at hp F N
      dsimp only
      k_unmd
      (try k_fold)
      k_steps
      refine unhold ?_
      refine comp_eval (by with_unfolding_all rfl) rfl (by decide) ?_
      k_steps
      refine comp_vals (items := ys) (fun pre ys2 nw => nw = [(D, listOf (List.toArray ys) ys.length)] ∧ NatsAre ys2 ∧ ys2.length ≤ pre.length) (EC := fun _ _ _ => False) (by assumption) (by assumption) (by assumption) (fun pre ys2 nw hJ => by rw [hJ.1]; exact .inr ⟨_, .head _, rfl, _, rfl⟩) (by omega) (by decide) rfl rfl ⟨rfl, (fun v h => by cases h), Nat.le_refl _⟩ ?turn2 (fun D C e s' h hf => hf.elim) ?fin2
      case turn2 =>
        intro pre v post ys2 nw I oI C oC D2 m₂ h tk el hJ hC hv F N o ne
        obtain ⟨rfl, hN2, hl2⟩ := hJ
        obtain ⟨n, t, rfl⟩ := hP v (by rw [el]; simp)
        refine wpAny_tests_nil ?_
        simp only [if_true]
        k_unmd
        (try k_fold)
        k_steps
        all_goals exact CEnd.intro (by assumption) (by assumption) _ (fun p hp => hp) o ⟨rfl, nats_snoc hN2 (by assumption), by simp only [List.length_append, List.length_singleton]; exact Nat.succ_le_succ hl2⟩
      case fin2 =>
        intro D2 ys2 nw h tk hl2 hJ F N o
        obtain ⟨rfl, hN2, _⟩ := hJ
        k_unmd
        (try k_fold)
        k_steps
        rename _ < _ ∧ _ => l1
        rename News _ _ _ _ => N1
        ktr_rel
        exact ⟨_, D2, rfl, (N1 _ (.head _)).2.2, (N1 _ (.tail _ (.head _))).2.2, ys2, st, _, _, _, _, Nat.ne_of_gt l1.1, (N1 _ (.head _)).1, (N1 _ (.tail _ (.head _))).1, hN2, hp, by omega⟩
end
end Mine
end
section
open PySem PySem.W PySem.Spec PySem.Calls PyProof.Rows
namespace Mine
open Builtin
theorem slot_bytes_count : Slot "bytes" "count" "bytes.count" :=
  .of (owner := "bytes") (n := "count") (by rw [typeLookup_type, builtinLookup_eq_fast]; kernel_rfl) (by decide +kernel) (by decide +kernel) (by decide +kernel)
    (by first | exact .inl (by decide +kernel) | exact .inr (by decide +kernel)) (by rw [isSubtype_type]; kernel_rfl)
theorem type_bytes_count : typeOf (.builtin "bytes.count") = pure (.type "method_descriptor") := by show builtinType _ = _; rw [builtinType_eq_fast]; kernel_rfl
theorem entry_bytes_count : entryFor table "bytes.count" = some Builtin.«bytes.count» := entryFor_of_tree (by kernel_rfl)
theorem args_bytes_count (a b : Value) : argsOk "bytes.count" ⟨[a, b], []⟩ := by unfold argsOk; kernel_rfl
theorem gives_bytes_count (b c : Array UInt8) (t u : Tok) (h : c.size ≤ b.size) (hc : c.isEmpty = false) : Gives («bytes.count» ⟨[.bytes b t, .bytes c u], []⟩) (.int ((Bytes.occurrences b c 0 b.size).length : Int)) := by
  refine .of_wp fun M A E s Q hq => ?_
  show wpAny M A (Bytes.searchArgs .bytes "count" ⟨[.bytes b t, .bytes c u], []⟩ >>= _) _ E s
  refine wpAny_bind ?_
  unfold Bytes.searchArgs
  refine wpAny_bind (wpAny_of_eq (a := (.bytes b t, [.bytes c u])) rfl ?_)
  refine wpAny_bind (wpAny_of_eq (a := none) rfl ?_)
  refine wpAny_bind (wpAny_of_eq (a := none) rfl ?_)
  show wpAny M A (Bytes.buffer? _ (.bytes c u) >>= _) _ E s
  rw [KBy.buffer_eq]
  refine wpAny_bind (wpAny_pure ?_)
  refine wpAny_bind (wpAny_pure ?_)
  refine wpAny_bind (wpAny_of_eq (a := b) rfl ?_)
  have hw : Bytes.window b.size none none = (0, (b.size : Int)) := by
    unfold Bytes.window
    have h1 : ¬ ((b.size : Int) < 0) := by omega
    simp [h1]
  rw [hw]
  dsimp only
  rw [if_neg (by omega)]
  refine wpAny_pure ?_
  dsimp only
  rw [if_neg (by rw [hc]; exact Bool.false_ne_true)]
  exact wpAny_bind (wpAny_mkInt (wpAny_pure ⟨_, rfl, hq⟩))
theorem gives_bytes_count0 (b c : Array UInt8) (t u : Tok) (h : b.size < c.size) : Gives («bytes.count» ⟨[.bytes b t, .bytes c u], []⟩) (.int 0) := by
  refine .of_wp fun M A E s Q hq => ?_
  show wpAny M A (Bytes.searchArgs .bytes "count" ⟨[.bytes b t, .bytes c u], []⟩ >>= _) _ E s
  refine wpAny_bind ?_
  unfold Bytes.searchArgs
  refine wpAny_bind (wpAny_of_eq (a := (.bytes b t, [.bytes c u])) rfl ?_)
  refine wpAny_bind (wpAny_of_eq (a := none) rfl ?_)
  refine wpAny_bind (wpAny_of_eq (a := none) rfl ?_)
  show wpAny M A (Bytes.buffer? _ (.bytes c u) >>= _) _ E s
  rw [KBy.buffer_eq]
  refine wpAny_bind (wpAny_pure ?_)
  refine wpAny_bind (wpAny_pure ?_)
  refine wpAny_bind (wpAny_of_eq (a := b) rfl ?_)
  have hw : Bytes.window b.size none none = (0, (b.size : Int)) := by
    unfold Bytes.window
    have h1 : ¬ ((b.size : Int) < 0) := by omega
    simp [h1]
  rw [hw]
  dsimp only
  rw [if_pos (by omega)]
  refine wpAny_pure ?_
  dsimp only
  exact wpAny_bind (wpAny_mkInt (wpAny_pure ⟨_, rfl, hq⟩))
section
variable {prog : Program} {w : World} {A : Around} {E : Value → Shared → Prop} {s : Shared} {vs ws : List Value} {xs : List Str} {a b : Addr} {Q : Value → Shared → Prop}
theorem strs_get : ∀ {vs : List Value} {xs : List Str}, StrsAre vs xs → ∀ {i : Nat} (h : i < vs.length), ∃ t, ∃ h2 : i < xs.length, vs[i] = .str xs[i] t
  | _, _, .cons y t k, 0, _ => ⟨t, Nat.succ_pos _, rfl⟩
  | _, _, .cons y t k, i + 1, h => by
    obtain ⟨t, h2, e⟩ := strs_get k (Nat.lt_of_succ_lt_succ h)
    exact ⟨t, Nat.succ_lt_succ h2, e⟩
theorem eq_all (hv : StrsAre vs xs) (hw : StrsAre ws xs) : vs.toArray.size = ws.toArray.size ∧ ∀ j (h1 : j < vs.toArray.size) (h2 : j < ws.toArray.size), PySem.SeqAt.EqAt A.in1 s vs.toArray[j] ws.toArray[j] true := by
  have l1 := StrsAre.len_eq hv
  have l2 := StrsAre.len_eq hw
  refine ⟨by simp [l1, l2], fun j h1 h2 => ?_⟩
  obtain ⟨t, k1, e1⟩ := strs_get hv (i := j) (by simpa using h1)
  obtain ⟨u, k2, e2⟩ := strs_get hw (i := j) (by simpa using h2)
  have z1 : vs.toArray[j] = .str xs[j] t := e1
  have z2 : ws.toArray[j] = .str xs[j] u := e2
  rw [z1, z2]
  have := PySem.SeqAt.EqAt.str_str (A := A.in1) (s := s) xs[j] t xs[j] u
  rwa [show (xs[j] == xs[j]) = true by simp] at this
theorem all_true (n : Nat) : (List.range n).all (fun _ => true) = true := by simp
theorem texts_eq (hv : StrsAre vs xs) (hw : StrsAre ws xs) (ha : s.heap.IsList a vs.toArray) (hb : s.heap.IsList b ws.toArray) (hu : A.units < cLine) (h : Q (.bool true) s) : wpAny (model prog w) A (compareOp .Eq (.ref a) (.ref b)) Q E s := by
  obtain ⟨k1, k2⟩ := eq_all (A := A) (s := s) hv hw
  exact PySem.SeqAt.eq_listAt (e := fun _ => true) ha hb k1 hu k2 (by rw [all_true]; exact h)
theorem texts_ne (hv : StrsAre vs xs) (hw : StrsAre ws xs) (ha : s.heap.IsList a vs.toArray) (hb : s.heap.IsList b ws.toArray) (hu : A.units < cLine) (h : Q (.bool false) s) : wpAny (model prog w) A (compareOp .NotEq (.ref a) (.ref b)) Q E s := by
  obtain ⟨k1, k2⟩ := eq_all (A := A) (s := s) hv hw
  have := PySem.SeqAt.RcNeAt.lists (e := fun _ => true) ha hb k1 hu k2 prog w E Q (by rw [all_true]; exact h)
  exact this
theorem m_count {M : Model} {b : Array UInt8} {t : Tok} {pl : Sem Bool} {Q : Value × List Value → Shared → Prop} (h : Q (.builtin "bytes.count", [.bytes b t]) s) : wpAny M A (getMethod (.bytes b t) "count" pl) Q E s := by
  with_reducible exact KBd.method_of (.bytes b t) (typeIs_bytes _ _ _) slot_bytes_count type_bytes_count KBd.noRef h
end
/-- how often the sign row stands -/
noncomputable def cnt : List UInt8 → Nat
  | [] => 0
  | c :: r => (if [62, 32, 60] <+: (c :: r) then 1 else 0) + cnt r
theorem cnt_eq (c : UInt8) (r : List UInt8) : cnt (c :: r) = (if [62, 32, 60] <+: (c :: r) then 1 else 0) + cnt r := rfl
theorem cnt_app (a r : List UInt8) : cnt r ≤ cnt (a ++ r) := by
  induction a with
  | nil => exact Nat.le_refl _
  | cons c a ih => exact Nat.le_trans ih (by rw [List.cons_append, cnt_eq]; exact Nat.le_add_left _ _)
theorem cnt_cons (c : UInt8) (r : List UInt8) : cnt r ≤ cnt (c :: r) := cnt_app [c] r
theorem cnt_hit (r : List UInt8) : cnt (60 :: r) + 1 ≤ cnt (62 :: 32 :: 60 :: r) := by
  have h : [62, 32, 60] <+: (62 :: 32 :: 60 :: r) := ⟨r, rfl⟩
  have := cnt_cons 32 (60 :: r)
  rw [cnt_eq 62, if_pos h]
  omega
/-- each text written opens and closes -/
theorem cnt_jn : ∀ (os : List (List UInt8)), (∀ o ∈ os, ∃ m, o = 60 :: m ++ [62]) → os.length - 1 ≤ cnt (jn [32] os)
  | [], _ => Nat.zero_le _
  | [o], _ => Nat.zero_le _
  | o :: p :: r, h => by
    obtain ⟨m, rfl⟩ := h o (.head _)
    have ih := cnt_jn (p :: r) fun x hx => h x (.tail _ hx)
    obtain ⟨y, hy⟩ : ∃ y, jn [32] (p :: r) = 60 :: y := by
      obtain ⟨m', rfl⟩ := h p (.tail _ (.head _))
      cases r with
      | nil => exact ⟨_, rfl⟩
      | cons q r => exact ⟨_, rfl⟩
    have e : jn [32] ((60 :: m ++ [62]) :: p :: r) = (60 :: m) ++ (62 :: 32 :: 60 :: y) := by
      show (60 :: m ++ [62]) ++ [32] ++ jn [32] (p :: r) = _
      rw [hy]; simp
    rw [e]
    have h1 := cnt_hit y
    have h2 := cnt_app (60 :: m) (62 :: 32 :: 60 :: y)
    rw [hy] at ih
    simp only [List.length_cons] at ih ⊢
    omega
/-- the places where the row stands -/
noncomputable def hitAt (l : List UInt8) (i : Nat) : Bool := (l.drop i).take 3 == [62, 32, 60]
theorem hit_iff {l : List UInt8} : ((l.take 3 == [62, 32, 60]) = true) ↔ [62, 32, 60] <+: l := by
  rw [beq_iff_eq]
  constructor
  · intro h; exact h ▸ List.take_prefix 3 l
  · rintro ⟨t, rfl⟩; rfl
theorem cnt_short : ∀ (l : List UInt8), l.length ≤ 2 → cnt l = 0
  | [], _ => rfl
  | [a], _ => by
    unfold cnt
    rw [if_neg (fun h => by have := h.length_le; simp at this)]; rfl
  | [a, b], _ => by
    unfold cnt
    rw [if_neg (fun h => by have := h.length_le; simp at this)]
    unfold cnt
    rw [if_neg (fun h => by have := h.length_le; simp at this)]; rfl
  | a :: b :: c :: r, h => by simp at h
theorem cnt_range : ∀ (l : List UInt8), (List.range (l.length - 2)).countP (hitAt l) = cnt l
  | [] => rfl
  | c :: r => by
    by_cases hl : (c :: r).length ≤ 2
    · rw [cnt_short _ hl, show (c :: r).length - 2 = 0 by omega]; rfl
    · simp only [List.length_cons] at hl ⊢
      have e : r.length + 1 - 2 = (r.length - 2) + 1 := Nat.sub_add_comm (Nat.le_of_lt_succ (Nat.lt_of_not_le hl))
      rw [e, List.range_succ_eq_map, List.countP_cons, List.countP_map]
      have ih := cnt_range r
      have f : (hitAt (c :: r)) ∘ Nat.succ = hitAt r := by funext i; rfl
      rw [f, ih, cnt_eq]
      by_cases hp : [62, 32, 60] <+: (c :: r)
      · rw [if_pos hp, if_pos (show hitAt (c :: r) 0 = true from hit_iff.mpr hp)]; omega
      · rw [if_neg hp, if_neg (show ¬ hitAt (c :: r) 0 = true from fun q => hp (hit_iff.mp q))]; omega
theorem hit_apart {l : List UInt8} {k : Nat} (h : hitAt l k = true) : hitAt l (k + 1) = false ∧ hitAt l (k + 2) = false := by
  unfold hitAt at *
  obtain ⟨t, ht⟩ := hit_iff.mp h
  have e1 : l.drop (k + 1) = 32 :: 60 :: t := by rw [← List.drop_drop, ← ht]; rfl
  have e2 : l.drop (k + 2) = 60 :: t := by rw [← List.drop_drop, ← ht]; rfl
  rw [e1, e2]
  constructor
  · rw [beq_eq_false_iff_ne]; intro q
    cases t <;> simp at q
  · rw [beq_eq_false_iff_ne]; intro q
    cases t with
    | nil => simp at q
    | cons x t => cases t <;> simp at q
noncomputable def occStep (l : List UInt8) (acc : List Nat × Nat) (i : Nat) : List Nat × Nat := if i ≥ acc.2 && hitAt l i then (i :: acc.1, i + 3) else acc
theorem occ_fold (l : List UInt8) : ∀ (n k : Nat) (acc : List Nat) (free : Nat), (∀ i, k ≤ i → i < free → hitAt l i = false) → ((List.range' k n).foldl (occStep l) (acc, free)).1.length = acc.length + (List.range' k n).countP (hitAt l)
  | 0, k, acc, free, _ => rfl
  | n + 1, k, acc, free, h => by
    rw [List.range'_succ, List.foldl_cons, List.countP_cons]
    cases hk : hitAt l k with
    | true =>
      have hf : free ≤ k := by
        apply Nat.le_of_not_lt
        intro q
        rw [h k (Nat.le_refl _) q] at hk; cases hk
      have e : occStep l (acc, free) k = (k :: acc, k + 3) := by
        unfold occStep
        rw [if_pos (by simp [hk, hf])]
      obtain ⟨a1, a2⟩ := hit_apart hk
      rw [e, occ_fold l n (k + 1) (k :: acc) (k + 3) (fun i h1 h2 => by
        rcases Nat.lt_or_ge i (k + 2) with q | q
        · rw [show i = k + 1 by omega]; exact a1
        · rw [show i = k + 2 by omega]; exact a2)]
      simp only [List.length_cons, if_true]
      omega
    | false =>
      have e : occStep l (acc, free) k = (acc, free) := by
        unfold occStep
        rw [if_neg (by simp [hk])]
      rw [e, occ_fold l n (k + 1) acc free (fun i h1 h2 => h i (by omega) h2)]
      simp
theorem occ_cnt (l : List UInt8) : (Bytes.occurrences l.toArray (List.toArray [62, 32, 60]) 0 l.toArray.size).length = cnt l := by
  have e : Bytes.occurrences l.toArray (List.toArray [62, 32, 60]) 0 l.toArray.size = ((List.range' 0 (l.length - 2)).foldl (occStep l) ([], 0)).1.reverse := by
    unfold Bytes.occurrences
    dsimp only
    have e1 : (List.range (l.toArray.size + 1 - (0 + (List.toArray ([62, 32, 60] : List UInt8)).size))).map (· + 0) = List.range' 0 (l.length - 2) := by
      simp [List.range_eq_range']
    rw [e1]
    congr 3
    funext acc i
    unfold occStep hitAt
    have : (l.toArray.extract i (i + (List.toArray ([62, 32, 60] : List UInt8)).size) == List.toArray [62, 32, 60]) = ((l.drop i).take 3 == [62, 32, 60]) := by
      rw [List.extract_toArray]
      simp
    rw [this]
    rfl
  rw [e, List.length_reverse, occ_fold l _ 0 [] 0 (fun i _ h => absurd h (Nat.not_lt_zero _)), ← List.range_eq_range', cnt_range]
  simp
theorem b_count {prog : Program} {w : World} {A : Around} {E : Value → Shared → Prop} {s : Shared} {l : List UInt8} {t u : Tok} {n : Nat} {Q : Value → Shared → Prop} (hn : n ≤ cnt l) (h : ∀ (k : Nat) t' kk, n ≤ k → Q (.int (k : Int) t') { s with toks := kk }) :
    wpAny (model prog w) A (call (.builtin "bytes.count") [.bytes l.toArray t, .bytes (List.toArray [62, 32, 60]) u]) Q E s := by
  by_cases hs : 3 ≤ l.length
  · refine call_gives slot_bytes_count (typeIs_bytes _ _ _) entry_bytes_count (args_bytes_count _ _) (gives_bytes_count _ _ t u (by rw [List.size_toArray, List.size_toArray]; exact hs) rfl) ?_
    rw [occ_cnt]
    exact h _ _ _ hn
  · have h0 : cnt l = 0 := cnt_short l (by omega)
    refine call_gives slot_bytes_count (typeIs_bytes _ _ _) entry_bytes_count (args_bytes_count _ _) (gives_bytes_count0 _ _ t u (by rw [List.size_toArray, List.size_toArray]; show _ < 3; omega)) ?_
    exact h 0 _ _ (by omega)
end Mine
end
section
open PySem PySem.W PySem.Spec PySem.Calls PyProof.Rows
namespace Mine
theorem runOf_len {l p r : List UInt8} (h : runOf l = some (p, r)) : p.length + r.length = l.length := by
  unfold runOf at h
  split at h
  · cases h
  · cases h
    rw [← List.length_append, List.takeWhile_append_dropWhile]
theorem sideL_len {l p r : List UInt8} (h : sideL l = some (p, r)) : p.length + r.length ≤ l.length := by
  unfold sideL at h
  split at h
  · cases h
  · split at h
    · have := closed_length _ _ _ _ _ _ (Nat.le_refl _) h
      simp only [List.length_cons]; omega
    · exact Nat.le_of_eq (runOf_len h)
theorem sideR_len {l p r : List UInt8} (h : sideR l = some (p, r)) : p.length + r.length ≤ l.length := by
  unfold sideR at h
  split at h
  · cases h
  · split at h
    · simp only [Option.map_eq_some_iff] at h
      obtain ⟨⟨p', q'⟩, e1, e2⟩ := h
      cases e2
      have := closed_length _ _ _ _ _ _ (Nat.le_refl _) e1
      simp only [List.length_cons, List.length_append, List.length_nil]; omega
    · exact Nat.le_of_eq (runOf_len h)
theorem idOf_len {l p r : List UInt8} (h : idOf l = some (p, r)) : p.length + r.length + 1 ≤ l.length := by
  unfold idOf at h
  rw [Option.bind_eq_some_iff] at h
  obtain ⟨⟨p1, r1⟩, h1, h2⟩ := h
  have k1 := sideL_len h1
  unfold idMid at h2
  dsimp only at h2
  split at h2
  · cases h2
  · split at h2
    · rw [Option.bind_eq_some_iff] at h2
      obtain ⟨⟨p2, r2⟩, h3, h4⟩ := h2
      have k2 := sideR_len h3
      unfold idEnd at h4
      dsimp only at h4
      split at h4
      · cases h4
      · split at h4
        · split at h4
          · cases h4
            simp only [List.length_cons, List.length_append] at *
            omega
          · cases h4
        · cases h4
    · cases h2
theorem readF_len : ∀ (f : Nat) (l : List UInt8), ((readF f l).map List.length).sum + 2 * (readF f l).length ≤ l.length := by
  intro f
  induction f with
  | zero => intro l; exact Nat.zero_le _
  | succ f ih =>
    intro l
    cases l with
    | nil => exact Nat.zero_le _
    | cons c r =>
      unfold readF
      split
      · split
        · rename_i x e
          have := idOf_len (p := x.1) (r := x.2) e
          have := ih x.2
          simp only [List.map_cons, List.sum_cons, List.length_cons]
          omega
        · have := ih r
          simp only [List.length_cons]; omega
      · have := ih (skip c r)
        have := (skip_suffix c r).length_le
        simp only [List.length_cons]; omega
theorem sum_mem : ∀ {ps : List (List UInt8)} {p : List UInt8}, p ∈ ps → p.length ≤ (ps.map List.length).sum
  | q :: ps, p, h => by
    rw [List.map_cons, List.sum_cons]
    rcases List.mem_cons.mp h with rfl | h
    · omega
    · have := sum_mem h; omega
theorem octsOf_can : ∀ {ps : List (List UInt8)}, (∀ p ∈ ps, canB p = true) → octsOf ps = some (octs ps)
  | [], _ => rfl
  | p :: ps, h => by
    obtain ⟨o, ho, _⟩ := can_oct (h p (.head _))
    unfold octsOf
    rw [ho]
    show (octsOf ps).map _ = _
    rw [octsOf_can fun q hq => h q (.tail _ hq)]
    show some _ = some ((idOct p).getD [] :: octs ps)
    rw [ho]; rfl
theorem octs_form {ps : List (List UInt8)} (h : ∀ p ∈ ps, canB p = true) : ∀ o ∈ octs ps, ∃ m, o = 60 :: m ++ [62] := fun o ho => by
  obtain ⟨p, hp, rfl⟩ := List.mem_map.mp ho
  obtain ⟨o, e, _⟩ := can_oct (h p hp)
  exact ⟨o, by rw [e]; rfl⟩
theorem nb_cons {c : UInt8} {l : List UInt8} (hc : c ≠ 0 ∧ c ≠ 10 ∧ c ≠ 13) (h : NoBad l) : NoBad (c :: l) := fun x hx => by
  rcases List.mem_cons.mp hx with rfl | hx
  · exact hc
  · exact h x hx
theorem nb_nil : NoBad [] := fun x hx => by cases hx
theorem nb_app {a b : List UInt8} (h : NoBad a) (k : NoBad b) : NoBad (a ++ b) := fun x hx => by
  rcases List.mem_append.mp hx with q | q
  · exact h x q
  · exact k x q
theorem nb_esc {sg : List UInt8} : ∀ {l : List UInt8}, NoBad l → NoBad (escB sg l)
  | [], _ => nb_nil
  | c :: l, h => by
    have hc := h c (.head _)
    have hl : NoBad l := fun x hx => h x (.tail _ hx)
    unfold escB
    split
    · exact nb_cons (by decide) (nb_cons hc (nb_esc hl))
    · exact nb_cons hc (nb_esc hl)
theorem idOct_nb {p o : List UInt8} (h : idOct p = some o) : NoBad o := by
  unfold idOct at h
  rw [Option.bind_eq_some_iff] at h
  obtain ⟨⟨l, r⟩, h1, h2⟩ := h
  rw [Option.map_eq_some_iff] at h2
  obtain ⟨R, h3, rfl⟩ := h2
  obtain ⟨_, _, nl, nr⟩ := sides_facts h1
  have hL : NoBad (leftW l) := by
    unfold leftW
    split
    · exact nl
    · exact nb_app (nb_cons (by decide) (nb_esc nl)) (nb_cons (by decide) nb_nil)
  have hR : NoBad R := by
    dsimp only at h3
    unfold rightW at h3
    split at h3
    · cases h3
      exact nb_app (nb_cons (by decide) (nb_esc fun x hx => nr x (List.mem_of_mem_drop (List.dropLast_subset _ hx)))) (nb_cons (by decide) nb_nil)
    · split at h3
      · cases h3; exact nr
      · cases h3
  exact nb_cons (by decide) (nb_app hL (nb_cons (by decide) (nb_app hR (nb_cons (by decide) nb_nil))))
theorem jn_nb : ∀ {os : List (List UInt8)}, (∀ o ∈ os, NoBad o) → NoBad (jn [32] os)
  | [], _ => nb_nil
  | [o], h => h o (.head _)
  | o :: p :: r, h => by
    show NoBad (o ++ [32] ++ jn [32] (p :: r))
    exact nb_app (nb_app (h o (.head _)) (nb_cons (by decide) nb_nil)) (jn_nb fun x hx => h x (.tail _ hx))
theorem octs_nb {ps : List (List UInt8)} (h : ∀ p ∈ ps, canB p = true) : NoBad (jn [32] (octs ps)) := jn_nb fun o ho => by
  obtain ⟨p, hp, rfl⟩ := List.mem_map.mp ho
  obtain ⟨o, e, _⟩ := can_oct (h p hp)
  rw [e]
  exact idOct_nb e
/-- all that the law asks of what was read -/
structure Found (l : List UInt8) (ps os : List (List UInt8)) : Prop where
  nb : NoBad l
  len : l.length ≤ 65536
  rd : readS l = ps
  lrd : lreadS l = ps
  oc : octsOf ps = some os
  again : readS (jn [32] os) = ps
  nbw : NoBad (jn [32] os)
  lenw : (jn [32] os).length ≤ 65536
  many : ps.length - 1 ≤ cnt (jn [32] os)
  each : ∀ p ∈ ps, p.length ≤ 65536
  few : ps.length ≤ 65536
  small : 4 * (ps.map List.length).sum + 10 * ps.length ≤ 16777216
theorem found_of {l : List UInt8} (h : Good l 6) : Found l (readS l) (octs (readS l)) := by
  obtain ⟨h1, h2, h3⟩ := h
  have hc : ∀ p ∈ readS l, canB p = true := fun p hp => readS_can hp
  have hl := readF_len l.length l
  have hl : ((readS l).map List.length).sum + 2 * (readS l).length ≤ l.length := hl
  have ho := octsOf_can hc
  have hj := jn_le ho
  refine ⟨h1, by omega, rfl, (lreadS_eq (by omega)).symm, ho, readS_octs _ hc, octs_nb hc, by omega, ?_, fun p hp => by have := sum_mem hp; omega, by omega, by omega⟩
  have := cnt_jn (octs (readS l)) (octs_form hc)
  rw [show (octs (readS l)).length = (readS l).length by unfold octs; rw [List.length_map]] at this
  exact this
/-- all that the law asks of a text that can be written -/
structure Written (p o : List UInt8) : Prop where
  oc : octsOf [p] = some [o]
  len : o.length ≤ 1000
  nb : NoBad ([120, 32] ++ o ++ [60, 109, 64, 110, 62])
  again : readS ([120, 32] ++ o ++ [60, 109, 64, 110, 62]) = [p, [109, 64, 110]]
theorem written_of {p : List UInt8} (hp : p.length ≤ 8) (h : canB p = true) : ∃ o, Written p o := by
  obtain ⟨o, ho, _⟩ := can_oct h
  refine ⟨60 :: o ++ [62], ?_, ?_, ?_, ?_⟩
  · unfold octsOf
    rw [ho]; rfl
  · have := idOct_len ho; omega
  · exact nb_app (nb_app (nb_cons (by decide) (nb_cons (by decide) nb_nil)) (idOct_nb ho)) (nb_cons (by decide) (nb_cons (by decide) (nb_cons (by decide) (nb_cons (by decide) (nb_cons (by decide) nb_nil)))))
  · have e := readS_oct h [60, 109, 64, 110, 62]
    rw [ho] at e
    have e : readS ((60 :: o ++ [62]) ++ [60, 109, 64, 110, 62]) = p :: readS [60, 109, 64, 110, 62] := e
    have e2 : readS [60, 109, 64, 110, 62] = [[109, 64, 110]] := by decide +kernel
    show readS (120 :: 32 :: ((60 :: o ++ [62]) ++ [60, 109, 64, 110, 62])) = _
    rw [readS_skip (by decide), skip_other (by decide) (by decide), readS_32, e, e2]
theorem unwritten {p : List UInt8} (h : canB p = false) : octsOf [p] = none := by
  unfold octsOf
  rw [cannot h]; rfl
end Mine
end
section
open PySem PySem.W PySem.Spec PySem.Calls PyProof.Rows
namespace Mine
section
variable {w : World} {mean : ExcName → Option Value} {mg mb : Str → Option Value} {base g G h : Heap} {A : Around} {L a e : Addr} {m : Str → Option Value} {news : List (Addr × Obj)} {name : Str} {scope : Scope} {cd : Value} {s : Shared} {Q E : Value → Shared → Prop} {f : Addr} {args : List Value} {l : List UInt8} {td : Tok} {ps os : List (List UInt8)} {vs : List Value} {P0 : Addr} {ep : Nat} {p : List UInt8}
theorem fr_turn {g' h' : Heap} (T : KtsTurn (frs []) g g') (F : Fr g L G m) (F' : Fr g' L h' m) : Fr g L h' m := ⟨F'.ns, fun b o q => F'.keep b o (T.other b o q (by simp [frs])), F.above⟩
theorem news_turn {g' h' : Heap} (T : KtsTurn (frs []) g g') (N : News g' L h' news) : News g L h' news := fun p hp => ⟨(N p hp).1, (N p hp).2.1, turn_new T (N p hp).2.2⟩
theorem call_read0 (hb : Bas w mean mg mb base) (hz : l.length ≤ 65536) (hl : NoBad l) (hr : readS l = ps) (B : Below A base [] g) (F : Fr g L s.heap m) (N : News g L s.heap news) (hh : A.handled = none) (hd : A.depth + 111 < recursionLimit) (hu : A.units + 2003 < cLine) (hk : scope.kind = .function)
    (ret : ∀ D vs ep h' tk', StrsAre vs (ps.map strB) → Fr g L h' m → News g L h' ((D, listOf (List.toArray vs) ep) :: news) → AllNe D news → Q (.ref D) { s with heap := h', toks := tk' }) :
    wpAny (model PySem.Challenge.rw_no0368_01.row.toRowW.prog w) (A.deeper (envOf name scope L a cd)) (call (.ref 149) [.bytes l.toArray td]) Q E s := by
  refine call_specC (read_spec hb hz hl) B F N (fun _ => hh) hd hu hk hb (fun r h' tk' g' T _ F' N' _ _ _ hR => ?_) False.elim
  obtain ⟨D, vs, ep, rfl, hD, ho, hS⟩ := hR
  rw [hr] at hS
  exact ret D vs ep h' tk' hS (fr_turn T F F') (news_cons' F hD (news_turn T N') ho) (allNe_of (news_ne N hD))
theorem call_lread (hb : Bas w mean mg mb base) (hz : l.length ≤ 65536) (hr : lreadS l = ps) (B : Below A base [] g) (F : Fr g L s.heap m) (N : News g L s.heap news) (hh : A.handled = none) (hd : A.depth + 71 < recursionLimit) (hu : A.units + 1303 < cLine) (hk : scope.kind = .function)
    (ret : ∀ D vs ep h' tk', StrsAre vs (ps.map strB) → Fr g L h' m → News g L h' ((D, listOf (List.toArray vs) ep) :: news) → AllNe D news → Q (.ref D) { s with heap := h', toks := tk' }) :
    wpAny (model PySem.Challenge.rw_no0368_01.row.toRowW.prog w) (A.deeper (envOf name scope L a cd)) (call (.ref 230) [.bytes l.toArray td]) Q E s := by
  refine call_spec (lread_spec hb hz) B F N (fun _ => hh) hd hu hk (fun r h' tk' F' N' _ hR => ?_) False.elim
  obtain ⟨D, vs, ep, rfl, hD, ho, hS⟩ := hR
  rw [hr] at hS
  exact ret D vs ep h' tk' hS F' (news_cons' F hD N' ho) (allNe_of (news_ne N hD))
theorem call_write (hb : Bas w mean mg mb base) (hm : (P0, listOf (List.toArray vs) ep) ∈ news) (hv : StrsAre vs (ps.map strB)) (ho : octsOf ps = some os) (hp : ∀ p ∈ ps, p.length ≤ 65536) (hn : ps.length ≤ 65536) (hsum : 4 * (ps.map List.length).sum + 10 * ps.length ≤ 16777216) (B : Below A base [] g) (F : Fr g L s.heap m) (N : News g L s.heap news) (hh : A.handled = none) (hd : A.depth + 71 < recursionLimit) (hu : A.units + 1303 < cLine) (hk : scope.kind = .function)
    (ret : ∀ t h' tk', Fr g L h' m → News g L h' news → Q (.bytes (jn [32] os).toArray t) { s with heap := h', toks := tk' }) :
    wpAny (model PySem.Challenge.rw_no0368_01.row.toRowW.prog w) (A.deeper (envOf name scope L a cd)) (call (.ref 166) [.ref P0]) Q E s := by
  refine call_spec (write_spec hb ⟨_, (N _ hm).1, rfl, ep, rfl⟩ hv hp hn hsum) B F N (fun _ => hh) hd hu hk (fun r h' tk' F' N' _ hR => ?_) (fun x => by rw [ho] at x; cases x)
  obtain ⟨os', t, h1, rfl⟩ := hR
  rw [ho] at h1
  cases h1
  exact ret t h' tk' F' N'
theorem call_write_no (hb : Bas w mean mg mb base) (hm : (P0, listOf (List.toArray vs) ep) ∈ news) (hv : StrsAre vs (ps.map strB)) (ho : octsOf ps = none) (hp : ∀ p ∈ ps, p.length ≤ 65536) (hn : ps.length ≤ 65536) (hsum : 4 * (ps.map List.length).sum + 10 * ps.length ≤ 16777216) (B : Below A base [] g) (F : Fr g L s.heap m) (N : News g L s.heap news) (hh : A.handled = none) (hd : A.depth + 71 < recursionLimit) (hu : A.units + 1303 < cLine) (hk : scope.kind = .function)
    (exn : ∀ e h' tk', Raised s.heap (envOf name scope L a cd :: []) e h' → E (.ref e) { s with heap := h', toks := tk' }) :
    wpAny (model PySem.Challenge.rw_no0368_01.row.toRowW.prog w) (A.deeper (envOf name scope L a cd)) (call (.ref 166) [.ref P0]) Q E s := by
  refine call_spec (write_spec hb ⟨_, (N _ hm).1, rfl, ep, rfl⟩ hv hp hn hsum) B F N (fun _ => hh) hd hu hk (fun r h' tk' F' N' _ hR => ?_) (fun _ => exn)
  obtain ⟨os', t, h1, _⟩ := hR
  rw [ho] at h1; cases h1
theorem caught0 {E : Value → Shared → Prop} {s' : Shared} {b₀ : Stmt} {suite : List Stmt} {pos np : Pos} {rest : List ExceptHandler} {Q : Flow → Shared → Prop}
    (hb : Bas w mean mg mb base) (K : Below A base [] g) (F : Fr g L G m) (N : News g L G news) (R : Raised G (envOf name scope L a cd :: []) e s'.heap)
    (k : ∀ h' oe vs, oe.data = .fields vs → vs[2]? = some .none → Fr g L h' m → News g L h' ((e, oe) :: news) →
      wpAny (model PySem.Challenge.rw_no0368_01.row.toRowW.prog w) ((A.deeper (envOf name scope L a cd)).mark (some (.ref e))) (execs (b₀ :: suite) (envOf name scope L a cd)) Q E { s' with heap := h' })
    (hk : scope.kind = .function := by rfl) (hx : (envOf name scope L a cd).kindOf (Str.ofString "WordFault") = some .globalImplicit := by rfl)
    (hE : PassesOwnAt (model PySem.Challenge.rw_no0368_01.row.toRowW.prog w) ((A.deeper (envOf name scope L a cd)).mark (some (.ref e))) (A.deeper (envOf name scope L a cd)) (envOf name scope L a cd) E := by passes_own) :
    wpAny (model PySem.Challenge.rw_no0368_01.row.toRowW.prog w) (A.deeper (envOf name scope L a cd)) (noteFrame (.ref e) (envOf name scope L a cd))
      (fun _ s₂ => wpAny (model PySem.Challenge.rw_no0368_01.row.toRowW.prog w) (A.deeper (envOf name scope L a cd)) (setFlight (.ref e) none) (fun _ s₃ =>
        wpAny (model PySem.Challenge.rw_no0368_01.row.toRowW.prog w) (A.deeper (envOf name scope L a cd)) (handleBy (.ref e) (envOf name scope L a cd) (.ExceptHandler (some (.Name (Str.ofString "WordFault") np)) none (b₀ :: suite) pos :: rest)) Q E s₃) E s₂) E s' :=
  caughtC hb K F N R (fun h' g' oe vs h1 h2 T F' N' _ _ _ => k h' oe vs h1 h2 (fr_turn T F F') (news_turn T N')) hk hx hE
theorem call_can (hb : Bas w mean mg mb base) (hz : p.length ≤ 65536) (B : Below A base [] g) (F : Fr g L s.heap m) (N : News g L s.heap news) (hh : A.handled = none) (hd : A.depth + 21 < recursionLimit) (hu : A.units + 403 < cLine) (hk : scope.kind = .function)
    (ret : ∀ h' tk', Fr g L h' m → News g L h' news → Q (.bool (canB p)) { s with heap := h', toks := tk' }) :
    wpAny (model PySem.Challenge.rw_no0368_01.row.toRowW.prog w) (A.deeper (envOf name scope L a cd)) (call (.ref 240) [.str (strB p) td]) Q E s := by
  have B' := B.push (name := name) (a := a) (cd := cd) F hk
  refine can_spec hb hz _ _ _ _ (.inl hh) B' (by show A.depth + 1 + 20 < _; omega) (by show A.units + 3 + 400 < _; omega) fun r h' tk' k hr => ?_
  rw [show r = .bool (canB p) from hr]
  exact ret h' tk' (F.keeps k) fun q hq => ⟨k _ _ (N q hq).1, (N q hq).2⟩
theorem call_can_handled {oe : Obj} {ws : Array Value} (hb : Bas w mean mg mb base) (hz : p.length ≤ 65536) (h1 : oe.data = .fields ws) (h2 : ws[2]? = some .none) (hm : (e, oe) ∈ news) (B : Below A base [] g) (F : Fr g L s.heap m) (N : News g L s.heap news) (hd : A.depth + 21 < recursionLimit) (hu : A.units + 403 < cLine) (hk : scope.kind = .function)
    (ret : ∀ h' tk', Fr g L h' m → News g L h' news → Q (.bool (canB p)) { s with heap := h', toks := tk' }) :
    wpAny (model PySem.Challenge.rw_no0368_01.row.toRowW.prog w) ((A.deeper (envOf name scope L a cd)).mark (some (.ref e))) (call (.ref 240) [.str (strB p) td]) Q E s := by
  have B' := B.push (name := name) (a := a) (cd := cd) F hk
  refine can_spec hb hz _ _ _ _ (.inr ⟨e, oe, ws, rfl, (N _ hm).1, h1, h2⟩) ⟨B'.stack, B'.stays, B'.frames⟩ (by show A.depth + 1 + 20 < _; omega) (by show A.units + 3 + 400 < _; omega) fun r h' tk' k hr => ?_
  rw [show r = .bool (canB p) from hr]
  exact ret h' tk' (F.keeps k) fun q hq => ⟨k _ _ (N q hq).1, (N q hq).2⟩
end
end Mine
end
section
open PySem PySem.W PySem.Spec PySem.Calls PyProof.Rows
namespace Mine
section
variable {w : World} {mean : ExcName → Option Value} {mg mb : Str → Option Value} {base g G h : Heap} {A : Around} {L a e : Addr} {m : Str → Option Value} {news : List (Addr × Obj)} {name : Str} {scope : Scope} {cd : Value} {s : Shared} {Q E : Value → Shared → Prop} {l : List UInt8} {td : Tok} {ps : List (List UInt8)} {vs ws : List Value} {xs : List Str} {b : Addr} {prog : Program}
theorem texts_eq' (ha : s.heap.IsList a vs.toArray) (hb : s.heap.IsList b ws.toArray) (hv : StrsAre vs xs) (hw : StrsAre ws xs) (hu : A.units < cLine) (h : Q (.bool true) s) : wpAny (model prog w) A (compareOp .Eq (.ref a) (.ref b)) Q E s := texts_eq hv hw ha hb hu h
theorem texts_ne' (ha : s.heap.IsList a vs.toArray) (hb : s.heap.IsList b ws.toArray) (hv : StrsAre vs xs) (hw : StrsAre ws xs) (hu : A.units < cLine) (h : Q (.bool false) s) : wpAny (model prog w) A (compareOp .NotEq (.ref a) (.ref b)) Q E s := texts_ne hv hw ha hb hu h
theorem isl_keep {h h' : Heap} {vs : Array Value} (hl : h.IsList a vs) (k : ∀ b o, h.get? b = some o → h'.get? b = some o) : h'.IsList a vs := by
  obtain ⟨o, k1, k2, k3⟩ := hl
  exact ⟨o, k _ _ k1, k2, k3⟩
theorem strs_len (h : StrsAre vs (ps.map strB)) : vs.length = ps.length := by rw [StrsAre.len_eq h, List.length_map]
theorem call_read1 (hb : Bas w mean mg mb base) (hz : l.length ≤ 65536) (hl : NoBad l) (hr : readS l = ps) (B : Below A base [] g) (F : Fr g L s.heap m) (N : News g L s.heap news) (hh : A.handled = none) (hd : A.depth + 111 < recursionLimit) (hu : A.units + 2003 < cLine) (hk : scope.kind = .function)
    (ret : ∀ D vs ep h' tk', StrsAre vs (ps.map strB) → vs.length = ps.length → Fr g L h' m → News g L h' ((D, listOf (List.toArray vs) ep) :: news) → AllNe D news → Q (.ref D) { s with heap := h', toks := tk' }) :
    wpAny (model PySem.Challenge.rw_no0368_01.row.toRowW.prog w) (A.deeper (envOf name scope L a cd)) (call (.ref 149) [.bytes l.toArray td]) Q E s :=
  call_read0 hb hz hl hr B F N hh hd hu hk fun D vs ep h' tk' hS => ret D vs ep h' tk' hS (strs_len hS)
theorem call_write' {os : List (List UInt8)} {P0 : Addr} {ep : Nat} (hb : Bas w mean mg mb base) (B : Below A base [] g) (F : Fr g L s.heap m) (N : News g L s.heap news) (hm : (P0, listOf (List.toArray vs) ep) ∈ news) (hv : StrsAre vs (ps.map strB)) (ho : octsOf ps = some os) (hp : ∀ p ∈ ps, p.length ≤ 65536) (hn : ps.length ≤ 65536) (hsum : 4 * (ps.map List.length).sum + 10 * ps.length ≤ 16777216) (hh : A.handled = none) (hd : A.depth + 71 < recursionLimit) (hu : A.units + 1303 < cLine) (hk : scope.kind = .function)
    (ret : ∀ t h' tk', Fr g L h' m → News g L h' news → Q (.bytes (jn [32] os).toArray t) { s with heap := h', toks := tk' }) :
    wpAny (model PySem.Challenge.rw_no0368_01.row.toRowW.prog w) (A.deeper (envOf name scope L a cd)) (call (.ref 166) [.ref P0]) Q E s :=
  call_write hb hm hv ho hp hn hsum B F N hh hd hu hk ret
end
theorem lit_man : Str.ofString "m@n" = strB [109, 64, 110] := by decide +kernel
theorem strs_two {p : List UInt8} {t u : Tok} : StrsAre [.str (strB p) t, .str (Str.ofString "m@n") u] ([p, [109, 64, 110]].map strB) := by
  rw [lit_man]
  exact .cons _ _ (.cons _ _ .nil)
end Mine
open Mine
theorem _root_.Mine.rowsX29_1 : True := by
  k_with_none
  k_with "call ref" => (k_here; (first | (with_reducible show wpAny _ _ (call (Value.ref 171) _) _ _ _) | (with_reducible show wpAny _ _ (call (Value.ref 190) _) _ _ _) | (with_reducible show wpAny _ _ (call (Value.ref 235) _) _ _ _) | (with_reducible show wpAny _ _ (call (Value.ref 166) _) _ _ _) | (with_reducible show wpAny _ _ (call (Value.ref 240) _) _ _ _)); (refine hold ?_); walk_say "HELD")
  k_with "call ref" => (k_here; (with_reducible show wpAny _ _ (call (Value.ref 149) _) _ _ _); k_dflt (refine call_read1 (by assumption) (by assumption) (by assumption) (by assumption) (by assumption) (by assumption) (by assumption) (by first | assumption | rfl) (by show 1 + claimMargin + 111 < _; decide) (by show 4 + 2003 < _; decide) rfl ?_); intro D' vs' ep' _ _ hS' hn' F' N' ne'; (try simp only [AllNe, and_true] at ne'))
  k_with "call ref" => (k_here; (with_reducible show wpAny _ _ (call (Value.ref 230) _) _ _ _); k_dflt (refine call_lread (by assumption) (by assumption) (by assumption) (by assumption) (by assumption) (by assumption) rfl (by show 1 + claimMargin + 71 < _; decide) (by show 4 + 1303 < _; decide) rfl ?_); intro D' vs' ep' _ _ hS' F' N' ne'; (try simp only [AllNe, and_true] at ne'))
  k_with "call ref" => (k_here; (with_reducible show wpAny _ _ (call (Value.ref 166) _) _ _ _); k_dflt (refine call_write' (by assumption) (by assumption) (by assumption) (by assumption) (by k_mem) (by assumption) (by assumption) (by assumption) (by assumption) (by assumption) rfl (by show 1 + claimMargin + 71 < _; decide) (by show 4 + 1303 < _; decide) rfl ?_); intro _ _ _ _ _)
  k_with "compareOp NotEq ref ref" => (k_here; (with_reducible show wpAny _ _ (compareOp CmpOp.NotEq (Value.ref _) (Value.ref _)) _ _ _); k_dflt (refine texts_ne' (by is_list) (by is_list) (by assumption) (by assumption) (by show 4 + 3 < _; decide) ?_))
  k_with "compareOp Eq ref ref" => (k_here; (with_reducible show wpAny _ _ (compareOp CmpOp.Eq (Value.ref _) (Value.ref _)) _ _ _); (refine hold ?_); walk_say "HELD")
  k_with "getMethod bytes" => (k_here; (with_reducible refine m_count ?_))
  k_with "call builtin:bytes.count" => (k_here; k_dflt (refine b_count (by assumption) ?_); intro _ _ _ _)
  k_with "call builtin:len" => (k_here; (with_reducible show wpAny _ _ (call (Value.builtin _) [Value.ref _]) _ _ _); k_dflt (refine l_len (by is_list) (by omega) ?_); intro _ _)
  k_with "binaryOp Add bytes bytes" => (k_here; (with_reducible show wpAny _ _ (binaryOp Operator.Add (Value.bytes _ _) (Value.bytes _ _)) _ _ _); k_dflt (refine b_add (by first | omega | (simp only [List.length_append, List.length_cons, List.length_nil]; omega)) ?_); intro _ _)
  k_with "ite" => (k_here; k_dflt (first
    | (refine ite_pos (by first | omega | (simp only [decide_eq_true_eq, beq_iff_eq, bne_iff_ne, ne_eq, Bool.and_eq_true, Bool.or_eq_true, Bool.not_eq_true', decide_eq_false_iff_not, beq_eq_false_iff_ne]; (repeat (with_reducible rename @Ne Addr _ _ => hq8; clear hq8)); (repeat (with_reducible rename (@Ne Addr _ _ ∧ _) => hq8; clear hq8)); omega) | exact beq_self_eq_true _) ?_; walk_say "PRUNED here")
    | (refine ite_neg (by first | omega | (simp only [decide_eq_true_eq, beq_iff_eq, bne_iff_ne, ne_eq, Bool.and_eq_true, Bool.or_eq_true, Bool.not_eq_true', decide_eq_false_iff_not, beq_eq_false_iff_ne]; (repeat (with_reducible rename @Ne Addr _ _ => hq8; clear hq8)); (repeat (with_reducible rename (@Ne Addr _ _ ∧ _) => hq8; clear hq8)); omega) | exact beq_self_eq_true _) ?_; walk_say "PRUNED here")))
  trivial
local macro_rules | `(tactic| k_qdec) => `(tactic| decide +kernel)
theorem PySem.Challenge.cw_no0368_01_holds : PySem.Challenge.rw_no0368_01.Holds := by
  refine ltop ?_
  k_go0
  all_goals (try k_fold)
  rename_i w s₀ s₁ mg mb G Y fa o pm doc kV ho hg KX X V GL T TB TE TW a8 o8 M a7 a6 hcd ns hs hlay0 hL1 hr1 hl2 aw4 aw3 S vs aw hL ra w1 r0 hI hr hcond hc2 B hD h₁ F N
  have hb : Bas w _ mg mb s₁.heap := ⟨KX, T⟩
  have B : Below callerA s₁.heap [] s₁.heap := B
  clear hD hr r0 w1 ra hc2 hl2 hr1 hL1 hlay0 hs hcd M TW TE TB GL V X ho Y G
  have hn : ns.length ≤ 63 := by omega
  clear hcond
  k_unmd
  (try k_fold)
  k_steps
  rename Fr _ _ _ _ => F
  rename News _ _ _ _ => N
  refine unhold ?_
  refine call_spec (pot_spec hb (isl_keep hL F.keep) hI hn) B F N (fun _ => rfl) (by show 1 + claimMargin + 21 < _; decide) (by show 4 + 403 < _; decide) rfl ?_ False.elim
  intro r h' tk' F' N' _ hR
  obtain ⟨P, C, rfl, hP0, hC0, vs1, st, t1, t2, e1, e2, hne, hP, hC, hi1, hs1, hv1⟩ := hR
  have N := news_cons' F hP0 (news_cons' F hC0 N' hC) hP
  clear N' hP hC hP0 hC0 F
  have F := F'
  clear F'
  k_unmd
  (try k_fold)
  k_steps
  rename Fr _ _ _ _ => F
  rename News _ _ _ _ => N
  refine unhold ?_
  refine call_specP (rest := []) (octets_spec (pl := 0) hb ⟨vs1, st, t1, t2, e1, e2, hne, (N _ (.head _)).1, (N _ (.tail _ (.head _))).1, hi1, hs1, hv1⟩ (by decide)) B F N (.head _) (.tail _ (.head _)) (fun p hp => by cases hp) rfl rfl rfl (by show 1 + claimMargin + 1 + 40 < _; decide) (by show 4 + 3 + 800 < _; decide) ?_
  intro r h2 tk2 F2 hR hN
  obtain ⟨l, t, pl2, rfl, hG, hpl2, vs2, st2, ta, tb, ea, eb, -, hP, hC, hi2, hs2, hv2⟩ := hR
  have N := hN _ _ hP hC
  clear hP hC hN F
  have F := F2
  clear F2
  obtain ⟨ps, os, hF⟩ : ∃ ps os, Found l ps os := ⟨_, _, found_of hG⟩
  obtain ⟨nb, len, rd, lrd, oc, again, nbw, lenw, many, each, few, small⟩ := hF
  k_unmd
  (try k_fold)
  k_steps
  rename Fr _ _ _ _ => F
  rename News _ _ _ _ => N
  have zP := (N _ (show (P, potObj C st2 ta pl2 tb ea) ∈ _ by k_mem)).1
  have zC := (N _ (show (C, PySem.W.listOf (List.toArray vs2) eb) ∈ _ by k_mem)).1
  refine unhold ?_
  refine call_specP (rest := []) (text_spec (pl := pl2) hb ⟨vs2, st2, ta, tb, ea, eb, hne, zP, zC, hi2, hs2, hv2⟩ (by omega)) B F N (show (P, potObj C st2 ta pl2 tb ea) ∈ _ by k_mem) (show (C, PySem.W.listOf (List.toArray vs2) eb) ∈ _ by k_mem) (fun p hp => by cases hp) rfl rfl rfl (by show 1 + claimMargin + 1 + 40 < _; decide) (by show 4 + 3 + 800 < _; decide) ?_
  intro r h3 tk3 F3 hR hN
  obtain ⟨p, tp, pl3, rfl, hp8, vs3, st3, tc, td, ec, ed, -, hP, hC, -, -, -⟩ := hR
  have N := hN _ _ hP hC
  clear zP zC hP hC hN F nb len rd lrd oc again nbw lenw many each few small
  have F := F3
  clear F3
  cases hc : canB p with
  | true =>
    obtain ⟨o, ho⟩ := written_of hp8 hc
    obtain ⟨oc2, len2, nb2, again2⟩ := ho
    have len3 : ([120, 32] ++ o ++ [60, 109, 64, 110, 62] : List UInt8).length ≤ 65536 := by simp only [List.length_append, List.length_cons, List.length_nil]; omega
    k_unmd
    (try k_fold)
    k_steps
    rename Fr _ _ _ _ => F
    rename News _ _ _ _ => N
    refine unhold ?_
    refine call_write' (ps := [p]) (os := [o]) hb B F N (.head _) (.cons _ _ .nil) oc2 (fun q hq => by rw [List.mem_singleton.mp hq]; omega) (by show 1 ≤ 65536; decide) (by simp only [List.map_cons, List.map_nil, List.sum_cons, List.sum_nil, List.length_cons, List.length_nil]; omega) rfl (by show 1 + claimMargin + 71 < _; decide) (by show 4 + 1303 < _; decide) rfl ?_
    intro to h4 tk4 F4 N4
    rw [show jn [32] [o] = o from rfl]
    clear F N
    k_unmd
    (try k_fold)
    k_steps
    rename Fr _ _ _ _ => F
    rename News _ _ _ _ => N
    refine unhold ?_
    refine call_can hb (by omega) B F N rfl (by show 1 + claimMargin + 21 < _; decide) (by show 4 + 403 < _; decide) rfl ?_
    intro h5 tk5 F5 N5
    rw [hc]
    clear F N
    k_unmd
    (try k_fold)
    k_steps
    refine unhold ?_
    refine texts_eq' (by is_list) (by is_list) (by assumption) strs_two (by show 4 + 3 < _; decide) ?_
    k_unmd
    (try k_fold)
    k_steps
  | false =>
    k_unmd
    (try k_fold)
    k_steps
    rename Fr _ _ _ _ => F
    rename News _ _ _ _ => N
    refine unhold ?_
    refine call_write_no (ps := [p]) hb (.head _) (.cons _ _ .nil) (unwritten hc) (fun q hq => by rw [List.mem_singleton.mp hq]; omega) (by show 1 ≤ 65536; decide) (by simp only [List.map_cons, List.map_nil, List.sum_cons, List.sum_nil, List.length_cons, List.length_nil]; omega) B F N rfl (by show 1 + claimMargin + 71 < _; decide) (by show 4 + 1303 < _; decide) rfl ?_
    intro e h4 tk4 R
    refine caught0 hb B F N R ?_
    clear F N
    intro h5 oe ws k1 k2 F N
    k_unmd
    (try k_fold)
    k_steps
    rename Fr _ _ _ _ => F
    rename News _ _ _ _ => N
    refine unhold ?_
    refine call_can_handled hb (by omega) k1 k2 (.head _) B F N (by show 1 + claimMargin + 21 < _; decide) (by show 4 + 403 < _; decide) rfl ?_
    intro h6 tk6 F6 N6
    rw [hc]
    clear F N
    k_unmd
    (try k_fold)
    k_steps
end

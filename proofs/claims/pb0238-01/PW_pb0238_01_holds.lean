import PyProof.Rows.All
import Wide.All
import OpenK.AllK
import Wide.FinOn
import PyProof.ExcBaseAll.Exception
import PyProof.InstStoreFacts
import PyProof.ExcAttrAll.Exception
import PySem.Challenge.RW_pb0238_01
open PySem PySem.W PyProof.Rows
set_option Elab.async false
set_option rowWalk.seconds 0
set_option linter.all false
set_option compiler.extract_closed false

section
open PySem PySem.W PyProof.Rows
set_option Elab.async false
set_option maxRecDepth 100000
set_option maxHeartbeats 0
namespace Mine
section
variable {tb : String → Option Builtin} {p : Program} {w : World} {n₀ : Nat} {ann : Option Value}
/-- the run of a text over a heap laid as a tree -/
noncomputable def treeRun (tb : String → Option Builtin) (p : Program) (w : World) (n₀ : Nat) (ann : Option Value) : Nat → SharedT → Thread → Option SharedT
  | 0, _, _ => none
  | n + 1, s, t => match through t with
    | true => some s
    | false => match stepOk n₀ ann t with
      | false => none
      | true => match stepT (denote tb) p w s t with
        | some (s', t') => treeRun tb p w n₀ ann n s' t'
        | none => none
theorem treeRun_of : ∀ {n : Nat} {s s' : SharedT} {t : Thread}, treeRun tb p w n₀ ann n s t = some s' → topRun tb p w n₀ ann n s.abs t = some s'.abs
  | 0, _, _, _, h => by cases h
  | n + 1, s, s', t, h => by
    unfold treeRun at h
    unfold topRun
    cases ht : through t with
    | true => rw [ht] at h; cases h; rfl
    | false =>
      rw [ht] at h
      cases hk : stepOk n₀ ann t with
      | false => rw [hk] at h; cases h
      | true =>
        rw [hk] at h
        cases hs : stepT (denote tb) p w s t with
        | none => rw [hs] at h; cases h
        | some r => obtain ⟨s₂, t₂⟩ := r; rw [hs] at h; rw [stepT_spec hs]; exact treeRun_of h
end
/-- the objects of the boot, laid as a tree -/
noncomputable def bootTree (P : Params) : BT := ((boot_heap P).objs.toList.foldl (fun (q : BT × Nat) o => (q.1.ins q.2 o, q.2 + 1)) (BT.nil, 0)).1
theorem left_tree {p q : Program} {loose : List Str} {Xt : Shared → Bool} {α : Type} {Yf : Shared → α} {Ya : World → α} {N : Nat} {g0 : Bool}
    (e : opening p = plainProg p.main.scope.names) (hN : Nat.ble 600 N = true) (f : ∀ s, fenceModules? p s = some s)
    (tree : ∀ P : Params, absHeap (bootTree P) (boot_heap P).objs.size (boot_heap P).life = boot_heap P)
    (size : ∀ w : World, (boot_heap w.params).isNs mainGlobals = true)
    (run : ∀ (w : World) (os : OsState), (treeRun treeTable p w (boot_heap w.params).objs.size ((boot_heap w.params).nsMap mainGlobals "__annotations__") N ⟨bootTree w.params, (boot_heap w.params).objs.size, (boot_heap w.params).life, #[], boot_drawn, boot_toks, os⟩ (topStub p)).map (fun s =>
        ((staticsOk (importedModules p.main.body) (boot_heap w.params) s.abs.heap && namesBound p s.abs.heap && gensDone s.abs && laidKept (boot_heap w.params) s.abs.heap), openSeen q loose (importedModules p.main.body) Xt g0 s.abs, Yf s.abs)) = some (true, openGood q loose, Ya w)) :
    LeftO p q loose Xt Yf Ya N g0 := fun w => by
  obtain ⟨⟨h, gs, d, k, os⟩, e1, e'⟩ := Option.map_eq_some_iff.mp (boot_open e hN f w)
  obtain ⟨rfl, rfl, rfl, rfl⟩ : h = boot_heap w.params ∧ gs = #[] ∧ d = boot_drawn ∧ k = boot_toks := by simpa using e'
  obtain ⟨s₁, r, x⟩ := Option.map_eq_some_iff.mp (run w os)
  obtain ⟨l1, l2, l3⟩ : _ ∧ _ ∧ _ := by simpa only [Prod.mk.injEq] using x
  have r' := treeRun_of r
  rw [show SharedT.abs ⟨bootTree w.params, (boot_heap w.params).objs.size, (boot_heap w.params).life, #[], boot_drawn, boot_toks, os⟩ = ⟨boot_heap w.params, #[], boot_drawn, boot_toks, os⟩ by unfold SharedT.abs; rw [tree]] at r'
  have t : topFrom treeTable p w N ⟨boot_heap w.params, #[], boot_drawn, boot_toks, os⟩ = some s₁.abs := by
    unfold topFrom
    dsimp only
    rw [size]
    show (Option.bind (topRun treeTable p w _ _ N _ (topStub p)) _) = _
    rw [r']
    show (match staticsOk (importedModules p.main.body) (boot_heap w.params) s₁.abs.heap && namesBound p s₁.abs.heap && gensDone s₁.abs && laidKept (boot_heap w.params) s₁.abs.heap with | true => _ | false => _) = _
    rw [l1]
  unfold openEnds
  rw [e1]
  show (topFrom treeTable p w N _).map _ = _
  rw [t]
  exact congrArg some (Prod.ext l2 l3)
theorem boot_tree : ∀ P : Params, absHeap (bootTree P) (boot_heap P).objs.size (boot_heap P).life = boot_heap P := by intro P; kernel_rfl
theorem boot_ns : ∀ w : World, (boot_heap w.params).isNs mainGlobals = true := by intro w; kernel_rfl
noncomputable def keepAt (ks : List Nat) (l : List Stmt) : List Stmt := ks.filterMap fun i => l[i]?
noncomputable def hd.view_39 : Program := { PySem.Challenge.pw_pb0238_01 with main := { PySem.Challenge.pw_pb0238_01.main with body := keepAt [0, 2, 3, 4, 5, 7, 8, 10, 11, 12, 13, 14, 15, 16, 17, 19, 20, 21, 22, 23, 24, 25, 26, 27] PySem.Challenge.pw_pb0238_01.main.body } }
noncomputable abbrev law := PySem.Challenge.rw_pb0238_01
local macro_rules | `(tactic| o_head $H) => `(tactic| (refine holds_open (q := hd.view_39) (loose := [Str.ofString "LedgerError"]) (Xt := fun s => xlAt hd.view_39 [] s && recOk (RowW.records (OpenRow.toRowW law.row)) s) (XP := XL hd.view_39 []) (Yf := Hook.obs $H) (Ya := Hook.val $H) (YP := Hook.says $H) (N := 4434) ?hl (Hook.of $H) (Hook.keeps $H) (fun s e => xl_of s (Bool.and_eq_true_iff.mp e).1) XL.keeps (by rfl) (by rfl) (by rfl) (fun s e => recFacts_of (Bool.and_eq_true_iff.mp e).2) (by rfl) (by first | assumption | decide +kernel) (by decide +kernel) ⟨rfl, rfl, rfl, rfl, rfl, by decide +kernel⟩ ?hw ?hc; (case hl => (refine left_tree (by kernel_rfl) (by decide) (fun _ => rfl) boot_tree boot_ns ?_; (intro w os; kernel_rfl)))))
local macro_rules | `(tactic| o_law) => `(tactic| (refine holds_law (by decide +kernel) fun said => ?_))
open_top hd for PySem.Challenge.rw_pb0238_01
end Mine
end

section
local macro_rules | `(tactic| walk_at $s:str) => `(tactic| k_extra $s)
local macro_rules | `(tactic| k_qdec) => `(tactic| decide +kernel)

section
open PySem PySem.W PyProof.Rows
set_option Elab.async false
set_option maxRecDepth 100000
set_option maxHeartbeats 8000000
namespace Mine
theorem setBase0 : True := by
  w_top off
  k_with_none
  trivial
noncomputable abbrev PR : Program := PySem.Challenge.rw_pb0238_01.row.prog
noncomputable abbrev LO : List Str := looseW hd.view_39 [Str.ofString "LedgerError"]
noncomputable abbrev KK (w : World) : Frag := hd.heap_1 w.params
/-- a key's entry of an object's own dict -/
noncomputable abbrev ent (P : Params) (k : String) (t : Tok) (v : Value) : DictEntry := ⟨PyData.keyHash P (Str.ofString k), .str (Str.ofString k) t, v⟩
noncomputable abbrev tupOf (its : Array Value) (n : Nat) : Obj := { cls := .type "tuple", data := .seq its n }
noncomputable abbrev SK (w : World) := PySem.strKind PySem.Challenge.rw_pb0238_01.row.prog w
/-- what is handed on behind a run, by a name that a line can find -/
structure Kont (p : Prop) : Prop where
  out : p
/-- a place where the walk stops -/
structure Stop (p : Prop) : Prop where
  out : p
end Mine
end

section
open PySem PySem.W PyProof.Rows
set_option Elab.async false
set_option maxRecDepth 100000
set_option maxHeartbeats 4000000
namespace Mine
theorem setFly0 : True := by
  w_top off
  k_with_none
  trivial
open PySem.Calls

/-- an exception's fields, with nothing behind it -/
def Clean (vs : Array Value) : Prop := vs[2]? = some .none ∧ vs.size = 6
/-- an exception under way: what stays, its frames, its own object with its dict, its traceback's newest entry -/
structure Flies (base : Heap) (l : List Env) (e : Addr) (cls : Value) (dd : Option Addr) (a0 fl : Value) (h : Heap) : Prop where
  stays : base.StaysIn h
  new : base.get? e = none
  frames : h.FunFrames base l
  exc : ∃ vs sl T oT ts, h.get? e = some ⟨cls, dd, .fields vs, sl⟩ ∧ vs[0]? = some a0 ∧ Clean vs ∧ vs[1]? = some (.ref T) ∧
    base.get? T = none ∧ T ≠ e ∧ h.get? T = some oT ∧ oT.data = .fields ts ∧ ts[3]? = some fl

section
variable {M : Model} {A : Around} {E : Value → Shared → Prop} {s : Shared}

theorem fly_entry {base : Heap} {env : Env} {outer : List Env} {L e : Addr} {cls a0 head : Value} {dd : Option Addr} {vs : Array Value} {sl : Array (Option Value)} {hadNext : Bool} {Q : Unit → Shared → Prop}
    (hfr : A.frames = some (env :: outer)) (hl : s.heap.FunFrames base (env :: outer)) (hf : env.frame = some L) (hb : base.StaysIn s.heap) (hen : base.get? e = none)
    (he : s.heap.get? e = some ⟨cls, dd, .fields vs, sl⟩) (hsz : 2 < vs.size) (h0 : vs[0]? = some a0) (h2 : Clean vs)
    (hQ : ∀ h', Flies base (env :: outer) e cls dd a0 (rawInt L) h' → s.heap.UpToSlots h' → Q () { s with heap := h' }) :
    wpAny M A (do let a ← frameOf env; let pl ← entryPlaceOf L hadNext; let b ← EntryCells.newEntry head a .none (rawInt L) .none pl; setField (.ref e) 1 b) Q E s := by
  have notFrame : e ∉ (env :: outer).filterMap (·.frame) := fun hm => by
    obtain ⟨_, o, ho, hnf⟩ := hl.mem hm
    rw [he] at ho
    cases ho
    exact hnf vs rfl
  refine wpAny_bind (wpAny_frameOf_fun hfr hl hf fun h₁ hs₁ => ?_)
  refine wpAny_bind (wpAny_entryPlaceOf fun pl hpl => ?_)
  unfold EntryCells.newEntry newFields
  refine wpAny_bind (wpAny_newObj_type ?_ (hpl.sizeOk5 _ _ _ _ _))
  have he₁ : h₁.get? e = some ⟨cls, dd, .fields vs, sl⟩ := (hs₁.2.1 e notFrame).trans he
  have hb₁ : base.StaysIn h₁ := fun b o hbo => (hs₁.2.1 b fun hm => by rw [(hl.mem hm).1] at hbo; cases hbo).trans (hb b o hbo)
  generalize hTo : ({ cls := .type "traceback", dict := none, data := .fields ([head, .ref L, .none, rawInt L, .none] ++ (if pl.isEmpty then List.replicate 6 Value.none else pl)).toArray } : Obj) = oT
  have hTd : ∃ ts, oT.data = .fields ts ∧ ts[3]? = some (rawInt L) := ⟨_, by rw [← hTo], by simp⟩
  have hTf : oT.isFreed = false := by obtain ⟨ts, q, _⟩ := hTd; exact Obj.isFreed_of_fields q
  have he₂ := Heap.get?_push_of_some (h := h₁) oT he₁
  have hTe : h₁.objs.size ≠ e := Nat.ne_of_gt (Heap.lt_size he₁)
  refine wpAny_setField he₂ rfl (show 1 < vs.size by omega) (hQ _ ?_ ?_)
  · have he₃ := Heap.get?_update_self (Obj.mapFields (·.setIfInBounds 1 (Value.ref h₁.objs.size))) he₂ rfl
    have hT₃ := (Heap.get?_update_other (h₁.push oT) (Obj.mapFields (·.setIfInBounds 1 (Value.ref h₁.objs.size))) (Ne.symm hTe)).trans (Heap.get?_push_size h₁ hTf)
    have other : ∀ b o, b ≠ e → h₁.get? b = some o → ((h₁.push oT).update e (Obj.mapFields (·.setIfInBounds 1 (Value.ref h₁.objs.size)))).get? b = some o := fun b o hbe q => by
      rw [Heap.get?_update_other _ _ (Ne.symm hbe)]
      exact Heap.get?_push_of_some _ q
    obtain ⟨ts, q1, q2⟩ := hTd
    refine ⟨fun b o hbo => other b o (fun q => by rw [q, hen] at hbo; cases hbo) (hb₁ b o hbo), hen, hl.of_keeps fun b o hbo hnf => ?_, ?_⟩
    · obtain ⟨sl', q⟩ := hs₁.2.2 b o hbo
      exact ⟨_, other b _ (fun z => by subst z; rw [he] at hbo; cases hbo; exact hnf vs rfl) q, rfl⟩
    · refine ⟨_, _, h₁.objs.size, oT, ts, he₃, ?_, ?_, ?_, hb₁.fresh, hTe, hT₃, q1, q2⟩
      · rw [Array.getElem?_setIfInBounds_ne (by decide)]; exact h0
      · exact ⟨by rw [Array.getElem?_setIfInBounds_ne (by decide)]; exact h2.1, by rw [Array.size_setIfInBounds]; exact h2.2⟩
      · have : 1 < vs.size := by omega
        simp [this]
  · intro b o hbo hnf
    obtain ⟨sl', q⟩ := hs₁.2.2 b o hbo
    refine ⟨sl', ?_⟩
    show ((h₁.push oT).update e _).get? b = _
    rw [Heap.get?_update_other _ _ (fun z => by subst z; rw [he] at hbo; cases hbo; exact hnf vs rfl)]
    exact Heap.get?_push_of_some _ q

theorem fly_set {base : Heap} {l : List Env} {e : Addr} {cls a0 fl : Value} {dd : Option Addr} {f : Option Addr} {Q : Unit → Shared → Prop} (x : Flies base l e cls dd a0 fl s.heap)
    (hQ : ∀ h', Flies base l e cls dd a0 (f.elim .none fun a => rawInt a) h' → s.heap.UpToSlots h' → Q () { s with heap := h' }) : wpAny M A (setFlight (.ref e) f) Q E s := by
  obtain ⟨hb, hen, hl, vs, sl, T, oT, ts, he, h0, h2, h1, hnT, hTe, hT, hdT, h3⟩ := x
  have hsz3 : 3 < ts.size := (Array.getElem?_eq_some_iff.mp h3).1
  unfold setFlight
  refine wpAny_bind (wpAny_field he rfl h1 ?_)
  rw [if_pos (show (Value.ref T != Value.none) = true from by simp)]
  have other : ∀ b, b ≠ T → (s.heap.update T (Obj.mapFields (·.setIfInBounds 3 (f.elim Value.none fun a => rawInt a)))).get? b = s.heap.get? b := fun b q => Heap.get?_update_other _ _ (Ne.symm q)
  have noT : ∀ b o, s.heap.get? b = some o → (∀ vs, o.data ≠ .fields vs) → b ≠ T := fun b o hbo hnf q => by
    subst q; rw [hT] at hbo; cases hbo; exact hnf ts hdT
  refine wpAny_setField hT hdT hsz3 (hQ _ ⟨fun b o hbo => (other b fun q => by rw [q, hnT] at hbo; cases hbo).trans (hb b o hbo), hen, hl.of_keeps fun b o hbo hnf => ⟨o, (other b (noT b o hbo hnf)).trans hbo, rfl⟩, ?_⟩ fun b o hbo hnf => ⟨o.slots, (other b (noT b o hbo hnf)).trans hbo⟩)
  exact ⟨vs, sl, T, _, _, (other e (Ne.symm hTe)).trans he, h0, h2, h1, hnT, hTe, Heap.get?_update_self _ hT (Obj.isFreed_of_fields (Obj.data_mapFields hdT _)), Obj.data_mapFields hdT _, by simp [hsz3]⟩

/-- a frame's first note of an exception that has no traceback yet, and on its way out -/
theorem fly_first {base : Heap} {env : Env} {outer : List Env} {L e : Addr} {cls a0 : Value} {dd : Option Addr} {vs : Array Value} {sl : Array (Option Value)} {Q : Unit → Shared → Prop}
    (hfr : A.frames = some (env :: outer)) (hl : s.heap.FunFrames base (env :: outer)) (hf : env.frame = some L) (hb : base.StaysIn s.heap) (hen : base.get? e = none)
    (he : s.heap.get? e = some ⟨cls, dd, .fields vs, sl⟩) (h0 : vs[0]? = some a0) (h1 : vs[1]? = some .none) (h2 : Clean vs)
    (hQ : ∀ h', Flies base outer e cls dd a0 .none h' → s.heap.UpToSlots h' → Q () { s with heap := h' }) : wpAny M A (leaving env (.ref e)) Q E s := by
  unfold leaving noteFrame
  simp only [hf]
  refine wpAny_bind (wpAny_bind (wpAny_field he rfl h1 ?_))
  rw [if_neg (by decide)]
  refine fly_entry hfr hl hf hb hen he (Array.getElem?_eq_some_iff.mp h2.1).1 h0 h2 fun h' x u => fly_set x fun h'' x' u' => hQ h'' ⟨x'.stays, x'.new, x'.frames.2.2, x'.exc⟩ (u.trans u')

theorem fly_note {base : Heap} {env : Env} {outer : List Env} {L e : Addr} {cls a0 : Value} {dd : Option Addr} {Q : Unit → Shared → Prop}
    (hfr : A.frames = some (env :: outer)) (hf : env.frame = some L) (x : Flies base (env :: outer) e cls dd a0 .none s.heap)
    (hQ : ∀ h', Flies base (env :: outer) e cls dd a0 (rawInt L) h' → s.heap.UpToSlots h' → Q () { s with heap := h' }) : wpAny M A (noteFrame (.ref e) env) Q E s := by
  obtain ⟨hb, hen, hl, vs, sl, T, oT, ts, he, h0, h2, h1, hnT, hTe, hT, hdT, h3⟩ := x
  have hsz3 : 3 < ts.size := (Array.getElem?_eq_some_iff.mp h3).1
  unfold noteFrame
  simp only [hf]
  refine wpAny_bind (wpAny_field he rfl h1 ?_)
  rw [if_pos (show (Value.ref T != Value.none) = true from by simp)]
  refine wpAny_bind (wpAny_field hT hdT h3 ?_)
  rw [if_neg (show ¬ ((Value.none == rawInt L) = true) from by simp [rawInt])]
  have other : ∀ b, b ≠ T → (s.heap.update T (Obj.mapFields (·.setIfInBounds 3 Value.none))).get? b = s.heap.get? b := fun b q => Heap.get?_update_other _ _ (Ne.symm q)
  have noT : ∀ b o, s.heap.get? b = some o → (∀ vs, o.data ≠ .fields vs) → b ≠ T := fun b o hbo hnf q => by
    subst q; rw [hT] at hbo; cases hbo; exact hnf ts hdT
  refine wpAny_bind (wpAny_setField hT hdT hsz3 ?_)
  refine fly_entry hfr (hl.of_keeps fun b o hbo hnf => ⟨o, (other b (noT b o hbo hnf)).trans hbo, rfl⟩) hf (fun b o hbo => (other b fun q => by rw [q, hnT] at hbo; cases hbo).trans (hb b o hbo)) hen
    ((other e (Ne.symm hTe)).trans he) (Array.getElem?_eq_some_iff.mp h2.1).1 h0 h2 fun h' x' u' => hQ h' x' fun b o hbo hnf => u' b o ((other b (noT b o hbo hnf)).trans hbo) hnf

theorem fly_again {base : Heap} {env : Env} {l : List Env} {L e : Addr} {cls a0 : Value} {dd : Option Addr} {Q : Unit → Shared → Prop} (hf : env.frame = some L) (x : Flies base l e cls dd a0 (rawInt L) s.heap) (h : Q () s) :
    wpAny M A (noteFrame (.ref e) env) Q E s := by
  obtain ⟨hb, hen, hl, vs, sl, T, oT, ts, he, h0, h2, h1, hnT, hTe, hT, hdT, h3⟩ := x
  unfold noteFrame
  simp only [hf]
  refine wpAny_bind (wpAny_field he rfl h1 ?_)
  rw [if_pos (show (Value.ref T != Value.none) = true from by simp)]
  refine wpAny_bind (wpAny_field hT hdT h3 ?_)
  rw [if_pos (show (rawInt L == rawInt L) = true from by simp)]
  exact wpAny_pure h

/-- leaving a frame that had it already -/
theorem fly_held {base : Heap} {env : Env} {outer : List Env} {L e : Addr} {cls a0 : Value} {dd : Option Addr} {Q : Unit → Shared → Prop} (hf : env.frame = some L) (x : Flies base (env :: outer) e cls dd a0 (rawInt L) s.heap)
    (hQ : ∀ h', Flies base outer e cls dd a0 .none h' → s.heap.UpToSlots h' → Q () { s with heap := h' }) : wpAny M A (leaving env (.ref e)) Q E s := by
  unfold leaving
  exact wpAny_bind (fly_again hf x (fly_set x fun h' x' u => hQ h' ⟨x'.stays, x'.new, x'.frames.2.2, x'.exc⟩ u))

/-- leaving a frame that it only passes through -/
theorem fly_next {base : Heap} {env : Env} {outer : List Env} {L e : Addr} {cls a0 : Value} {dd : Option Addr} {Q : Unit → Shared → Prop}
    (hfr : A.frames = some (env :: outer)) (hf : env.frame = some L) (x : Flies base (env :: outer) e cls dd a0 .none s.heap)
    (hQ : ∀ h', Flies base outer e cls dd a0 .none h' → s.heap.UpToSlots h' → Q () { s with heap := h' }) : wpAny M A (leaving env (.ref e)) Q E s := by
  unfold leaving
  exact wpAny_bind (fly_note hfr hf x fun h' x' u => fly_set x' fun h'' x'' u' => hQ h'' ⟨x''.stays, x''.new, x''.frames.2.2, x''.exc⟩ (u.trans u'))
end
end Mine
end

section
open PySem PySem.W PyProof.Rows
set_option Elab.async false
set_option maxRecDepth 100000
set_option maxHeartbeats 4000000
namespace Mine
theorem setComp0 : True := by
  w_top off
  k_with_none
  trivial
open PySem.Calls LCg LCt
section
variable {prog : Program} {w : World} {A : Around} {s : Shared} {h₀ : Heap} {L : Addr} {m : Str → Option Value} {env : Env} {ct elt : Expr} {x : Str} {scope : Scope} {cl : List (Str × Addr)} {S : List (Addr × Obj) → Prop} {P : Nat → Value → Prop}
  {Fin : List Value → List (Addr × Obj) → Prop} {n : Nat} {news : List (Addr × Obj)}
theorem end_mono {s₁ s₂ : Shared} {I C D : Addr} {oI oC oD : Obj} {r r' : Value → List (Addr × Obj) → Prop} {y : Value} (x : CompEnd h₀ L m s₁ I oI C oC D oD S r y s₂) (h : ∀ nw, r y nw → r' y nw) : CompEnd h₀ L m s₁ I oI C oC D oD S r' y s₂ := by
  obtain ⟨h', tk, nw, e, F, N, o, hS, q⟩ := x
  exact ⟨h', tk, nw, e, F, N, o, hS, h nw q⟩
/-- a comprehension with one test over a source of any length, by what holds of the list so far -/
theorem restT_ind (G : Nat → List Value → Prop)
    (step : ∀ i v ys I oI C oC D m₂ h tk (E' : Value → Shared → Prop), i < n → P i v → G i ys → NsObj oC m₂ → m₂ x = some v → Fr h₀ L h m → News h₀ L h ((I, oI) :: (C, oC) :: (D, lst ys) :: news) → Off3 I C D news → ((@Ne Nat I C) ∧ (@Ne Nat I D) ∧ (@Ne Nat C D)) →
      wpAny (model prog w) A (isTrue ct (compEnvC scope cl C env) (eval ct (compEnvC scope cl C env))) (fun ok s' => if ok = true then
        wpAny (model prog w) A (eval elt (compEnvC scope cl C env)) (CompEnd h₀ L m { s with heap := h, toks := tk } I oI C oC D (lst ys) S (fun y news' => news' = news ∧ G (i + 1) (ys ++ [y]))) E' s'
        else CompEnd h₀ L m { s with heap := h, toks := tk } I oI C oC D (lst ys) S (fun _ news' => news' = news ∧ G (i + 1) ys) Value.none s') E' { s with heap := h, toks := tk })
    (fin : ∀ ys, G n ys → Fin ys news) : ∀ k i ys, i + k = n → G i ys → CompRestT prog w A h₀ L m env ct elt x scope cl s S P Fin k i ys news := by
  intro k
  induction k with
  | zero => exact fun i ys e g => CompRestT.zero (fin ys (by rw [← e]; exact g))
  | succ k ih =>
    intro i ys e g
    refine CompRestT.succ fun v I oI C oC D m₂ h tk E' hP hC hx F N off ne => ?_
    refine wpAny_mono (step i v ys I oI C oC D m₂ h tk E' (by omega) hP g hC hx F N off ne) (fun ok s' z => ?_) fun _ _ z => z
    cases ok with
    | true =>
      simp only [if_true] at z ⊢
      exact wpAny_mono z (fun y s'' q => end_mono q fun nw r => by obtain ⟨rfl, r⟩ := r; exact ih (i + 1) _ (by omega) r) fun _ _ z => z
    | false =>
      simp only [Bool.false_eq_true, if_false] at z ⊢
      exact end_mono z fun nw r => by obtain ⟨rfl, r⟩ := r; exact ih (i + 1) _ (by omega) r
/-- the same without a test -/
theorem rest_ind (G : Nat → List Value → Prop)
    (step : ∀ i v ys I oI C oC D m₂ h tk (E' : Value → Shared → Prop), i < n → P i v → G i ys → NsObj oC m₂ → m₂ x = some v → Fr h₀ L h m → News h₀ L h ((I, oI) :: (C, oC) :: (D, lst ys) :: news) → Off3 I C D news → ((@Ne Nat I C) ∧ (@Ne Nat I D) ∧ (@Ne Nat C D)) →
      wpAny (model prog w) A (eval elt (compEnvC scope cl C env)) (CompEnd h₀ L m { s with heap := h, toks := tk } I oI C oC D (lst ys) S (fun y news' => news' = news ∧ G (i + 1) (ys ++ [y]))) E' { s with heap := h, toks := tk })
    (fin : ∀ ys, G n ys → Fin ys news) : ∀ k i ys, i + k = n → G i ys → CompRest prog w A h₀ L m env elt x scope cl s S P Fin k i ys news := by
  intro k
  induction k with
  | zero => exact fun i ys e g => CompRest.zero (fin ys (by rw [← e]; exact g))
  | succ k ih =>
    intro i ys e g
    refine CompRest.succ fun v I oI C oC D m₂ h tk E' hP hC hx F N off ne => ?_
    exact wpAny_mono (step i v ys I oI C oC D m₂ h tk E' (by omega) hP g hC hx F N off ne) (fun y s'' q => end_mono q fun nw r => by obtain ⟨rfl, r⟩ := r; exact ih (i + 1) _ (by omega) r) fun _ _ z => z
end
end Mine
end

section
open PySem PySem.W PyProof.Rows
set_option Elab.async false
set_option linter.all false
namespace Mine
theorem setRest0 : True := by
  w_top off
  k_with_none
  trivial
theorem allLt_mem {d : Nat} {l : List (Addr × Obj)} (h : AllLt d l) : ∀ p ∈ l, p.1 < d := by
  induction l with
  | nil => exact fun _ h => nomatch h
  | cons q r ih =>
    intro p hp
    rcases List.mem_cons.mp hp with rfl | hp
    · exact h.1
    · exact ih h.2 p hp
theorem rest_ne {d a : Nat} {l : List (Addr × Obj)} (h : AllLt d l) (le : d ≤ a) : ∀ p ∈ l, p.1 ≠ a := fun p hp => Nat.ne_of_lt (Nat.lt_of_lt_of_le (allLt_mem h p hp) le)
theorem rest_ne1 {a : Nat} {l l2 : List (Addr × Obj)} (h : ∀ p ∈ l2, p.1 < a) (s : ∀ p ∈ l, p ∈ l2) : ∀ p ∈ l, p.1 ≠ a := fun p hp => Nat.ne_of_lt (h p (s p hp))
theorem rest_ne2 {d a : Nat} {l l2 : List (Addr × Obj)} (h : ∀ p ∈ l2, p.1 < d) (s : ∀ p ∈ l, p ∈ l2) (le : d ≤ a) : ∀ p ∈ l, p.1 ≠ a := fun p hp => Nat.ne_of_lt (Nat.lt_of_lt_of_le (h p (s p hp)) le)
end Mine
end

section
open Mine
local macro_rules | `(tactic| k_lt $h:ident) => `(tactic| ((have zzR := $h:ident); (replace $h := allLt_of $h); (dsimp only [AllLt] at $h:ident)))
local macro_rules | `(tactic| k_ne) => `(tactic| k_extra "ne")
local macro_rules | `(tactic| k_all) => `(tactic| k_extra "all")

section
open PySem PySem.W PyProof.Rows
set_option Elab.async false
set_option linter.all false
set_option maxRecDepth 100000
set_option maxHeartbeats 1500000
namespace Mine
theorem setSame0 : True := by
  w_top off
  k_with_none
  trivial
/-- two values that `==` finds alike, at any depth with room -/
def SameV (h : Heap) (n : Nat) (v u : Value) : Prop := ∀ (A : Around) (s : Shared), s.heap = h → A.units + n < cLine → SeqAt.EqAt A s v u true
inductive SameL (h : Heap) (n : Nat) : List Value → List Value → Prop
  | nil : SameL h n [] []
  | cons {v u : Value} {vs us : List Value} : SameV h n v u → SameL h n vs us → SameL h n (v :: vs) (u :: us)
theorem SameL.len {h : Heap} {n : Nat} : ∀ {vs us : List Value}, SameL h n vs us → vs.length = us.length
  | _, _, .nil => rfl
  | _, _, .cons _ r => congrArg (· + 1) r.len
theorem SameL.at_ {h : Heap} {n : Nat} : ∀ {vs us : List Value}, SameL h n vs us → ∀ j (h1 : j < vs.length) (h2 : j < us.length), SameV h n vs[j] us[j]
  | _, _, .cons x _, 0, _, _ => x
  | _, _, .cons _ r, j + 1, h1, h2 => r.at_ j (Nat.lt_of_succ_lt_succ h1) (Nat.lt_of_succ_lt_succ h2)
theorem all_true {n : Nat} : (List.range n).all (fun _ => true) = true := List.all_eq_true.mpr fun _ _ => rfl
theorem same_str {h : Heap} {x : Str} {t u : Tok} : SameV h 0 (.str x t) (.str x u) := fun A s _ _ => by
  have := keq_flat (A := A) (s := s) (v := .str x t) (y := .str x u) (d := .str x) (e := .str x) (fun h => .str x t) (fun h => .str x u)
  simpa [PyData.eqv] using this
theorem same_bytes {h : Heap} {x : Array UInt8} {t u : Tok} : SameV h 0 (.bytes x t) (.bytes x u) := fun A s _ _ => fun prog w E Q hq => eqBool_bytes (by simpa using hq)
theorem SameV.up {h : Heap} {n m : Nat} {v u : Value} (x : SameV h n v u) (e : n ≤ m) : SameV h m v u := fun A s hs hu => x A s hs (by omega)
theorem same_tuples {h : Heap} {n : Nat} {l b : Addr} {vs us : List Value} (hl : h.IsTuple l vs.toArray) (hb : h.IsTuple b us.toArray) (x : SameL h n vs us) : SameV h (n + 1) (.ref l) (.ref b) := fun A s hs hu => by
  subst hs
  by_cases e : l = b
  · subst e; exact SeqAt.EqAt.same _
  · refine SeqAt.EqAt.of_refs e ?_
    have := SeqAt.RcAt.tuples (A := A) (e := fun _ => true) hl hb (by omega) (fun j h1 h2 => by
      have := x.at_ j (by simpa using h1) (by simpa using h2) A.in1 s rfl (by show A.units + 1 + n < cLine; omega)
      simpa using this)
    have z := x.len
    simp only [all_true, List.size_toArray, z, beq_self_eq_true, Bool.and_self] at this
    exact this
section
variable {prog : Program} {w : World} {A : Around} {E : Value → Shared → Prop} {s : Shared} {l b : Addr} {vs us : List Value} {n : Nat} {Q : Value → Shared → Prop}
theorem eq_tuples_same (hl : s.heap.IsTuple l vs.toArray) (hb : s.heap.IsTuple b us.toArray) (x : SameL s.heap n vs us) (hu : A.units + n + 1 < cLine) (h : Q (.bool true) s) : wpAny (model prog w) A (compareOp .Eq (.ref l) (.ref b)) Q E s := by
  refine SeqAt.eq_tupleAt (e := fun _ => true) hl hb (by omega) (fun j h1 h2 => ?_) ?_
  · have := x.at_ j (by simpa using h1) (by simpa using h2) A.in1 s rfl (by show A.units + 1 + n < cLine; omega)
    simpa using this
  · have z := x.len
    simp only [all_true, List.size_toArray, z, beq_self_eq_true, Bool.and_self]
    exact h
theorem eq_lists_same (hl : s.heap.IsList l vs.toArray) (hb : s.heap.IsList b us.toArray) (x : SameL s.heap n vs us) (hu : A.units + n + 1 < cLine) (h : Q (.bool true) s) : wpAny (model prog w) A (compareOp .Eq (.ref l) (.ref b)) Q E s := by
  refine SeqAt.eq_listAt (e := fun _ => true) hl hb (by simpa using x.len) (by omega) (fun j h1 h2 => ?_) ?_
  · have := x.at_ j (by simpa using h1) (by simpa using h2) A.in1 s rfl (by show A.units + 1 + n < cLine; omega)
    simpa using this
  · simp only [all_true]
    exact h
theorem ne_lists_same (hl : s.heap.IsList l vs.toArray) (hb : s.heap.IsList b us.toArray) (x : SameL s.heap n vs us) (hu : A.units + n + 1 < cLine) (h : Q (.bool false) s) : wpAny (model prog w) A (compareOp .NotEq (.ref l) (.ref b)) Q E s := by
  refine SeqAt.RcNeAt.lists (e := fun _ => true) hl hb (by simpa using x.len) (by omega) (fun j h1 h2 => ?_) prog w E Q ?_
  · have := x.at_ j (by simpa using h1) (by simpa using h2) A.in1 s rfl (by show A.units + 1 + n < cLine; omega)
    simpa using this
  · simp only [all_true]
    exact h
/-- two dicts of the same entries -/
inductive SameD (h : Heap) (n : Nat) : List (Str × Value) → List (Str × Value) → Prop
  | nil : SameD h n [] []
  | cons {k : Str} {v u : Value} {vs us : List (Str × Value)} : SameV h n v u → SameD h n vs us → SameD h n ((k, v) :: vs) ((k, u) :: us)
theorem SameD.len {h : Heap} {n : Nat} : ∀ {vs us : List (Str × Value)}, SameD h n vs us → vs.length = us.length
  | _, _, .nil => rfl
  | _, _, .cons _ r => congrArg (· + 1) r.len
theorem SameD.keys {h : Heap} {n : Nat} : ∀ {vs us : List (Str × Value)}, SameD h n vs us → vs.map (·.1) = us.map (·.1)
  | _, _, .nil => rfl
  | _, _, .cons _ r => congrArg (_ :: ·) r.keys
theorem hits_same {kb : List (Str × Value)} (hu : A.units + n < cLine) {ka kr : List (Str × Value)} (x : SameD s.heap n ka kr) : ∀ (pre : List (Str × Value)), kb = pre ++ kr → (kb.map (·.1)).Nodup → KeqHits A s kb ka true := by
  induction x with
  | nil => exact fun _ _ _ => .nil
  | cons x r ih =>
    rename_i k v u vs us
    intro pre e nd
    have hv : valueAt kb k = some u := by
      unfold valueAt
      rw [e, List.find?_append]
      have hn : pre.find? (fun kv => decide (kv.1 = k)) = none := by
        rw [List.find?_eq_none]
        intro p hp
        rw [e, List.map_append, List.nodup_append] at nd
        have := nd.2.2 p.1 (List.mem_map_of_mem hp) k (by simp)
        simpa using this
      rw [hn]
      simp
    have := KeqHits.hit hv (x A s rfl hu) (ih (pre ++ [(k, u)]) (by rw [e]; simp) nd)
    simpa using this
theorem ne_dicts_same {oa ob : Obj} {a b : Addr} {ka kb : List (Str × Value)} (ga : s.heap.get? a = some oa) (gb : s.heap.get? b = some ob) (da : oa.IsDictOf (PySem.strKind prog w) ka) (db : ob.IsDictOf (PySem.strKind prog w) kb) (la : (a == sysModules) = false) (lb : (b == sysModules) = false)
    (x : SameD s.heap n ka kb) (hu : A.units + n + 1 < cLine) (h : Q (.bool false) s) : wpAny (model prog w) A (compareOp .NotEq (.ref a) (.ref b)) Q E s := by
  refine keq_ne (knd := PySem.strKind prog w) (r := true) la lb (Heap.dictOf_iff.mpr ⟨_, ga, da⟩) (Heap.dictOf_iff.mpr ⟨_, gb, db⟩) (by omega) (fun _ => ?_) ?_
  · obtain ⟨_, _, _, _, _, _, nd⟩ := db
    exact hits_same (A := A.in1) (by show A.units + 1 + n < cLine; omega) x [] rfl nd
  · rw [x.len]
    simpa using h
end
end Mine
end

section
open PySem PySem.W PyProof.Rows
set_option Elab.async false
set_option maxRecDepth 100000
set_option maxHeartbeats 4000000
namespace Mine
theorem setCatch0 : True := by
  w_top off
  k_with_none
  trivial
open PySem.Calls

/-- an exception under way, and a ledger that stays beside it -/
structure Thrown (base : Heap) (l : List Env) (e : Addr) (cls : Value) (dd : Option Addr) (a0 fl : Value) (news : List (Addr × Obj)) (h : Heap) : Prop where
  at_ : ∃ B, base.StaysIn B ∧ (∀ q ∈ news, B.get? q.1 = some q.2 ∧ base.get? q.1 = none) ∧ Flies B l e cls dd a0 fl h

section
variable {base h : Heap} {l : List Env} {e : Addr} {cls a0 fl : Value} {dd : Option Addr} {news : List (Addr × Obj)}
theorem Thrown.stays (x : Thrown base l e cls dd a0 fl news h) : base.StaysIn h := by
  obtain ⟨B, hb, _, x⟩ := x
  exact fun b o q => x.stays b o (hb b o q)
theorem Thrown.led (x : Thrown base l e cls dd a0 fl news h) : ∀ q ∈ news, h.get? q.1 = some q.2 ∧ base.get? q.1 = none := by
  obtain ⟨B, hb, hn, x⟩ := x
  exact fun q m => ⟨x.stays _ _ (hn q m).1, (hn q m).2⟩
theorem Thrown.exc (x : Thrown base l e cls dd a0 fl news h) : ∃ vs sl, h.get? e = some ⟨cls, dd, .fields vs, sl⟩ ∧ vs[0]? = some a0 ∧ Clean vs ∧ base.get? e = none := by
  obtain ⟨B, hb, hn, x⟩ := x
  obtain ⟨vs, sl, T, oT, ts, he, h0, h2, _⟩ := x.exc
  refine ⟨vs, sl, he, h0, h2, ?_⟩
  cases q : base.get? e with
  | none => rfl
  | some o' => have := hb e o' q; rw [x.new] at this; cases this
theorem Thrown.sub (x : Thrown base l e cls dd a0 fl news h) {news' : List (Addr × Obj)} (hs : ∀ q ∈ news', q ∈ news) : Thrown base l e cls dd a0 fl news' h := by
  obtain ⟨B, hb, hn, x⟩ := x
  exact ⟨B, hb, fun q m => hn q (hs q m), x⟩
/-- no ledger entry is the catching frame's own locals -/
theorem Thrown.off {env : Env} {L : Addr} (x : Thrown base (env :: l) e cls dd a0 fl news h) (hf : env.frame = some L) : ∀ q ∈ news, q.1 ≠ L := by
  obtain ⟨B, hb, hn, x⟩ := x
  obtain ⟨_, ⟨L', o, hf', hL, _⟩, _⟩ := x.frames
  obtain rfl : L = L' := Option.some.inj (hf.symm.trans hf')
  intro q m z
  have := (hn q m).1
  rw [z, hL] at this; cases this
theorem Thrown.ty {M : Model} (x : Thrown base l e cls dd a0 fl news h) : Looks M h (typeOf (.ref e)) cls := by
  obtain ⟨vs, sl, he, _⟩ := x.exc
  exact (Looks.ld he).andThen .now
end

section
variable {M : Model} {A : Around} {E : Value → Shared → Prop} {s : Shared} {base g : Heap} {outer : List Env} {L a e : Addr} {m : Str → Option Value} {name : Str} {scope : Scope} {cd : Value} {cls a0 : Value} {dd : Option Addr} {news : List (Addr × Obj)}

/-- leaving the frame that raised it -/
theorem throw_first {vs : Array Value} {sl : Array (Option Value)} {Q : Unit → Shared → Prop} (K : Below A base outer g) (F : Fr g L s.heap m) (N : News g L s.heap ((e, ⟨cls, dd, .fields vs, sl⟩) :: news)) (hne : ∀ p ∈ news, p.1 ≠ e)
    (h0 : vs[0]? = some a0) (h1 : vs[1]? = some .none) (h2 : Clean vs)
    (hQ : ∀ h', Thrown base outer e cls dd a0 .none news h' → g.UpToSlots h' → Q () { s with heap := h' }) (hk : scope.kind = .function := by rfl) :
    wpAny M (A.deeper (envOf name scope L a cd)) (leaving (envOf name scope L a cd) (.ref e)) Q E s := by
  have K' := K.push (name := name) (a := a) (cd := cd) F hk
  have he := (N _ (.head _)).1
  have hen := (N _ (.head _)).2.2
  have hin : ∀ env ∈ (envOf name scope L a cd :: outer), ∀ b, env.frame = some b → b ∈ e :: (envOf name scope L a cd :: outer).filterMap (·.frame) := fun env he b hb => List.mem_cons_of_mem _ (List.mem_filterMap.mpr ⟨env, he, hb⟩)
  have bn : base.get? e = none := fresh_of_stays K.stays hen
  have st : base.StaysIn (hideAll s.heap (e :: (envOf name scope L a cd :: outer).filterMap (·.frame))) := fun b o q => hideAll_get _ (K'.stays b o q) fun hm => by
    rcases List.mem_cons.mp hm with z | hm
    · rw [z, bn] at q; cases q
    · rw [(K'.frames.mem hm).1] at q; cases q
  have hl : ∀ q ∈ news, (hideAll s.heap (e :: (envOf name scope L a cd :: outer).filterMap (·.frame))).get? q.1 = some q.2 ∧ base.get? q.1 = none := fun q hq => by
    have n := N q (.tail _ hq)
    refine ⟨hideAll_get _ n.1 fun hm => ?_, fresh_of_stays K.stays n.2.2⟩
    rcases List.mem_cons.mp hm with z | hm
    · exact hne q hq z
    · obtain ⟨env, he, hf⟩ := List.mem_filterMap.mp hm
      rcases List.mem_cons.mp he with rfl | he
      · exact n.2.1 (Option.some.inj hf).symm
      · obtain ⟨o, ho, _⟩ := (K.frames.mem (List.mem_filterMap.mpr ⟨env, he, hf⟩)).2
        rw [n.2.2] at ho; cases ho
  refine fly_first (base := hideAll s.heap (e :: (envOf name scope L a cd :: outer).filterMap (·.frame))) K'.stack (funFrames_hide K'.frames hin) rfl (fun b o q => of_hideAll _ q) (hideAll_none _ (.head _)) he h0 h1 h2 fun h' x u => ?_
  exact hQ h' ⟨_, st, hl, x⟩ ((Heap.UpToSlots.of_keeps F.keep).trans u)

/-- leaving a frame that it only passes through -/
theorem throw_next {env : Env} {Q : Unit → Shared → Prop} (hfr : A.frames = some (env :: outer)) (hf : env.frame = some L) (R : Thrown base (env :: outer) e cls dd a0 .none news s.heap)
    (hQ : ∀ h', Thrown base outer e cls dd a0 .none news h' → s.heap.UpToSlots h' → Q () { s with heap := h' }) :
    wpAny M A (leaving env (.ref e)) Q E s := by
  obtain ⟨B, hb, hl, x⟩ := R
  exact fly_next hfr hf x fun h' x' u => hQ h' ⟨B, hb, hl, x'⟩ u
/-- leaving a frame that held it -/
theorem throw_held {env : Env} {Q : Unit → Shared → Prop} (hf : env.frame = some L) (R : Thrown base (env :: outer) e cls dd a0 (rawInt L) news s.heap)
    (hQ : ∀ h', Thrown base outer e cls dd a0 .none news h' → s.heap.UpToSlots h' → Q () { s with heap := h' }) :
    wpAny M A (leaving env (.ref e)) Q E s := by
  obtain ⟨B, hb, hl, x⟩ := R
  exact fly_held hf x fun h' x' u => hQ h' ⟨B, hb, hl, x'⟩ u

/-- a try's first look at it -/
theorem throw_looked {env : Env} {Q : Unit → Shared → Prop} (hfr : A.frames = some (env :: outer)) (hf : env.frame = some L) (R : Thrown base (env :: outer) e cls dd a0 .none news s.heap)
    (hQ : ∀ h', Thrown base (env :: outer) e cls dd a0 .none news h' → s.heap.UpToSlots h' → Q () { s with heap := h' }) :
    wpAny M A (noteFrame (.ref e) env) (fun _ s₂ => wpAny M A (setFlight (.ref e) none) Q E s₂) E s := by
  obtain ⟨B, hb, hl, x⟩ := R
  exact fly_note hfr hf x fun h' x' u => fly_set x' fun h'' x'' u' => hQ h'' ⟨B, hb, hl, x''⟩ (u.trans u')
end

section
variable {prog : Program} {w : World} {A : Around} {E : Value → Shared → Prop} {s : Shared} {base : Heap} {outer : List Env} {L a e : Addr} {m : Str → Option Value} {name : Str} {scope : Scope} {cd : Value} {cls a0 c : Value} {dd : Option Addr} {news : List (Addr × Obj)}
  {KF : Frag} {p : Program} {loose : List Str} {mg mb : Str → Option Value} {x : Str} {np pos : Pos} {nm : Option Str} {b₀ : Stmt} {suite : List Stmt} {rest : List ExceptHandler} {Q : Flow → Shared → Prop}

/-- a clause whose class does not meet it -/
theorem clause_no (R : Thrown base (envOf name scope L a cd :: outer) e cls dd a0 .none news s.heap) (F : Fr base L s.heap m) (X : KF.In base) (T : TopRead p loose mg mb base)
    (ex : nsIn KF mainGlobals x = some (some c)) (he : exmOne KF cls c = some false)
    (k : wpAny (model prog w) A (handleBy (.ref e) (envOf name scope L a cd) rest) Q E s)
    (hk : scope.kind = .function := by rfl) (hx : (envOf name scope L a cd).kindOf x = some .globalImplicit := by rfl) (hd : (x == ("__debug__" : Str)) = false := by decide) :
    wpAny (model prog w) A (handleBy (.ref e) (envOf name scope L a cd) (.ExceptHandler (some (.Name x np)) nm (b₀ :: suite) pos :: rest)) Q E s := by
  refine wpAny_handleBy_cons (codeAny_handlers_test (name_K F X T ex ?_ hk hx hd)) (by intro q; cases q)
  refine ((exm_one (X.keeps F.keep) R.ty he).here ?_)
  exact k

/-- a clause that meets it, without a name -/
theorem clause_yes (R : Thrown base (envOf name scope L a cd :: outer) e cls dd a0 .none news s.heap) (F : Fr base L s.heap m) (X : KF.In base) (T : TopRead p loose mg mb base)
    (ex : nsIn KF mainGlobals x = some (some c)) (he : exmOne KF cls c = some true)
    (k : ∀ h', Thrown base (envOf name scope L a cd :: outer) e cls dd a0 .none news h' → s.heap.UpToSlots h' →
      wpAny (model prog w) (A.mark (some (.ref e))) (execs (b₀ :: suite) (envOf name scope L a cd)) Q (notedBy (model prog w) (A.mark (some (.ref e))) (envOf name scope L a cd) (cameBackBy (model prog w) A (envOf name scope L a cd) E)) { s with heap := h' })
    (hk : scope.kind = .function := by rfl) (hx : (envOf name scope L a cd).kindOf x = some .globalImplicit := by rfl) (hd : (x == ("__debug__" : Str)) = false := by decide) :
    wpAny (model prog w) A (handleBy (.ref e) (envOf name scope L a cd) (.ExceptHandler (some (.Name x np)) none (b₀ :: suite) pos :: rest)) Q E s := by
  refine wpAny_handleBy_cons (codeAny_handlers_test (name_K F X T ex ?_ hk hx hd)) (by intro q; cases q)
  refine ((exm_one (X.keeps F.keep) R.ty he).here ?_)
  refine codeAny_handlers_suite ?_
  obtain ⟨B, hb, hl, x⟩ := R
  exact fly_set x fun h' x' u => k h' ⟨B, hb, hl, x'⟩ u

/-- a clause that meets it, with a name -/
theorem clause_as {n : Str} (R : Thrown base (envOf name scope L a cd :: outer) e cls dd a0 .none news s.heap) (F : Fr base L s.heap m) (X : KF.In base) (T : TopRead p loose mg mb base)
    (ex : nsIn KF mainGlobals x = some (some c)) (he : exmOne KF cls c = some true)
    (k : ∀ h', Thrown base (envOf name scope L a cd :: outer) e cls dd a0 .none news h' → s.heap.UpToSlots h' →
      wpAny (model prog w) (A.mark (some (.ref e))) (storeName (envOf name scope L a cd) n (.ref e)) (fun _ s₃ =>
        wpAny (model prog w) (A.mark (some (.ref e))) (execs (b₀ :: suite) (envOf name scope L a cd))
          (fun f s₄ => wpAny (model prog w) A (do bindName (envOf name scope L a cd) n .none; unbindBehindTheSuite (envOf name scope L a cd) n pos) (fun _ s₅ => Q f s₅) E s₄)
          (fun _ _ => False) s₃) (fun _ _ => False) { s with heap := h' })
    (hk : scope.kind = .function := by rfl) (hx : (envOf name scope L a cd).kindOf x = some .globalImplicit := by rfl) (hd : (x == ("__debug__" : Str)) = false := by decide) :
    wpAny (model prog w) A (handleBy (.ref e) (envOf name scope L a cd) (.ExceptHandler (some (.Name x np)) (some n) (b₀ :: suite) pos :: rest)) Q E s := by
  refine wpAny_handleBy_cons (codeAny_handlers_test (name_K F X T ex ?_ hk hx hd)) (by intro q; cases q)
  refine ((exm_one (X.keeps F.keep) R.ty he).here ?_)
  refine codeAny_handlers_suite_as ?_
  obtain ⟨B, hb, hl, x⟩ := R
  refine fly_set x fun h' x' u => wpAny_mono (k h' ⟨B, hb, hl, x'⟩ u) (fun _ s₃ h₃ => wpAny_mono h₃ (fun f s₄ h₄ => h₄) fun _ _ z => z.elim) fun _ _ z => z.elim

/-- a bare raise in a clause's suite -/
theorem raise_bare {Q' : Flow → Shared → Prop} (hfl : (A.mark (some (.ref e))).handled = some (.ref e)) (R : Thrown base (envOf name scope L a cd :: outer) e cls dd a0 .none news s.heap)
    (k : ∀ h', Thrown base (envOf name scope L a cd :: outer) e cls dd a0 (rawInt L) news h' → s.heap.UpToSlots h' → E (.ref e) { s with heap := h' }) :
    wpAny (model prog w) (A.mark (some (.ref e))) (execs [.Raise none none pos] (envOf name scope L a cd)) Q' (notedBy (model prog w) (A.mark (some (.ref e))) (envOf name scope L a cd) (cameBackBy (model prog w) A (envOf name scope L a cd) E)) s := by
  refine wpAny_execs_cons ?_
  rw [arm_exec_Raise]
  refine wpAny_bind (wpAny_standAt ?_)
  show wpAny _ _ (raiseStmt _ none none) _ _ _
  unfold raiseStmt
  obtain ⟨B, hb, hl, x⟩ := R
  refine wpAny_bind (wpAny_handled ?_)
  rw [hfl]
  dsimp only
  have x0 := x
  obtain ⟨_, _, _, vs, sl, T, oT, ts, he, _, _, h1, _⟩ := x0
  refine wpAny_bind (wpAny_rule (wpAny_bind (wpAny_field he rfl h1 ?_)))
  rw [if_neg (show ¬ ((Value.ref T == Value.none) = true) from by simp)]
  refine wpAny_bind (fly_set x fun h' x' u => wpAny_throw ?_)
  show wpAny _ _ (noteFrame _ _) _ _ _
  refine fly_again rfl x' ?_
  show wpAny _ _ _ _ _ _
  have x1 := x'
  obtain ⟨_, _, _, vs', sl', T', oT', ts', he', _, _, h1', _⟩ := x1
  refine wpAny_bind (wpAny_field he' rfl h1' ?_)
  rw [if_neg (show ¬ ((Value.ref T' == Value.none) = true) from by simp)]
  exact fly_set x' fun h'' x'' u' => k h'' ⟨B, hb, hl, x''⟩ (u.trans u')
end
end Mine
end

section
open PySem PySem.W PyProof.Rows
set_option Elab.async false
set_option maxRecDepth 100000
set_option maxHeartbeats 4000000
namespace Mine
theorem setQuiet0 : True := by
  w_top off
  k_with_none
  trivial
open PySem.Calls LCg
open PySem.Sem (wp)
theorem entry_unchain : entryFor table "proto.unchain" = some Builtin.«proto.unchain» := entryFor_of_fast (by kernel_rfl)
theorem plain_unchain : plainId "proto.unchain" = true := by kernel_rfl
noncomputable def handledAddr : Option Value → List Addr | some (.ref e) => [e] | _ => []
theorem handledAddr_mem {hx : Option Value} {b : Addr} (h : b ∈ handledAddr hx) : hx = some (.ref b) := by
  unfold handledAddr at h
  split at h
  · rw [List.mem_singleton.mp h]
  · cases h
/-- what is handled here (if anything) is an exception that nothing stands behind -/
def QuietAt (hx : Option Value) (h : Heap) : Prop := hx = none ∨ ∃ e o vs, hx = some (.ref e) ∧ h.get? e = some o ∧ o.data = .fields vs ∧ Clean vs
theorem QuietAt.keep {hx : Option Value} {h h' : Heap} (q : QuietAt hx h) (k : ∀ e o, hx = some (.ref e) → h.get? e = some o → h'.get? e = some o) : QuietAt hx h' := by
  rcases q with q | ⟨e, o, vs, e1, e2, e3, e4⟩
  · exact .inl q
  · exact .inr ⟨e, o, vs, e1, k e o e1 e2, e3, e4⟩
def QuietIn (hx : Option Value) (news : List (Addr × Obj)) : Prop := hx = none ∨ ∃ e dd vs sl, hx = some (.ref e) ∧ (e, (⟨.ref 84, dd, .fields vs, sl⟩ : Obj)) ∈ news ∧ Clean vs
theorem QuietIn.at_ {hx : Option Value} {h₀ h : Heap} {L : Addr} {news : List (Addr × Obj)} (q : QuietIn hx news) (N : News h₀ L h news) : QuietAt hx h := by
  rcases q with q | ⟨e, dd, vs, sl, e1, e2, e4⟩
  · exact .inl q
  · exact .inr ⟨e, _, vs, e1, (N _ e2).1, rfl, e4⟩
theorem QuietIn.one {hx : Option Value} {p : Addr × Obj} {news' : List (Addr × Obj)} (q : QuietIn hx [p]) (k : p ∈ news') : QuietIn hx news' := by
  rcases q with q | ⟨e, dd, vs, sl, e1, e2, e4⟩
  · exact .inl q
  · exact .inr ⟨e, dd, vs, sl, e1, by rw [List.mem_singleton.mp e2]; exact k, e4⟩
theorem QuietIn.mono {hx : Option Value} {news news' : List (Addr × Obj)} (q : QuietIn hx news) (k : ∀ p ∈ news, p ∈ news') : QuietIn hx news' := by
  rcases q with q | ⟨e, dd, vs, sl, e1, e2, e4⟩
  · exact .inl q
  · exact .inr ⟨e, dd, vs, sl, e1, k _ e2, e4⟩
section
variable {prog : Program} {w : World} {A : Around} {E : Value → Shared → Prop} {s : Shared}
theorem raise_quiet {α : Type} {a : Addr} {ob : Obj} {us : Array Value} {Q : α → Shared → Prop} (q : QuietAt A.handled s.heap) (ha : s.heap.get? a = some ob) (hd : ob.data = .fields us) (hn : us[2]? = some .none) 
    (hne : A.handled ≠ some (.ref a))
    (h : ∀ h' ob', h'.get? a = some ob' → ob'.cls = ob.cls → Heap.SameBut a s.heap h' → E (.ref a) { s with heap := h' }) :
    wpAny (model prog w) A (raiseNew (.ref a) : Sem α) Q E s := by
  unfold raiseNew
  refine wpAny_bind (wpAny_handled ?_)
  rcases q with q | ⟨e, o, vs, e1, e2, e3, e4⟩
  · rw [q]
    exact wpAny_bind (wpAny_pure (wpAny_throw (h _ _ ha rfl ⟨rfl, fun _ _ => rfl⟩)))
  · rw [e1]
    dsimp only
    have hea : (Value.ref e != Value.ref a) = true := by
      simp only [bne_iff_ne, ne_eq]
      intro z; rw [z] at e1; exact hne e1
    rw [if_pos hea]
    refine wpAny_bind (wpAny_holding (wpAny_runValue (codeAny_builtin entry_unchain ?_)))
    show wpAny _ _ (field (.ref e) 2 >>= _) _ _ s
    refine wpAny_bind (wpAny_field e2 e3 e4.1 ?_)
    show wpAny _ _ (if (Value.none == Value.none) = true then _ else _) _ _ s
    rw [if_pos (by decide)]
    refine wpAny_pure ?_
    show wpAny _ _ (updateField a 2 (.ref e) >>= _) _ _ s
    refine wpAny_bind ?_
    simp only [updateField]
    refine wpAny_bind (wpAny_load ha ?_)
    rw [hd]
    have hi : 2 < us.size := by
      rcases Nat.lt_or_ge 2 us.size with z | z
      · exact z
      · rw [Array.getElem?_eq_none z] at hn; cases hn
    show wpAny _ _ (if 2 < us.size then _ else _) _ _ _
    rw [if_pos hi]
    refine wpAny_update ha (wpAny_throw ?_)
    exact h _ _ (Heap.get?_update_self _ ha (Obj.isFreed_of_fields (Obj.data_mapFields hd _))) (Obj.cls_mapFields ..) (Heap.SameBut.update ..)

theorem list_end_quiet {it l : Addr} {i : Nat} {items} {Q : Option Value → Shared → Prop} (q : QuietAt A.handled s.heap) 
    (hit : s.heap.IsListIter it l i) (hl : s.heap.IsList l items) (hx : items[i]? = none) (hne : ∀ e, A.handled = some (.ref e) → e ≠ it)
    (hQ : ∀ h', Heap.ExtBut it s.heap h' → Q none { s with heap := h' }) : wpAny (model prog w) A (pyNext (.ref it)) Q E s := by
  obtain ⟨o, ho, hc, hd⟩ := id hit
  obtain ⟨ol, hol, _, nl, hdl⟩ := hl
  unfold pyNext
  refine wpAny_bind (wpAny_attempt (wpAny_callSpecial?_slot (name := Str.ofString "__next__") hit.typeIs slot_listiter_next
    (wpAny_call_entry slot_listiter_next hit.typeIs entry_listiter_next ?_ (args_listiter_next _))))
  show wpAny _ _ (field (.ref it) 0 >>= _) _ _ s
  refine wpAny_bind (wpAny_field ho hd (x := .ref l) rfl ?_)
  show wpAny _ _ (if (Value.ref l == Value.none) = true then _ else _) _ _ s
  rw [if_neg (show ¬ ((Value.ref l == Value.none) = true) from Bool.false_ne_true)]
  show wpAny _ _ (field (.ref it) 1 >>= _) _ _ s
  refine wpAny_bind (wpAny_field ho hd (x := .int i 0) rfl ?_)
  show wpAny _ _ (seqItems? (.ref l) >>= _) _ _ s
  refine wpAny_bind (wpAny_seqItems hol hdl ?_)
  simp only [Int.toNat_natCast, hx]
  refine wpAny_bind (wpAny_rule (wpAny_bind (wpAny_setField ho hd (by simp) ?_)))
  show wpAny _ _ (newExc (.type "StopIteration") [] >>= _) _ _ _
  refine wpAny_bind ?_
  simp only [newExc, newTuple]
  refine wpAny_bind (wpAny_newObj_type ?_ (by size_fits))
  refine wpAny_bind (m := firstArgMember _ _) (wpAny_of_eq (a := Value.none) (by first | rfl | (simp only [firstArgMember]; rfl)) ?_)
  refine wpAny_newObj_type ?_ (by size_fits)
  have x := (((Heap.SameBut.update s.heap it (Obj.mapFields (·.setIfInBounds 0 Value.none))).extBut.push { cls := .type "tuple", data := .seq ([] : List Value).toArray }))
  have hsz : s.heap.objs.size < ((s.heap.update it (Obj.mapFields (·.setIfInBounds 0 Value.none))).push { cls := .type "tuple", data := .seq ([] : List Value).toArray }).objs.size := by
    rw [Heap.size_push, (Heap.SameBut.update s.heap it (Obj.mapFields (·.setIfInBounds 0 Value.none))).1]
    exact Nat.lt_succ_self _
  refine raise_quiet (ob := _) (us := _) ?_ (Heap.get?_push_size _ rfl) rfl (by rw [show ownMembersOf (.type "StopIteration") [] = #[] from rfl]; rfl) ?_ fun h' ob' e1 e2 e3 => ?_
  · refine QuietAt.keep (h := s.heap) q fun e o e1 e2 => ?_
    refine Heap.get?_push_of_some _ (Heap.get?_push_of_some _ ?_)
    exact (Heap.get?_update_other _ _ (Ne.symm (hne e e1))).trans e2
  · intro z
    rcases q with q | ⟨e, o', vs, e1, e2, _⟩
    · rw [show A.in1.handled = A.handled from rfl, q] at z; cases z
    · rw [show A.in1.handled = A.handled from rfl, e1] at z
      injection Option.some.inj z with z'
      have := Heap.lt_size e2
      rw [z'] at this
      exact Nat.lt_asymm this hsz
  · refine wpAny_bind (wpAny_isInstance (T := "StopIteration") (b := true) ⟨_, e1, e2⟩ isSubtype_stop ?_)
    refine wpAny_pure (hQ _ ?_)
    intro b o hb e
    have lt := Heap.lt_size e
    refine (e3.2 b (fun z => ?_)).trans (x.push _ b o hb e)
    rw [z] at lt
    exact Nat.lt_asymm lt hsz
theorem Walks.listQ {hx : Option Value} (hh : A.handled = hx) (I ax : Addr) (hne : ax ≠ I) (hI : ∀ e, hx = some (.ref e) → e ≠ I) (fp : List Addr) (hfp : ∀ e, hx = some (.ref e) → e ∈ fp) (items : Array Value) :
    Walks prog w A I (I :: ax :: fp) [I] items.size (fun i v => items[i]? = some v) (fun i h => h.IsListIter I ax i ∧ h.IsList ax items ∧ QuietAt hx h) where
  sub := fun b hb => by simp at hb; simp [hb]
  frame := fun _ _ _ st hk => ⟨st.1.at fun o e => hk I (by simp) o e, st.2.1.at fun o e => hk ax (by simp) o e, st.2.2.keep fun e o e1 e2 => hk e (by simp [hfp e e1]) o e2⟩
  item := fun i s Q E hi st hQ => by
    refine wpAny_pyNext_list_item st.1 st.2.1 (x := items[i]) (by simp [hi]) fun h' hit' hs' => ?_
    exact hQ _ h' s.toks (by simp [hi]) ⟨hit', st.2.1.extBut hs'.extBut hne, st.2.2.keep fun e o e1 e2 => hs'.extBut e o (hI e e1) e2⟩ fun b o hb e => hs'.extBut b o (fun h => hb (by simp [h])) e
  done := fun s Q E st hQ => list_end_quiet (hh ▸ st.2.2) st.1 st.2.1 (by simp) (fun e e1 => hI e (hh ▸ e1)) fun h' he' => hQ h' s.toks fun b o hb e => he' b o (fun h => hb (by simp [h])) e
  self := fun _ _ _ _ st hQ => wpAny_pyIter_listiter st.1 hQ
variable {h₀ : Heap} {L : Addr} {m : Str → Option Value} {env : Env}
def SrcQ (prog : Program) (w : World) (A : Around) (h₀ : Heap) (L : Addr) (m : Str → Option Value) (env : Env) (elt : Expr) (x : Str) (scope : Scope) (cl : List (Str × Addr)) (Q : Value → Shared → Prop) (xv : Value) (s₁ : Shared) : Prop :=
  ∃ ax its news, xv = .ref ax ∧ Fr h₀ L s₁.heap m ∧ News h₀ L s₁.heap news ∧ SrcAt h₀ ax its news ∧ QuietIn A.handled news ∧ its.size ≤ sizeLine ∧
    ∀ s₂ : Shared, (∃ h, s₂ = { s₁ with heap := h }) → CompRest prog w A h₀ L m env elt x scope cl s₂ (fun nw => SrcAt h₀ ax its nw ∧ QuietIn A.handled nw) (fun i v => its[i]? = some v) (FinE h₀ L m s₂ Q) its.size 0 [] news
theorem SrcQ.ledger {elt : Expr} {x : Str} {scope : Scope} {cl : List (Str × Addr)} {Q : Value → Shared → Prop} {ax : Addr} {its : Array Value} {k : Nat} {news : List (Addr × Obj)} {s₁ : Shared}
    (F : Fr h₀ L s₁.heap m) (N : News h₀ L s₁.heap news) (hm : (ax, ({ cls := .type "list", data := .seq its k } : Obj)) ∈ news) (q : QuietIn A.handled news) (hsz : its.size ≤ sizeLine)
    (h : ∀ g, CompRest prog w A h₀ L m env elt x scope cl { s₁ with heap := g } (fun nw => SrcAt h₀ ax its nw ∧ QuietIn A.handled nw) (fun i v => its[i]? = some v) (FinE h₀ L m { s₁ with heap := g } Q) its.size 0 [] news) :
    SrcQ prog w A h₀ L m env elt x scope cl Q (.ref ax) s₁ := ⟨ax, its, news, rfl, F, N, .inr ⟨_, hm, rfl, _, rfl⟩, q, hsz, fun _ ⟨g, e⟩ => e ▸ h g⟩
theorem ListComp_Q {elt iter : Expr} {x : Str} {px : Pos} {scope : Scope} {cl : List (Str × Addr)} {pos : Pos} {Q : Value → Shared → Prop} (F₀ : Fr h₀ L s.heap m)
    (hclos : closureFor scope env = pure cl) (hcell : ∀ y ∈ scope.names, y.2 ≠ .cell) (hkind : scope.kind = .function)
    (hnames : ∀ y ∈ scope.names, y.2 = .local → scope.names.lookup y.1 = some .local) (hxl : scope.names.lookup x = some .local)
    (h : wpAny (model prog w) A (eval iter env) (SrcQ prog w A h₀ L m env elt x scope cl Q) E s)
    (hs : ∀ x, foldedSetIterable iter env x = pure x := by intro _; rfl) :
    wpAny (model prog w) A (eval (.ListComp elt [⟨.Name x px, iter, [], 0⟩] scope pos) env) Q E s := by
  rw [eval_ListComp]
  refine wpAny_comprehension_free (use := none) rfl hs hclos hkind hnames (wpAny_mono h (fun xv s₁ h₁ => ?_) fun _ _ e => e)
  obtain ⟨ax, its, news, rfl, F, N, S, q, hsz, R⟩ := h₁
  have hl := S.list F.keep N
  have hlt : ax < s₁.heap.objs.size := by obtain ⟨_, e, _⟩ := hl; exact Heap.lt_size e
  have qa := q.at_ N
  have hql : ∀ e, A.handled = some (.ref e) → e < s₁.heap.objs.size := fun e z => by
    rcases qa with qa | ⟨e', o, vs, e1, e2, _⟩
    · rw [qa] at z; cases z
    · rw [e1] at z; cases z; exact Heap.lt_size e2
  refine wpAny_pyIter_list hl ?_
  have up : ∀ b o, s₁.heap.get? b = some o → (s₁.heap.push { cls := .type "list_iterator", data := .fields #[.ref ax, .int 0 0] }).get? b = some o := fun b o e => Heap.get?_push_of_some _ e
  refine block_U (Walks.listQ (hx := A.handled) rfl s₁.heap.objs.size ax (Nat.ne_of_lt hlt) (fun e z => Nat.ne_of_lt (hql e z)) (handledAddr A.handled) (fun e z => by rw [z]; exact .head _) its) hsz (fun i h st => by obtain ⟨o, e, _⟩ := st.1; exact ⟨o, e⟩)
    (fun i h h' o nw st e e' k N S => ⟨by obtain ⟨o', q, r⟩ := st.1; rw [e] at q; cases q; exact ⟨o, e', r⟩, S.1.list k N, S.2.at_ N⟩) hcell hkind hxl ⟨⟨_, Heap.get?_push_size _ rfl, rfl, rfl⟩, hl.push _, qa.keep fun e o _ e2 => up e o e2⟩ (fun b hb => ?_)
    (F.keeps up) (N.grown up) (Nat.ne_of_lt F.ns.lt) (next_is_new F) (fun p hp => Nat.ne_of_lt (Heap.lt_size (N p hp).1)) ⟨S, q⟩ (R _ ⟨_, rfl⟩) ?_
  · show b < (s₁.heap.push _).objs.size
    rw [Heap.size_push]
    rcases List.mem_cons.mp hb with rfl | hb
    · exact Nat.lt_succ_self _
    rcases List.mem_cons.mp hb with rfl | hb
    · exact Nat.lt_succ_of_lt hlt
    · exact Nat.lt_succ_of_lt (hql _ (handledAddr_mem hb))
  · intro D C h tk m' ys news' F' N' o1 hn hC₀ hD₀ hCL hDL hCD offC fin
    refine ⟨m', hn, fun h'' hs'' => fin D h'' tk (F'.change hs'' hCL hC₀) (fun p hp => ?_) o1⟩
    refine ⟨hs''.extBut _ _ ?_ (N' p hp).1, (N' p hp).2⟩
    rcases List.mem_cons.mp hp with rfl | hp
    · exact Ne.symm hCD
    · exact offC p hp
end
end Mine
end

section
open PySem PySem.W PyProof.Rows
set_option Elab.async false
set_option maxRecDepth 100000
set_option maxHeartbeats 8000000
set_option pp.maxSteps 20000
namespace Mine
/-- a line's words -/
noncomputable def wordsOf (x : Str) : List Str := (Txt.split x (Str.ofString " ")).filter fun a => a != Str.ofString ""
theorem strs_get : ∀ {vs : List Value} {ws : List Str} {i : Nat} {v : Value}, StrsAre vs ws → vs[i]? = some v → ∃ y t, v = .str y t ∧ ws[i]? = some y
  | _, _, 0, _, .cons y t _, h => ⟨y, t, (Option.some.inj h).symm, rfl⟩
  | _, _, i + 1, _, .cons _ _ r, h => strs_get (i := i) r (by simpa using h)
theorem strs_snoc {y : Str} {t : Tok} : ∀ {vs : List Value} {ws : List Str}, StrsAre vs ws → StrsAre (vs ++ [.str y t]) (ws ++ [y])
  | _, _, .nil => .cons y t .nil
  | _, _, .cons z u r => .cons z u (strs_snoc r)
theorem take_snoc {α : Type} {l : List α} {i : Nat} {y : α} (h : l[i]? = some y) : l.take (i + 1) = l.take i ++ [y] := by
  rw [List.take_succ, h]; rfl
/-- the words of what a comprehension has taken so far -/
def WordsG (l : List Str) (i : Nat) (ys : List Value) : Prop := StrsAre ys ((l.take i).filter fun a => a != Str.ofString "")
theorem wordsG_yes {l : List Str} {i : Nat} {ys : List Value} {y : Str} {t : Tok} (g : WordsG l i ys) (h : l[i]? = some y) (hy : (y != Str.ofString "") = true) : WordsG l (i + 1) (ys ++ [.str y t]) := by
  unfold WordsG
  rw [take_snoc h, List.filter_append]
  have : [y].filter (fun a => a != Str.ofString "") = [y] := by simp [hy]
  rw [this]; exact strs_snoc g
theorem wordsG_no {l : List Str} {i : Nat} {ys : List Value} {y : Str} (g : WordsG l i ys) (h : l[i]? = some y) (hy : (y != Str.ofString "") = false) : WordsG l (i + 1) ys := by
  unfold WordsG
  rw [take_snoc h, List.filter_append]
  have : [y].filter (fun a => a != Str.ofString "") = [] := by simp [hy]
  rw [this, List.append_nil]; exact g
theorem setWords0 : True := by
  w_top off
  k_with_none
  k_with "call builtin:str.split" => ((k_here; (with_reducible show wpAny _ _ (call (Value.builtin "str.split") [Value.str _ _, Value.str _ _]) _ _ _); (refine KSpl.split1 (by k_asm) (by k_asm) (by decide) ?_ (by rw [sizeLine_eq]; omega)); intro D' l' h' k' e' a' F' N' l1))
  k_with "eval ListComp" => ((k_here; k_dflt (refine LCt.ListComp_T (F₀ := by k_asm) (by with_unfolding_all rfl) (by decide) (by rfl) (by decide) (by rfl) ?_); k_dflt lct_toSrc))
  k_with "CompSrcT" => ((k_here; k_dflt (refine LCt.CompSrcT.ledger (by rfl) (by k_asm) (by k_asm) (by k_mem) ?_ ?_)))
  trivial
theorem words_call (w : World) (mean : ExcName → Option Value) (mg mb : Str → Option Value)
  (env1 env2 env3 : Env) (A₀ : Around) (base h₀ : Heap) (L : Addr) (m : Str → Option Value) (s : Shared) (Q E : Value → Shared → Prop)
  (x : Str) (tk : Tok) (ws : List Str) (news : List (Addr × Obj)) (hx : x.length ≤ 100) (hws : wordsOf x = ws) (hn : (Txt.split x (Str.ofString " ")).length ≤ 1000)
  (B : Below A₀ base [env2, env1] h₀) (F : Fr h₀ L s.heap m) (KX : (hd.heap_1 w.params).In h₀) (N : News h₀ L s.heap news) (T : Top hd.view_39 LO mean mg mb h₀)
  (hk : env3.scope.kind = .function) (hf : env3.frame = some L)
  (hret : ∀ D vs n h' tk', StrsAre vs ws → Fr h₀ L h' m → News h₀ L h' ((D, W.listOf vs.toArray n) :: news) → (∀ p ∈ news, p.1 ≠ D) → Q (.ref D) { s with heap := h', toks := tk' }) :
  wpAny (model PySem.Challenge.rw_pb0238_01.row.prog w) (((callerA.deeper env1).deeper env2).deeper env3) (call (.ref 196) [.str x tk]) Q E s := by
  revert KX; k_fill; intro KX
  refine wpAny_call ?_
  k_dflt (refine' code_def ?k1 ?k2 ?k3 ?k4 ?k5 ?kA ?kF ?kK ?k6 ?k7 ?k8 ?k9 ?kB ?_ ?c2 ?c3 ?c4 ?c5; (case kA => exact rfl); (case kF => exact hf); (case kK => exact hk); (case k1 => exact B); (case k2 => k_asm); (case k3 => k_asm); (case k4 => k_asm); (case k5 => k_asm); (case k6 => k_is); (case k7 => k_is); (case k8 => k_room); (case k9 => exact BindsTo.of_eq rfl); (case c5 => decide); (case kB => exact locs rfl); (case c2 => exact rfl); (case c3 => exact rfl); (case c4 => exact rfl); k_whole; intro g' L' h' FG' F' N' B' X' T'; (try dsimp only); (try k_lift B'); (try k_fold))
  k_steps
  · have e1 := (by assumption : List.map (fun x : Str × Tok => x.fst) _ = Txt.split x (Str.ofString " "))
    have e2 := congrArg List.length e1
    rw [List.length_map] at e2
    rw [sizeLine_eq]
    simp only [strValues, List.size_toArray, List.length_map]
    omega
  · rename_i g'
    have e1 := e'
    have sa := a'
    clear e' a'
    have hsz : (strValues l').toArray.size = (l'.map (·.1)).length := by simp [strValues]
    refine restT_ind (WordsG (l'.map (·.1))) ?_ ?_ _ 0 [] (by rw [Nat.zero_add]) .nil
    · intro i v ys I oI C oC D m₂ h tk E' hi hP hG hC hx F N off ne
      obtain ⟨y, t, rfl, hy⟩ := strs_get sa (by simpa using hP)
      clear hP
      k_steps
      · exact LCg.CompEnd.intro (by assumption) N _ (fun _ z => z) off (.inr ⟨_, .head _, rfl, _, rfl⟩) ⟨rfl, wordsG_yes hG hy (by assumption)⟩
      · exact LCg.CompEnd.intro (by assumption) N _ (fun _ z => z) off (.inr ⟨_, .head _, rfl, _, rfl⟩) ⟨rfl, wordsG_no hG hy (by assumption)⟩
    · intro ys hG D h tk F N off
      k_steps
      rename_i kF kN _ _
      have e1 := (by assumption : List.map (fun x : Str × Tok => x.fst) l' = Txt.split x (Str.ofString " "))
      have sa : StrsAre ys ws := by
        have q : StrsAre ys (((l'.map (·.1)).take (strValues l').toArray.size).filter fun a => a != Str.ofString "") := hG
        rw [hsz, List.take_length, e1] at q
        exact hws ▸ q
      refine hret D ys ys.length h tk sa kF (fun p hp => kN p ?_) (fun p hp => ?_)
      · rcases List.mem_cons.mp hp with rfl | hp
        · exact .head _
        · exact .tail _ (.tail _ hp)
      · have z : ∀ {nw : List (Addr × Obj)}, LCg.Off1 D nw → ∀ p ∈ nw, p.1 ≠ D := fun {nw} => by
          induction nw with
          | nil => exact fun _ _ h => nomatch h
          | cons q r ih => exact fun o p hp => (List.mem_cons.mp hp).elim (fun e => e ▸ o.1) fun hp => ih o.2 p hp
        exact z off.2 p hp
end Mine
end

section
open PySem PySem.W PyProof.Rows
set_option Elab.async false
set_option maxRecDepth 100000
set_option maxHeartbeats 4000000
namespace Mine
theorem setPass0 : True := by
  w_top off
  k_with_none
  trivial
open PySem.Calls
section
variable {prog : Program} {w : World} {A : Around} {s : Shared} {base g g2 : Heap} {outer : List Env} {L a e : Addr} {m : Str → Option Value} {name : Str} {scope : Scope} {cd : Value} {cls a0 c : Value} {dd : Option Addr} {news : List (Addr × Obj)}
  {KF : Frag} {p : Program} {loose : List Str} {mg mb : Str → Option Value} {x : Str} {np pos rp : Pos} {rest : List ExceptHandler}
/-- the frame's own facts behind a raise: its ground is the base -/
theorem fr_base (h1 : base.objs.size ≤ L) (st : base.StaysIn s.heap) (F : Fr g L g2 m) (U : g2.UpToSlots s.heap) : Fr base L s.heap m := ⟨U.ns F.ns, st, h1⟩

theorem lt_of_fr {h₀ g' h' : Heap} {L L' : Addr} {m m' : Str → Option Value} (F : Fr h₀ L g' m) (F' : Fr g' L' h' m') {n : Nat} (h : n ≤ L) : n ≤ L' := by
  obtain ⟨o, _, _, e, _⟩ := F.ns
  exact Nat.le_trans h (Nat.le_trans (Nat.le_of_lt (Heap.lt_size e)) F'.above)
theorem fr_base2 {gO : Heap} {LO : Addr} {mO : Str → Option Value} {h' : Heap} (h1 : base.objs.size ≤ LO) (st : base.StaysIn h') (FO : Fr gO LO g mO) (F : Fr g L g2 m) (U : g2.UpToSlots h') : Fr base LO h' mO :=
  ⟨((Heap.UpToSlots.of_keeps F.keep).trans U).ns FO.ns, st, h1⟩
theorem up2 {gO : Heap} {LO : Addr} {mO : Str → Option Value} {h' : Heap} (FO : Fr gO LO g mO) (F : Fr g L g2 m) (U : g2.UpToSlots h') : gO.UpToSlots h' := (Heap.UpToSlots.of_keeps FO.keep).trans ((Heap.UpToSlots.of_keeps F.keep).trans U)
/-- a try whose first clause takes it and raises it again -/
theorem pass_again {E : Value → Shared → Prop} {Q : Flow → Shared → Prop} {E' : Value → Shared → Prop} (hfr : A.frames = some (envOf name scope L a cd :: outer))
    {gO : Heap} {LO : Addr} {mO : Str → Option Value} (h0 : base.objs.size ≤ LO) (FO : Fr gO LO g mO) (F : Fr g L g2 m) (U : g2.UpToSlots s.heap) (R : Thrown base (envOf name scope L a cd :: outer) e cls dd a0 .none news s.heap) (X : KF.In base) (T : TopRead p loose mg mb base)
    (ex : nsIn KF mainGlobals x = some (some c)) (he : exmOne KF cls c = some true)
    (hE : ∀ s', wpAny (model prog w) A (leaving (envOf name scope L a cd) (.ref e)) (fun _ s'' => E' (.ref e) s'') (fun e' s'' => E' e' s'') s' → E (.ref e) s')
    (k : ∀ h', Thrown base outer e cls dd a0 .none news h' → Fr base LO h' mO → gO.UpToSlots h' → E' (.ref e) { s with heap := h' })
    (hk : scope.kind = .function := by rfl) (hx : (envOf name scope L a cd).kindOf x = some .globalImplicit := by rfl) (hd : (x == ("__debug__" : Str)) = false := by decide) :
    wpAny (model prog w) A (noteFrame (.ref e) (envOf name scope L a cd)) (fun _ s₂ => wpAny (model prog w) A (setFlight (.ref e) none) (fun _ s₃ =>
      wpAny (model prog w) A (handleBy (.ref e) (envOf name scope L a cd) (.ExceptHandler (some (.Name x np)) none [.Raise none none rp] pos :: rest)) Q E s₃) E s₂) E s := by
  have h1 := lt_of_fr FO F h0
  refine throw_looked hfr rfl R fun h₁ R₁ U₁ => ?_
  have U₁ := U.trans U₁
  refine clause_yes R₁ (fr_base h1 R₁.stays F U₁) X T ex he (fun h₂ R₂ U₂ => ?_) hk hx hd
  have U₂ := U₁.trans U₂
  refine raise_bare rfl R₂ fun h₃ R₃ U₃ => hE _ ?_
  have U₃ := U₂.trans U₃
  exact throw_held rfl R₃ fun h₄ R₄ U₄ => k h₄ R₄ (fr_base2 h0 R₄.stays FO F (U₃.trans U₄)) (up2 FO F (U₃.trans U₄))
end
end Mine
end

section
open PySem PySem.W PyProof.Rows
set_option Elab.async false
set_option linter.all false
set_option maxRecDepth 100000
set_option maxHeartbeats 4000000
namespace Mine
theorem setSortQ0 : True := by
  w_top off
  k_with_none
  trivial
inductive FS : List (Str × Value) → List Str → Prop
  | none : FS [] []
  | one (v : Value) : FS [(Str.ofString "p", v)] [Str.ofString "p"]
  | two (v u : Value) : FS [(Str.ofString "p", v), (Str.ofString "a/b", u)] [Str.ofString "a/b", Str.ofString "p"]
section
open PySem.Calls
open PySem.Sem (wp)
variable {prog : Program} {w : World} {A : Around} {E : Value → Shared → Prop} {s : Shared}
variable {K : Type} [DecidableEq K] {knd : PySem.KeyKind prog w K} {kvs : List (K × Value)} {ep : Nat}
theorem dict_end_quiet {it d : Addr} {i : Nat} {Q : Option Value → Shared → Prop} (q : QuietAt A.handled s.heap) (hit : s.heap.IsKeyIter it d i kvs.length ep)
    (hm : s.heap.DictAt knd d kvs ep) (hx : kvs[i]? = none) (hne : ∀ e, A.handled = some (.ref e) → e ≠ it)
    (hQ : ∀ h', Heap.ExtBut it s.heap h' → Q none { s with heap := h' }) : wpAny (model prog w) A (pyNext (.ref it)) Q E s := by
  obtain ⟨o, ho, hc, hd⟩ := id hit
  obtain ⟨od, es, hod, hcd, hdd, hk, hp, hn⟩ := id hm
  unfold pyNext
  refine wpAny_bind (wpAny_attempt (wpAny_callSpecial?_slot (name := Str.ofString "__next__") hit.typeIs PySem.F.slot_dict_keyiterator_next
    (wpAny_call_entry PySem.F.slot_dict_keyiterator_next hit.typeIs PySem.F.entry_dict_keyiterator_next ?_ (PySem.F.args_dict_keyiterator_next_1 _))))
  refine wpAny_bind (wpAny_pure ?_)
  refine wpAny_bind ?_
  refine wpAny_bind ?_
  first | refine wpAny_bind (wpAny_typeNameOfWhole_keyiter hit.typeIs (wpAny_pure ?_)) | refine wpAny_bind (wpAny_typeNameOf_keyiter hit.typeIs (wpAny_pure ?_))
  refine wpAny_bind (wpAny_fieldsOf ho hd ?_)
  simp only [show Builtin.Dict_items.ownsTuple "dict_keyiterator" = false from by decide, Bool.false_eq_true, if_false]
  show wpAny _ _ (if (Value.ref d == Value.none) = true then _ else _) _ _ s
  rw [if_neg (show ¬ ((Value.ref d == Value.none) = true) from Bool.false_ne_true)]
  refine wpAny_bind (wpAny_pure ?_)
  refine wpAny_bind (wpAny_dictEntries hod hdd ?_)
  have hsz : es.size = kvs.length := by rw [← hp.length]; simp
  rw [if_neg (by rw [hsz]; simp)]
  refine wpAny_bind (wpAny_pure ?_)
  refine wpAny_bind (wpAny_dictEpoch hod hdd ?_)
  rw [if_neg (by simp)]
  refine wpAny_pure ?_
  have hge : es.size ≤ i := by rw [hsz]; simpa using hx
  simp only [show ¬ ((i : Int) < 0) from by omega, if_false, Int.toNat_natCast, Array.getElem?_eq_none hge]
  refine wpAny_bind ?_
  first | refine wpAny_bind (wpAny_typeNameOfWhole_keyiter hit.typeIs (wpAny_pure ?_)) | refine wpAny_bind (wpAny_typeNameOf_keyiter hit.typeIs (wpAny_pure ?_))
  show wpAny _ _ (setField (.ref it) 0 .none >>= _) _ _ s
  refine wpAny_bind (wpAny_setField ho hd (by simp) ?_)
  show wpAny _ _ (newExc (.type "StopIteration") [] >>= _) _ _ _
  refine wpAny_bind ?_
  simp only [newExc, newTuple]
  refine wpAny_bind (wpAny_newObj_type ?_ (by size_fits))
  refine wpAny_bind (m := firstArgMember _ _) (wpAny_of_eq (a := Value.none) (by first | rfl | (simp only [firstArgMember]; rfl)) ?_)
  refine wpAny_newObj_type ?_ (by size_fits)
  have x := (((Heap.SameBut.update s.heap it (Obj.mapFields (·.setIfInBounds 0 Value.none))).extBut.push { cls := .type "tuple", data := .seq ([] : List Value).toArray }))
  have hsz2 : s.heap.objs.size < ((s.heap.update it (Obj.mapFields (·.setIfInBounds 0 Value.none))).push { cls := .type "tuple", data := .seq ([] : List Value).toArray }).objs.size := by
    rw [Heap.size_push, (Heap.SameBut.update s.heap it (Obj.mapFields (·.setIfInBounds 0 Value.none))).1]
    exact Nat.lt_succ_self _
  refine raise_quiet (ob := _) (us := _) ?_ (Heap.get?_push_size _ rfl) rfl (by rw [show ownMembersOf (.type "StopIteration") [] = #[] from rfl]; rfl) ?_ fun h' ob' e1 e2 e3 => ?_
  · refine QuietAt.keep (h := s.heap) q fun e o e1 e2 => ?_
    refine Heap.get?_push_of_some _ (Heap.get?_push_of_some _ ?_)
    exact (Heap.get?_update_other _ _ (Ne.symm (hne e e1))).trans e2
  · intro z
    rcases q with q | ⟨e, o', vs, e1, e2, _⟩
    · rw [show A.in1.handled = A.handled from rfl, q] at z; cases z
    · rw [show A.in1.handled = A.handled from rfl, e1] at z
      injection Option.some.inj z with z'
      have := Heap.lt_size e2
      rw [z'] at this
      exact Nat.lt_asymm this hsz2
  · refine wpAny_bind (wpAny_isInstance (T := "StopIteration") (b := true) ⟨_, e1, e2⟩ isSubtype_stop ?_)
    refine wpAny_pure (hQ _ ?_)
    intro b o hb e
    have lt := Heap.lt_size e
    refine (e3.2 b (fun z => ?_)).trans (x.push _ b o hb e)
    rw [z] at lt
    exact Nat.lt_asymm lt hsz2
theorem Walks.dictQ {hx : Option Value} (hh : A.handled = hx) (I d : Addr) (hne : d ≠ I) (hI : ∀ e, hx = some (.ref e) → e ≠ I) (fp : List Addr) (hfp : ∀ e, hx = some (.ref e) → e ∈ fp) (kvs : List (K × Value)) (ep : Nat) :
    Walks prog w A I (I :: d :: fp) [I] kvs.length (fun i v => ∃ k x, kvs[i]? = some (k, x) ∧ knd.is k v = true) (fun i h => h.IsKeyIter I d i kvs.length ep ∧ h.DictAt knd d kvs ep ∧ QuietAt hx h) where
  sub := fun b hb => by simp at hb; simp [hb]
  frame := fun _ _ _ st hk => ⟨st.1.at fun o e => hk I (by simp) o e, st.2.1.at' fun o e => hk d (by simp) o e, st.2.2.keep fun e o e1 e2 => hk e (by simp [hfp e e1]) o e2⟩
  item := fun i s Q E hi st hQ => by
    obtain ⟨⟨k, x⟩, hx⟩ : ∃ p, kvs[i]? = some p := ⟨kvs[i], by simp [hi]⟩
    refine wpAny_pyNext_dict_item st.1 st.2.1 hx fun key h' hkey hit' hs' => ?_
    exact hQ key h' s.toks ⟨k, x, hx, hkey⟩ ⟨hit', st.2.1.extBut hs'.extBut hne, st.2.2.keep fun e o e1 e2 => hs'.extBut e o (hI e e1) e2⟩ fun b o hb e => hs'.extBut b o (fun h => hb (by simp [h])) e
  done := fun s Q E st hQ => dict_end_quiet (hh ▸ st.2.2) st.1 st.2.1 (by simp) (fun e e1 => hI e (hh ▸ e1)) fun h' he' => hQ h' s.toks fun b o hb e => he' b o (fun h => hb (by simp [h])) e
  self := fun _ _ _ _ st hQ => wpAny_pyIter_keyiter st.1 hQ
/-- the keys of a dict put into a new list, while an exception may be handled -/
theorem keys_listQ {d : Addr} {R : Result → Shared → Prop} {S : Addr} {res : Value} (q : QuietAt A.handled s.heap) (lo : (d == sysModules) = false) (hm : s.heap.DictAt knd d kvs ep) (hn : kvs.length ≤ sizeLine)
    (hSd : S ≠ d) (hSe : ∀ e, A.handled = some (.ref e) → S ≠ e) (hS : s.heap.get? S = some { cls := .type "list", data := .seq #[] 0 })
    (hR : ∀ h' tk acc' c', (∀ b o, b ≠ S → s.heap.get? b = some o → h'.get? b = some o) → h'.get? S = some { cls := .type "list", dict := none, data := .seq acc' c', slots := #[] } →
      ItemsOf (fun i v => ∃ k x, kvs[i]? = some (k, x) ∧ knd.is k v = true) acc' kvs.length → R (.ok (.ret res)) { s with heap := h', toks := tk }) :
    wpAny (model prog w) A.in1 (Builtin.List.listExtendWith (.ref S) (.ref d) res)
      (fun fin s' => match fin with | .done f => R (.ok f) s' | .again c' => c'.quiet = true ∧ codeAny (model prog w) A c' R s') (fun e s' => R (.error e) s') s := by
  have hql : ∀ e, A.handled = some (.ref e) → e < s.heap.objs.size := fun e z => by
    rcases q with q | ⟨e', o, vs, e1, e2, _⟩
    · rw [q] at z; cases z
    · rw [e1] at z; cases z; exact Heap.lt_size e2
  have hSI : S ≠ s.heap.objs.size := Nat.ne_of_lt (Heap.lt_size hS)
  have W := Walks.dictQ (prog := prog) (w := w) (A := A.in1) (knd := knd) (hx := A.handled) rfl s.heap.objs.size d (Nat.ne_of_lt hm.lt_size) (fun e z => Nat.ne_of_lt (hql e z)) (handledAddr A.handled) (fun e z => by rw [z]; exact .head _) kvs ep
  have hSf : S ∉ s.heap.objs.size :: d :: handledAddr A.handled := by
    intro hb
    rcases List.mem_cons.mp hb with rfl | hb
    · exact hSI rfl
    rcases List.mem_cons.mp hb with rfl | hb
    · exact hSd rfl
    · exact hSe _ (handledAddr_mem hb) rfl
  have key : ∀ (h : Heap) (c₁ tk : Nat), (h.IsKeyIter s.heap.objs.size d 0 kvs.length ep ∧ h.DictAt knd d kvs ep ∧ QuietAt A.handled h) → (∀ b o, b ≠ S → s.heap.get? b = some o → h.get? b = some o) →
      h.get? S = some { cls := .type "list", data := .seq #[] c₁ } → codeAny (model prog w) A (.builtin "list.extend.loop" ⟨[.ref S, .ref s.heap.objs.size, res], []⟩) R { s with heap := h, toks := tk } := by
    intro h c₁ tk hst hk hS₁
    refine codeAny_extend_loopS W.toS hn S hSf res kvs.length 0 _ #[] c₁ rfl (Nat.zero_le _) hst hS₁ (ItemsOf.nil _) fun s' acc' c' hm hS' hacc => ?_
    rw [Moved.eq_with hm]
    refine hR s'.heap s'.toks acc' c' (fun b o hb e => hm.heap b o (fun hmem => ?_) (hk b o hb e)) hS' hacc
    rcases List.mem_cons.mp hmem with e' | hmem
    · exact hb e'
    · exact absurd (Heap.lt_size e) (by rw [List.mem_singleton.mp hmem]; exact Nat.lt_irrefl _)
  unfold Builtin.List.listExtendWith
  refine wpAny_bind (wpAny_typeOf (T := "dict") hm.dictOf.typeIs ?_)
  have h1 : Builtin.List.listSameRef (.ref S) (.ref d) = false := by simp [Builtin.List.listSameRef, hSd]
  simp only [h1, show (Value.type "dict" == Value.type "list") = false from by decide, show (Value.type "dict" == Value.type "tuple") = false from by decide, Bool.or_false, Bool.false_eq_true, if_false]
  refine wpAny_bind (wpAny_pyIter_dict lo hm ?_)
  have hS₁ := Heap.get?_push_of_some ({ cls := .type "dict_keyiterator", data := .fields #[.ref d, .int 0 0, .int kvs.length 0, .int ep 0] } : Obj) hS
  have up : ∀ b o, s.heap.get? b = some o → (s.heap.push { cls := .type "dict_keyiterator", data := .fields #[.ref d, .int 0 0, .int kvs.length 0, .int ep 0] }).get? b = some o := fun b o e => Heap.get?_push_of_some _ e
  have st0 : (s.heap.push { cls := .type "dict_keyiterator", data := .fields #[.ref d, .int 0 0, .int kvs.length 0, .int ep 0] }).IsKeyIter s.heap.objs.size d 0 kvs.length ep ∧
      (s.heap.push { cls := .type "dict_keyiterator", data := .fields #[.ref d, .int 0 0, .int kvs.length 0, .int ep 0] }).DictAt knd d kvs ep ∧
      QuietAt A.handled (s.heap.push { cls := .type "dict_keyiterator", data := .fields #[.ref d, .int 0 0, .int kvs.length 0, .int ep 0] }) :=
    ⟨⟨_, Heap.get?_push_size _ rfl, rfl, rfl⟩, hm.push _, q.keep fun e o _ e2 => up e o e2⟩
  refine wpAny_bind (wpAny_holding (kdl_hint_dict (hm.push _).dictOf.typeIs ?_))
  refine wpAny_ite_split (fun _ => ?_) (fun _ => wpAny_pure ⟨plainId_quiet PySem.F.plain_extend_loop _, key _ 0 _ st0 (fun b o _ e => Heap.get?_push_of_some _ e) hS₁⟩)
  refine wpAny_bind (wpAny_rule ?_)
  refine wpAny_bind ?_
  show wpAny _ _ (updateSeq S (·.push .none) >>= fun _ => updateSeq S (·.pop)) _ _ _
  refine wpAny_bind (wpAny_updateSeq hS₁ rfl ?_)
  have hS₂ := Heap.get?_update_self (Obj.mapSeq (·.push Value.none)) hS₁ rfl
  refine wpAny_updateSeq (hz := by seq_fits) hS₂ rfl ?_
  have hS₃ := Heap.get?_update_self (Obj.mapSeq (·.pop)) hS₂ rfl
  refine wpAny_pure ⟨plainId_quiet PySem.F.plain_extend_loop _, key _ _ _ ?_ (fun b o hb e => ?_) hS₃⟩
  · refine W.frame 0 _ _ st0 fun b hb o e => ?_
    have hbS : b ≠ S := fun h => hSf (h ▸ hb)
    exact (Heap.get?_update_other _ _ (Ne.symm hbS)).trans ((Heap.get?_update_other _ _ (Ne.symm hbS)).trans e)
  · exact (Heap.get?_update_other _ _ (Ne.symm hb)).trans ((Heap.get?_update_other _ _ (Ne.symm hb)).trans (Heap.get?_push_of_some _ e))
theorem collect_dictQ {d : Addr} {R : List Value → Shared → Prop} (q : QuietAt A.handled s.heap) (lo : (d == sysModules) = false) (hm : s.heap.DictAt knd d kvs ep) (hn : kvs.length ≤ sizeLine)
    (h : ∀ (h' : Heap) (tk : Nat) (acc : Array Value), (∀ b o, s.heap.get? b = some o → h'.get? b = some o) → ItemsOf (fun i v => ∃ k x, kvs[i]? = some (k, x) ∧ knd.is k v = true) acc kvs.length → R acc.toList { s with heap := h', toks := tk }) :
    wpAny (model prog w) A (collect (.ref d)) R E s := by
  have hlt := hm.lt_size
  have hql : ∀ e, A.handled = some (.ref e) → e < s.heap.objs.size := fun e z => by
    rcases q with q | ⟨e', o, vs, e1, e2, _⟩
    · rw [q] at z; cases z
    · rw [e1] at z; cases z; exact Heap.lt_size e2
  unfold collect
  refine wpAny_bind (wpAny_runValue (codeAny_builtin entry_proto_collect' ?_))
  rw [Around.under_plainId PySem.F.plain_proto_collect _]
  show wpAny _ A.in1 (newList [] >>= fun l => again (.builtin "list.__iadd__" ⟨[l, .ref d], []⟩)) _ _ s
  refine wpAny_bind (wpAny_newObj_type ?_)
  refine wpAny_pure ⟨plainId_quiet PySem.F.plain_list_iadd _, codeAny_builtin entry_list_iadd' ?_⟩
  rw [Around.under_plainId PySem.F.plain_list_iadd _]
  have hS₁ : (s.heap.push { cls := .type "list", data := .seq ([] : List Value).toArray }).get? s.heap.objs.size = some { cls := .type "list", data := .seq #[] } := Heap.get?_push_size _ rfl
  show wpAny _ A.in1 (Builtin.List.listExtendWith (.ref s.heap.objs.size) (.ref d) (.ref s.heap.objs.size)) _ _ _
  have key := keys_listQ (A := A) (knd := knd) (s := { s with heap := s.heap.push { cls := .type "list", data := .seq ([] : List Value).toArray } }) (S := s.heap.objs.size) (res := .ref s.heap.objs.size)
    (R := fun (q : Result) (s' : Shared) => ∃ (h' : Heap) (tk : Nat) (acc' : Array Value) (c' : Nat), q = .ok (.ret (.ref s.heap.objs.size)) ∧ s' = { s with heap := h', toks := tk } ∧
      (∀ b o, s.heap.get? b = some o → h'.get? b = some o) ∧ h'.get? s.heap.objs.size = some { cls := .type "list", dict := none, data := .seq acc' c', slots := #[] } ∧ ItemsOf (fun i v => ∃ k x, kvs[i]? = some (k, x) ∧ knd.is k v = true) acc' kvs.length)
    (q.keep fun e o _ e2 => Heap.get?_push_of_some _ e2) lo (hm.push _) hn (Nat.ne_of_gt hlt) (fun e z => Nat.ne_of_gt (hql e z)) hS₁
    (fun h' tk acc' c' hk hS' hacc => ⟨h', tk, acc', c', rfl, rfl, fun b o e => hk b o (Nat.ne_of_lt (Heap.lt_size e)) (Heap.get?_push_of_some _ e), hS', hacc⟩)
  refine wpAny_mono key (fun fin s' x => ?_) fun e s' x => ?_
  · cases fin with
    | done f =>
      obtain ⟨h', tk, acc', c', e, rfl, hk, hS', hacc⟩ := x
      cases e
      show wpAny _ A (load s.heap.objs.size >>= _) _ _ _
      refine wpAny_bind (wpAny_load hS' ?_)
      exact wpAny_pure (h h' tk acc' hk hacc)
    | again c₁ =>
      refine ⟨x.1, codeAny_mono x.2 fun q s₂ y => ?_⟩
      obtain ⟨h', tk, acc', c', rfl, rfl, hk, hS', hacc⟩ := y
      show wpAny _ A (load s.heap.objs.size >>= _) _ _ _
      refine wpAny_bind (wpAny_load hS' ?_)
      exact wpAny_pure (h h' tk acc' hk hacc)
  · obtain ⟨_, _, _, _, e', _⟩ := x
    cases e'
end
theorem strs_of_items {w : World} : ∀ {kvs : List (Str × Value)} {vs : List Value}, vs.length = kvs.length → (∀ (j : Nat) (v : Value), vs[j]? = some v → ∃ k x, kvs[j]? = some (k, x) ∧ (SK w).is k v = true) → StrsAre vs (kvs.map (·.1))
  | [], [], _, _ => .nil
  | (k, x) :: r, v :: vs, e, h => by
    obtain ⟨k', x', e1, e2⟩ := h 0 v rfl
    cases e1
    have h' : Value.isStrOf k v = true := e2
    cases v <;> simp [Value.isStrOf] at h'
    subst h'
    exact .cons _ _ (strs_of_items (Nat.succ.inj e) fun j v hj => h (j + 1) v hj)
theorem fs_sorted {kvs : List (Str × Value)} {paths ss : List Str} (fs : FS kvs paths) (hp : ss.Perm (kvs.map (·.1))) (hs : PyProof.Rows.sortedS ss = true) : ss = paths := by
  cases fs with
  | none => exact List.Perm.eq_nil hp
  | one v => exact List.perm_singleton.mp hp
  | two v u =>
    have hp' : ss.Perm [Str.ofString "p", Str.ofString "a/b"] := hp
    match ss, hp', hs with
    | [], hp, _ => exact absurd hp.length_eq (by decide)
    | [_], hp, _ => exact absurd hp.length_eq (by simp)
    | _ :: _ :: _ :: _, hp, _ => exact absurd hp.length_eq (by simp)
    | [a, b], hp, hs =>
      have ha : a ∈ [Str.ofString "p", Str.ofString "a/b"] := hp.mem_iff.mp (.head _)
      rcases List.mem_cons.mp ha with rfl | ha
      · have := (List.perm_singleton.mp ((List.perm_cons _).mp hp))
        cases this
        exact absurd hs (by decide +kernel)
      · cases List.mem_singleton.mp ha
        have hp2 := hp.trans (List.Perm.swap _ _ _)
        have := (List.perm_singleton.mp ((List.perm_cons _).mp hp2))
        cases this
        rfl
theorem fs_len {kvs : List (Str × Value)} {paths : List Str} (fs : FS kvs paths) : kvs.length ≤ 2 := by
  cases fs <;> simp
theorem sorted_K {w : World} {A : Around} {s : Shared} {h₀ : Heap} {L af : Addr} {m : Str → Option Value} {news : List (Addr × Obj)} {o : Obj} {kvs : List (Str × Value)} {paths : List Str} {Q E : Value → Shared → Prop}
    (fs : FS kvs paths) (F : Fr h₀ L s.heap m) (N : News h₀ L s.heap news) (hm : (af, o) ∈ news) (ho : o.IsDictOf (SK w) kvs) (lo : (af == sysModules) = false) (hq : QuietIn A.handled news)
    (h : ∀ D vs n h' tk, StrsAre vs paths → Fr h₀ L h' m → News h₀ L h' ((D, W.listOf vs.toArray n) :: news) → (∀ p ∈ news, p.1 ≠ D) → Q (.ref D) { s with heap := h', toks := tk }) :
    wpAny (model PR w) A (call (.builtin "sorted") [.ref af]) Q E s := by
  have hsz : kvs.length ≤ sizeLine := Nat.le_trans (fs_len fs) (by rw [sizeLine_eq]; decide)
  obtain ⟨ep, hat⟩ := PySem.Heap.DictOf.dictAt (PySem.Heap.dictOf_iff.mpr ⟨o, (N _ hm).1, ho⟩)
  refine PySem.Calls.call_function_entry kind_sorted plain_sorted entry_sorted (args_sorted1 _) ?_
  unfold Builtin.«sorted»
  refine wpAny_bind (m := checkCount "sorted" 1 1 _) (wpAny_pure ?_)
  refine wpAny_bind (collect_dictQ (A := A.in1) (hq.at_ N) lo hat hsz fun h' tk acc hk hacc => ?_)
  have hl : acc.toList.length = kvs.length := by rw [Array.length_toList]; exact hacc.1
  have hS : StrsAre acc.toList (kvs.map (·.1)) := strs_of_items hl fun j v e => hacc.2 j v (by rw [← Array.getElem?_toList]; exact e)
  refine wpAny_bind (wpAny_newList ?_ (by rw [hl]; exact hsz))
  have hoL : (h'.push (seqObj "list" acc.toList.toArray 0)).get? h'.objs.size = some (seqObj "list" acc.toList.toArray 0) := Heap.get?_push_size _ rfl
  refine wpAny_bind (wpAny_holding (wpAny_call_entry slot_list_sort ⟨_, hoL, rfl⟩ entry_list_sort (list_sort_treeK strKind_oneLt hoL hS.keysOf (fun v₁ v₂ rest e => keyKind_strs (by rw [← e]; exact hS)) (by rw [hl]; exact Nat.lt_of_le_of_lt (fs_len fs) (by decide)) fun st' a1 a2 => ⟨_, rfl, ?_⟩) (args_list_sort _)))
  refine wpAny_pure ⟨_, rfl, ?_⟩
  obtain ⟨ss', b1, b2, b3⟩ := sorted_out_str hS a1 a2
  have e := fs_sorted fs b2 b3
  subst e
  obtain ⟨e, he⟩ := sortedHeap_at (out := (arrOf st').map (·.2)) hoL
  have old : ∀ b o, h'.get? b = some o → (sortedHeap (h'.push (seqObj "list" acc.toList.toArray 0)) h'.objs.size acc.toList ((arrOf st').map (·.2))).get? b = some o := fun b o z => by
    have lt := Heap.lt_size z
    rw [sortedHeap_old (Nat.ne_of_lt lt) (by rw [size_push']; exact Nat.lt_succ_of_lt lt), Heap.get?_push_ne _ _ _ (Nat.ne_of_lt lt)]
    exact z
  have F1 : Fr h₀ L h' m := F.keeps hk
  have N1 : News h₀ L h' news := fun p hp => ⟨hk _ _ (N p hp).1, (N p hp).2⟩
  exact h h'.objs.size ((arrOf st').map (·.2)).toList e _ tk b1 (F1.kept old) (N1.kept_cons F1 old (Nat.le_refl _) he) fun p hp => Nat.ne_of_lt (Heap.lt_size (hk _ _ (N p hp).1))
end Mine
end

section
open PySem PySem.W PyProof.Rows
set_option Elab.async false
set_option maxRecDepth 100000
set_option maxHeartbeats 4000000
namespace Mine
theorem setFault20 : True := by
  w_top off
  k_with_none
  trivial
open PySem.Calls Builtin Builtin.ObjectAttr
/-- an exception class of the program's own -/
noncomputable def excCls (K : Frag) (C : Addr) : Bool := match K.lookup C with
  | some ⟨_, _, .cls cd, sl⟩ => !cd.hasDel && !cd.mro.isEmpty && cd.mro.contains (.ref C) && cd.mro.contains (.type "Exception") && !cd.mro.contains (.type "AttributeError") && !cd.mro.contains (.type "NameError") && (sl.toList[4]?).join == some (.builtin "Exception.__new__") &&
      specialIn K (.ref C) "__call__" == some (some (.builtin "type.__call__")) && instIn K (.ref C) (.type "type") == some true
  | _ => false
structure ExcAt (M : Model) (h : Heap) (C : Addr) : Prop where
  obj : ∃ oc od cd sl, h.get? C = some ⟨oc, od, .cls cd, sl⟩ ∧ cd.hasDel = false ∧ cd.mro.isEmpty = false
  made : Looks M h (Bind.madeBy (.ref C)) (some "Exception.__new__")
  base : Looks M h (Bind.staticBase (.ref C)) (.ref C)
  self : Looks M h (isSubtype (.ref C) (.ref C)) true
  exc : Looks M h (isSubtype (.ref C) (.type "Exception")) true
  noA : Looks M h (isSubtype (.ref C) (.type "AttributeError")) false
  noN : Looks M h (isSubtype (.ref C) (.type "NameError")) false
  call : Looks M h (specialOf (.ref C) "__call__") (some (.builtin "type.__call__"))
  typ : Looks M h (isInstance (.ref C) (.type "type")) true
theorem excAt_of {K : Frag} {M : Model} {h : Heap} (X : K.In h) {C : Addr} (e : excCls K C = true) : ExcAt M h C := by
  unfold excCls at e
  split at e
  · rename_i oc od cd sl ho
    simp only [Bool.and_eq_true, Bool.not_eq_true', beq_iff_eq] at e
    obtain ⟨⟨⟨⟨⟨⟨⟨⟨e2, e4⟩, e5⟩, e6⟩, ea⟩, en⟩, e3⟩, e7⟩, e8⟩ := e
    have hc : clsIn K C = some cd := by unfold clsIn; rw [ho]
    have hm : Looks M h (mroOf (.ref C)) cd.mro := (looks_clsIn X hc).andThen .now
    obtain ⟨c, l, hl⟩ : ∃ c l, cd.mro = c :: l := by cases q : cd.mro with | nil => rw [q] at e4; cases e4 | cons c l => exact ⟨c, l, rfl⟩
    have made : Looks M h (Bind.madeBy (.ref C)) (some "Exception.__new__") := by
      intro A Q E s k q
      unfold Bind.madeBy
      refine wpAny_bind (hm A _ E s k ?_)
      rw [hl, List.forIn_cons]
      refine wpAny_bind (wpAny_bind (wpAny_bind (wpAny_bind (wpAny_loadPart (k _ _ (X _ _ ho)) (wpAny_pure ?_)))))
      dsimp only
      rw [← Array.getElem?_toList, e3]
      exact wpAny_pure (wpAny_pure (wpAny_pure q))
    have sub : ∀ {b r}, cd.mro.contains b = r → Looks M h (isSubtype (.ref C) b) r := fun {b r} q => looks_mroIn X (by unfold mroIn; rw [hc, Option.bind_some, if_neg (by rw [e4]; decide), q])
    refine ⟨⟨oc, od, cd, sl, X _ _ ho, e2, e4⟩, made, ?_, sub e5, sub e6, sub ea, sub en, looks_specialIn X e7, looks_instIn X e8⟩
    · intro A Q E s k q
      unfold Bind.staticBase
      refine wpAny_bind (hm A _ E s k ?_)
      rw [hl, List.forIn_cons]
      exact wpAny_bind (wpAny_bind (wpAny_bind (made A _ E s k (wpAny_pure (wpAny_pure (wpAny_pure q))))))
  · cases e
noncomputable abbrev excObj (C n : Addr) (dd : Option Addr) : Obj := ⟨.ref C, dd, .fields #[.ref n, .none, .none, .none, .bool false, .none], #[]⟩
section
variable {prog : Program} {w : World} {A : Around} {K : Frag} {C : Addr} {R : Result → Shared → Prop} {h : Heap} {g : Array GenState} {d : Drawn} {t : Nat} {os : OsState}
theorem newX_K {rest : List Value} (Y : ExcAt (model prog w) h C)
    (hq : R (.ok (.ret (.ref (h.objs.size + 1)))) ⟨(h.push (tupOf rest.toArray 0)).push (excObj C h.objs.size none), g, d, t, os⟩) (hrest : rest.length ≤ 5) :
    codeAny (model prog w) A (.call (.builtin "Exception.__new__") ⟨.ref C :: rest, []⟩) R ⟨h, g, d, t, os⟩ := by
  obtain ⟨⟨oc, od, cd, sl, hC, e2, e4⟩, made, base, self, exc, noA, noN, call, typ⟩ := Y
  have Fn := PySem.F.excBase_Exception
  have hends := Fn.ends
  have hstar := Fn.noStar
  have mh : Looks (model prog w) h (Bind.madeHere "BaseException.__new__" (.ref C)) () := base.andThen (made.andThen (Looks.of_pure (by simp only [Option.map_some, Fn.canon, bne_self_eq_false, Bool.false_eq_true, if_false])))
  refine codeAny_call_builtin_code (Code.quiet_builtin _ Fn.quiet) ?_
  simp only [checkBuiltinCall, Fn.newKind, Fn.newSplit, Fn.newRow]
  repeat (first | lk | wp_step)
  refine codeAny_builtinAt Fn.entry ?_
  unfold Builtin.«BaseException.__new__»
  refine PySem.wpAt_bind ?_
  show PySem.wpAt _ _ _ (stack >>= _) _ _ _
  refine PySem.wpAt_bind (PySem.wpAt_stack fun p below => PySem.wpAt_of_wpAny ?_)
  wp_walk
  refine PySem.wpAt_of_wpAny ?_
  rw [Fn.owner]
  have hz : rest.length ≤ sizeLine := by rw [sizeLine_eq]; omega
  have isT : ∀ (A : Around) (E : Value → Shared → Prop) (Q : Bool → Shared → Prop), Q true ⟨h, g, d, t, os⟩ → wpAny (model prog w) A (isType (.ref C)) Q E ⟨h, g, d, t, os⟩ := fun A E Q q => by
    unfold isType
    exact wpAny_bind (wpAny_loadPart hC (wpAny_pure q))
  repeat (first | with_reducible refine isT _ _ _ ?_ | lk | wp_step)
  refine wpAny_load (Heap.get?_push_of_some _ (Heap.get?_push_of_some _ hC)) (wpAny_pure ?_)
  rw [e2]
  refine wpAny_pure (wpAny_pure ?_)
  show R _ _
  rw [Heap.size_push]
  exact hq
theorem makeX_core {rest : List Value} {init : Value} (Y : ExcAt (model prog w) h C) (hi : Looks (model prog w) h (typeLookup (.ref C) "__init__") (some init))
    (hb : ∀ self, Looks (model prog w) h (bindSpecial init self) (init, [self])) (hrest : rest.length ≤ 5)
    (hq : codeAny (model prog w) (A.under (.builtin "type.__call__" ⟨.ref C :: rest, []⟩)) (.call init ⟨.ref (h.objs.size + 1) :: rest, []⟩) (InitBack (h.objs.size + 1) R) ⟨(h.push (tupOf rest.toArray 0)).push (excObj C h.objs.size none), g, d, t, os⟩) :
    codeAny (model prog w) A (.call (.ref C) ⟨rest, []⟩) R ⟨h, g, d, t, os⟩ := by
  have Y' := Y
  obtain ⟨⟨oc, od, cd, sl, hC, e2, e4⟩, made, base, self, exc, noA, noN, call, typ⟩ := Y
  refine codeAny_of_tree ?_
  show wpAny _ _ (callAny (.ref C) _) _ _ _
  refine nd_load hC ?_
  show wpAny _ _ (callAny.viaDunder (.ref C) _) _ _ _
  unfold callAny.viaDunder
  refine wpAny_bind (call.at ?_)
  dsimp only
  rw [tc_bind]
  refine wpAny_bind (wpAny_pure (wpAny_bind (wpAny_pure ?_)))
  refine wpAny_pure (a := Fin.again (.call (.builtin "type.__call__") ⟨.ref C :: rest, []⟩)) (And.intro rfl ?_)
  refine codeAny_call_builtin_at (Code.quiet_builtin _ (by decide +kernel)) entry_typeCall (check_slot tc_kind tc_split typ (tc_args _ _ _) ?_)
  unfold Builtin.«type.__call__»
  have hm : Looks (model prog w) h (mroOf (.ref C)) cd.mro := ((Looks.ld (part := none) hC).andThen .now).andThen .now
  repeat (first | simp only [e4, Bool.false_eq_true, if_false] | with_reducible refine wpAny_call ?_ | lk)
  refine newX_K Y' ?_ hrest
  have k : ∀ b o, h.get? b = some o → ((h.push (tupOf rest.toArray 0)).push (excObj C h.objs.size none)).get? b = some o := fun b o e => Heap.get?_push_of_some _ (Heap.get?_push_of_some _ e)
  have hx : ((h.push (tupOf rest.toArray 0)).push (excObj C h.objs.size none)).get? (h.objs.size + 1) = some (excObj C h.objs.size none) := by heap_get
  have t1 : Looks (model prog w) ((h.push (tupOf rest.toArray 0)).push (excObj C h.objs.size none)) (typeOf (.ref (h.objs.size + 1))) (.ref C) := (Looks.ld hx).andThen .now
  have s1 := self.keeps k
  have i1 := hi.keeps k
  have b1 := (hb (.ref (h.objs.size + 1))).keeps k
  show wpAny _ _ _ _ _ _
  unfold isInstance callSpecial? specialOf
  repeat (first | with_reducible refine wpAny_call ?_ | lk)
  refine codeAny_mono hq fun r s' z => ?_
  rcases r with e | (v | _ | _ | _) <;> first | exact z | exact z.elim | skip
  obtain ⟨rfl, z⟩ := z
  exact wpAny_pure (wpAny_pure z)
end
section
variable {prog : Program} {w : World} {A : Around} {E : Value → Shared → Prop} {K : Frag} {C x : Addr} {s : Shared} {h₀ : Heap} {L : Addr} {m : Str → Option Value} {news : List (Addr × Obj)} {R : Result → Shared → Prop}
theorem makeX_K {rest : List Value} {fI : Addr} (F : Fr h₀ L s.heap m) (N : News h₀ L s.heap news) (X : K.In s.heap) (hm : excCls K C = true)
    (hi : findIn K (.ref C) "__init__" = some (some (.ref fI))) (hf : typeIn K (.ref fI) = some (.type "function")) (hrest : rest.length ≤ 5)
    (h : ∀ x n h', Fr h₀ L h' m → News h₀ L h' ((x, excObj C n none) :: (n, tupOf rest.toArray 0) :: news) → (∀ p ∈ news, p.1 ≠ n) → n ≠ x → (∀ p ∈ news, p.1 ≠ x) →
      codeAny (model prog w) (A.under (.builtin "type.__call__" ⟨.ref C :: rest, []⟩)) (.call (.ref fI) ⟨.ref x :: rest, []⟩) (InitBack x R) { s with heap := h' }) :
    codeAny (model prog w) A (.call (.ref C) ⟨rest, []⟩) R s := by
  obtain ⟨hh, g, d, t, os⟩ := s
  have lt : ∀ p ∈ news, p.1 < hh.objs.size := fun p hp => Heap.lt_size (N p hp).1
  refine makeX_core (excAt_of X hm) (looks_findIn X hi) (fun self => bind_fn X self hf) hrest (h _ hh.objs.size _ ((F.push _).push _) ?_ (fun p hp => Nat.ne_of_lt (lt p hp)) (Nat.ne_of_lt (Nat.lt_succ_self _)) (fun p hp => Nat.ne_of_lt (Nat.lt_succ_of_lt (lt p hp))))
  have := (N.push F (tupOf rest.toArray 0)).push (F.push _) (excObj C hh.objs.size none)
  rw [Heap.size_push] at this
  exact this
theorem excInit_call {n : Addr} {dd : Option Addr} {v : Value} {pre post : List (Addr × Obj)} {Q : Value → Shared → Prop} (F : Fr h₀ L s.heap m) (N : News h₀ L s.heap (pre ++ (x, excObj C n dd) :: post)) (h1 : ∀ p ∈ pre, p.1 ≠ x) (h2 : ∀ p ∈ post, p.1 ≠ x)
    (X : K.In s.heap) (hm : excCls K C = true) (hs : subIn K (.ref C) (.type "Exception") = some true)
    (h : ∀ n' h', Fr h₀ L h' m → News h₀ L h' ((n', tupOf #[v] 0) :: (pre ++ (x, excObj C n' dd) :: post)) → (∀ p ∈ pre ++ (x, excObj C n' dd) :: post, p.1 ≠ n') → Q .none { s with heap := h' }) :
    wpAny (model prog w) A (call (.builtin "Exception.__init__") [.ref x, v]) Q E s := by
  obtain ⟨hh, g, d, t, os⟩ := s
  have BF := PySem.F.excBase_Exception
  have hx := (N (x, excObj C n dd) (by simp)).1
  have L0 : Looks (model prog w) hh (typeOf (.ref x)) (.ref C) := (Looks.ld hx).andThen .now
  have L1 := looks_subIn (M := model prog w) X hs
  refine wpAny_call (codeAny_call_builtin BF.init.plain BF.initEntry ?_)
  simp only [checkBuiltinCall, BF.initKind, BF.initSplit, BF.initRow]
  have hstar := BF.noStar
  unfold isInstance
  repeat (first | lk | wp_step)
  obtain ⟨⟨oc, od, cd, sl, hC, _⟩, _⟩ := excAt_of (M := model prog w) X hm
  have L2 : Looks (model prog w) hh (classData C) cd := (Looks.ld (part := none) hC).andThen .now
  repeat (first | with_reducible refine wpAny_load hC ?_ | with_reducible refine wpAny_pure ?_ | lk | wp_step)
  have FN := And.intro (F.push (tupOf #[v] 0)) (N.push F (tupOf #[v] 0))
  have lt : ∀ p ∈ pre ++ (x, excObj C n dd) :: post, p.1 ≠ hh.objs.size := fun p hp => Nat.ne_of_lt (Heap.lt_size (N p hp).1)
  have hx' := (FN.2 (x, excObj C n dd) (by simp)).1
  refine wpAny_load hx' (wpAny_pure (wpAny_pure (wpAny_bind (wpAny_setField hx' rfl (Nat.zero_lt_succ _) ?_))))
  refine wpAny_letGo (wpAny_pure ?_)
  have z1 : ∀ p ∈ (hh.objs.size, tupOf #[v] 0) :: pre, p.1 ≠ x := fun p hp => by
    rcases List.mem_cons.mp hp with rfl | hp
    · exact (lt (x, excObj C n dd) (by simp)).symm
    · exact h1 p hp
  obtain ⟨U1, U2⟩ := news_upd (pre := (hh.objs.size, tupOf #[v] 0) :: pre) (f := Obj.mapFields (·.setIfInBounds 0 (Value.ref hh.objs.size))) (o' := excObj C hh.objs.size dd) FN.1 FN.2 z1 h2 rfl rfl
  refine h _ _ U1 U2 fun p hp => ?_
  rcases List.mem_append.mp hp with hp | hp
  · exact lt p (List.mem_append_left _ hp)
  · rcases List.mem_cons.mp hp with rfl | hp
    · exact lt (x, excObj C n dd) (by simp)
    · exact lt p (List.mem_append_right _ (.tail _ hp))
/-- a class whose stores are `object`'s, over `Exception` -/
noncomputable def overExc (K : Frag) (C : Addr) : Bool := (clsIn K C).any fun cd => cd.hasDict && cd.mro.contains (.type "object") && !cd.mro.isEmpty && (match cd.mro with
  | [.ref _, .ref _, .type "Exception", .type "BaseException", .type "object"] => true
  | _ => false)
theorem osaX_open {ox : Obj} {od : Option Obj} {name : Str} {tk : Tok} {v : Value} {r : Option Value} (X : K.In s.heap) (I : InstAt s.heap x ox C od) (hp : overExc K C = true) (ht : takerIn K C name = some r)
    (h : ∀ b, wpAny (model prog w) A.in1 (match r with | some a => setByDescriptor a (.ref x) v | none => storeInOwnDict (.ref x) (.ref C) (.str name tk) name v b)
      (fun fin s' => match fin with | .done f => R (.ok f) s' | .again c' => c'.quiet = true ∧ codeAny (model prog w) A c' R s') (fun e s' => R (.error e) s') s) :
    codeAny (model prog w) A (.call (.builtin "object.__setattr__") ⟨[.ref x, .str name tk, v], []⟩) R s := by
  have SF := PySem.F.store_Exception
  obtain ⟨cd, hc, ho⟩ := any_some hp
  simp only [Bool.and_eq_true, Bool.not_eq_true'] at ho
  obtain ⟨⟨⟨hd, hobj⟩, ne⟩, hm5⟩ := ho
  have sub : Looks (model prog w) s.heap (isInstance (.ref x) (.type "object")) true := I.type.andThen (looks_mroIn X (by unfold mroIn; rw [hc, Option.bind_some, if_neg (by rw [ne]; decide), hobj]))
  refine codeAny_call_builtin SF.slot.plain SF.entry (@check_slot (model prog w) _ _ s "object.__setattr__" "object" "__setattr__" (.ref x) [.str name tk, v] [] _ SF.kind SF.split sub (SF.args (.ref x) (.str name tk) v) ?_)
  obtain ⟨attr, ha, hr⟩ := Option.bind_eq_some_iff.mp ht
  have hm : Looks (model prog w) s.heap (mroOf (.ref C)) cd.mro := (looks_clsIn X hc).andThen .now
  have L3 : Looks (model prog w) s.heap (storeTaker? attr) r := by
    cases attr with
    | none => cases hr; exact .now
    | some a =>
      obtain ⟨b, hb, rfl⟩ := Option.map_eq_some_iff.mp hr
      refine (looks_takesIn X hb).andThen ?_
      cases b <;> exact .now
  rw [osa_eq, refuse_eq]
  refine wpAny_bind (wpAny_bind (I.type.here (wpAny_bind (hm.here ?_))))
  have pass : refuseLoop (.ref x) "__setattr__" cd.mro = pure () := by
    split at hm5
    · rename_i e
      rw [e, refuseLoop_ref, refuseLoop_ref]
      exact SF.passes _
    · cases hm5
  rw [pass]
  refine wpAny_pure (wpAny_bind (I.type.here (wpAny_bind ((looks_findIn X ha).here (wpAny_bind (L3.here ?_))))))
  exact h _
theorem setX_plain {ox : Obj} {od : Option Obj} {name : Str} {v : Value} {Q : Unit → Shared → Prop} (X : K.In s.heap) (I : InstAt s.heap x ox C od)
    (hs : findIn K (.ref C) "__setattr__" = some (some (.builtin "object.__setattr__"))) (hp : overExc K C = true) (ht : takerIn K C name = some none)
    (h : ∀ b, wpAny (model prog w) A.in1 (storeInOwnDict (.ref x) (.ref C) (.str name s.toks) name v b)
      (fun fin s' => match fin with | .done (.ret _) => Q () s' | _ => False) E { s with toks := s.toks + 1 }) :
    wpAny (model prog w) A (setAttr (.ref x) name v) Q E s := by
  refine set_plain X I hs (osaX_open (s := { s with toks := s.toks + 1 }) X I hp ht fun b => wpAny_mono (h b) (fun f s' z => ?_) fun _ _ z => z)
  rcases f with (v | _ | _ | _) | c <;> first | exact z | exact z.elim
theorem setX_first {n : Addr} {name : Str} {v : Value} {pre post : List (Addr × Obj)} {Q : Unit → Shared → Prop} (F : Fr h₀ L s.heap m) (N : News h₀ L s.heap (pre ++ (x, excObj C n none) :: post)) (X₀ : K.In h₀)
    (hs : findIn K (.ref C) "__setattr__" = some (some (.builtin "object.__setattr__"))) (hp : overExc K C = true) (ht : takerIn K C name = some none) (h1 : ∀ p ∈ pre, p.1 ≠ x) (h2 : ∀ p ∈ post, p.1 ≠ x)
    (h : ∀ d h', Fr h₀ L h' m → News h₀ L h' ((d, dictOf [⟨PyData.keyHash w.params name, .str name (s.toks + 1), v⟩] 1) :: (pre ++ (x, excObj C n (some d)) :: post)) → (∀ p ∈ pre ++ (x, excObj C n (some d)) :: post, p.1 ≠ d) → Q () { s with heap := h', toks := s.toks + 2 }) :
    wpAny (model prog w) A (setAttr (.ref x) name v) Q E s := by
  have X := X₀.keeps F.keep
  obtain ⟨hh, g, d, t, os⟩ := s
  have hx := (N (x, excObj C n none) (by simp)).1
  have I : InstAt hh x (excObj C n none) C none := ⟨hx, rfl, rfl, trivial⟩
  obtain ⟨cd, hc, ho⟩ := any_some hp
  simp only [Bool.and_eq_true, Bool.not_eq_true'] at ho
  have hd := ho.1.1.1
  refine setX_plain X I hs hp ht fun b => ?_
  have lt : ∀ p ∈ pre ++ (x, excObj C n none) :: post, p.1 ≠ hh.objs.size := fun p hp => Nat.ne_of_lt (Heap.lt_size (N p hp).1)
  have FN := And.intro (F.push emptyDict) (N.push F emptyDict)
  have z1 : ∀ p ∈ (hh.objs.size, emptyDict) :: pre, p.1 ≠ x := fun p hp => by
    rcases List.mem_cons.mp hp with rfl | hp
    · exact (lt (x, excObj C n none) (by simp)).symm
    · exact h1 p hp
  obtain ⟨U1, U2⟩ := news_upd (pre := (hh.objs.size, emptyDict) :: pre) (f := fun o => { o with dict := some hh.objs.size }) (o' := excObj C n (some hh.objs.size)) FN.1 FN.2 z1 h2 rfl rfl
  have lt' : ∀ p ∈ pre ++ (x, excObj C n (some hh.objs.size)) :: post, p.1 ≠ hh.objs.size := fun p hp => by
    rcases List.mem_append.mp hp with hp | hp
    · exact lt p (List.mem_append_left _ hp)
    · rcases List.mem_cons.mp hp with rfl | hp
      · exact lt (x, excObj C n none) (by simp)
      · exact lt p (List.mem_append_right _ (.tail _ hp))
  obtain ⟨V1, V2⟩ := news_upd (pre := []) (f := Obj.putName name (PyData.keyHash w.params name) (.str name (t + 1)) v) (o' := dictOf [⟨PyData.keyHash w.params name, .str name (t + 1), v⟩] 1) U1 U2 (fun _ q => nomatch q) lt' rfl rfl
  have D := (U2 _ (.head _)).1
  have D' := (V2 _ (.head _)).1
  have LC : Looks (model prog w) hh (classData C) cd := looks_clsIn X hc
  refine wpAny_bind (wpAny_pure (wpAny_bind (wpAny_bind (wpAny_loadPart hx ?_))))
  show wpAny _ _ (classData C >>= _) _ _ ⟨hh, g, d, t + 1, os⟩
  refine wpAny_bind (LC.at ?_)
  rw [hd]
  refine wpAny_bind (wpAny_alloc (wpAny_bind (wpAny_update (Heap.get?_push_of_some _ hx) ?_)))
  refine wpAny_pure (wpAny_bind (wpAny_pure (wpAny_bind ?_)))
  unfold nsSet
  refine wpAny_bind (wpAny_bind (wpAny_askSetting (wpAny_pure (wpAny_bind (wpAny_mkText (wpAny_bind (wpAny_loadPart D ?_)))))))
  dsimp only [emptyDict]
  have c : (!(#[] : Array DictEntry).any (·.key.isStr name) && (#[] : Array DictEntry).any (·.refKey)) = false := by simp
  rw [aRefKeyMayBeTheName_at, c]
  refine wpAny_updatePart D ?_
  refine wpAny_bind (wpAny_lookBehind D' (pastItsLine_dict (by rw [List.size_toArray, sizeLine_eq]; simp)) ?_)
  exact wpAny_pure (h _ _ V1 V2 lt')
theorem putL_len (name : Str) (hsh : Int) (key v : Value) : ∀ es : List DictEntry, (putL name hsh key v es).length ≤ es.length + 1
  | [] => Nat.le_refl _
  | e :: r => by
    unfold putL
    split
    · exact Nat.le_succ _
    · exact Nat.succ_le_succ (putL_len name hsh key v r)
theorem setX_next {n dx : Addr} {name : Str} {v : Value} {pre post : List (Addr × Obj)} {es : List DictEntry} {k : Nat} {Q : Unit → Shared → Prop} (F : Fr h₀ L s.heap m) (N : News h₀ L s.heap (pre ++ (dx, dictOf es k) :: post)) (X₀ : K.In h₀) (hx : (x, excObj C n (some dx)) ∈ pre ++ (dx, dictOf es k) :: post)
    (hs : findIn K (.ref C) "__setattr__" = some (some (.builtin "object.__setattr__"))) (hp : overExc K C = true) (ht : takerIn K C name = some none) (h1 : ∀ p ∈ pre, p.1 ≠ dx) (h2 : ∀ p ∈ post, p.1 ≠ dx)
    (hl : es.any (·.refKey) = false) (hz : es.length ≤ 900)
    (h : ∀ h', Fr h₀ L h' m → News h₀ L h' (pre ++ (dx, dictOf (putL name (PyData.keyHash w.params name) (.str name (s.toks + 1)) v es) (putN name es k)) :: post) → Q () { s with heap := h', toks := s.toks + 2 }) :
    wpAny (model prog w) A (setAttr (.ref x) name v) Q E s := by
  have X := X₀.keeps F.keep
  obtain ⟨hh, g, d, t, os⟩ := s
  have hx' := (N _ hx).1
  have D₀ := (N (dx, dictOf es k) (by simp)).1
  have I : InstAt hh x (excObj C n (some dx)) C (some (dictOf es k)) := ⟨hx', rfl, rfl, D₀⟩
  obtain ⟨cd, hc, ho⟩ := any_some hp
  simp only [Bool.and_eq_true, Bool.not_eq_true'] at ho
  have hd := ho.1.1.1
  refine setX_plain X I hs hp ht fun b => ?_
  obtain ⟨U1, U2⟩ := news_upd (f := Obj.putName name (PyData.keyHash w.params name) (.str name (t + 1)) v) F N h1 h2 (putName_dict _ _ _ _ _ _) rfl
  have D' := (U2 (dx, dictOf (putL name (PyData.keyHash w.params name) (.str name (t + 1)) v es) (putN name es k)) (by simp)).1
  have LC : Looks (model prog w) hh (classData C) cd := looks_clsIn X hc
  refine wpAny_bind (wpAny_pure (wpAny_bind (wpAny_bind (wpAny_loadPart hx' ?_))))
  show wpAny _ _ (classData C >>= _) _ _ ⟨hh, g, d, t + 1, os⟩
  refine wpAny_bind (LC.at ?_)
  rw [hd]
  refine wpAny_pure (wpAny_bind (wpAny_pure (wpAny_bind ?_)))
  unfold nsSet
  refine wpAny_bind (wpAny_bind (wpAny_askSetting (wpAny_pure (wpAny_bind (wpAny_mkText (wpAny_bind (wpAny_loadPart D₀ ?_)))))))
  dsimp only [dictOf]
  have c : (!es.toArray.any (·.key.isStr name) && es.toArray.any (·.refKey)) = false := by simp [hl]
  rw [aRefKeyMayBeTheName_at, c]
  refine wpAny_updatePart D₀ ?_
  refine wpAny_bind (wpAny_lookBehind D' (pastItsLine_dict (by rw [List.size_toArray, sizeLine_eq]; have := putL_len name (PyData.keyHash w.params name) (.str name (t + 1)) v es; omega)) ?_)
  exact wpAny_pure (h _ U1 U2)
end
end Mine
end

section
open PySem PySem.W PyProof.Rows
set_option Elab.async false
set_option linter.all false
set_option maxRecDepth 100000
set_option maxHeartbeats 0
set_option pp.maxSteps 20000
namespace Mine
local macro_rules | `(tactic| k_room) => `(tactic| (dsimp only [Around.deeper, Around.under]; omega))
section
variable {prog : Program} {w : World} {A : Around} {E : Value → Shared → Prop} {K : Frag} {C x : Addr} {s : Shared} {h₀ : Heap} {L : Addr} {m : Str → Option Value}
theorem excInit0 {n : Addr} {dd : Option Addr} {v : Value} {post : List (Addr × Obj)} {Q : Value → Shared → Prop} (F : Fr h₀ L s.heap m) (N : News h₀ L s.heap ((x, excObj C n dd) :: post)) (h2 : ∀ p ∈ post, p.1 ≠ x)
    (X : K.In s.heap) (hm : excCls K C = true) (hs : subIn K (.ref C) (.type "Exception") = some true)
    (h : ∀ n' h', Fr h₀ L h' m → News h₀ L h' ((n', tupOf #[v] 0) :: (x, excObj C n' dd) :: post) → (@Ne Nat n' x) → (∀ p ∈ post, p.1 ≠ n') → Q .none { s with heap := h' }) :
    wpAny (model prog w) A (call (.builtin "Exception.__init__") [.ref x, v]) Q E s :=
  excInit_call (pre := []) F N (fun _ q => nomatch q) h2 X hm hs fun n' h' F' N' ne => h n' h' F' N' (ne _ (.head _)).symm fun p hp => ne p (.tail _ hp)
theorem setX1 {n : Addr} {name : Str} {v : Value} {q : Addr × Obj} {post : List (Addr × Obj)} {Q : Unit → Shared → Prop} (F : Fr h₀ L s.heap m) (N : News h₀ L s.heap (q :: (x, excObj C n none) :: post)) (X₀ : K.In h₀)
    (hs : findIn K (.ref C) "__setattr__" = some (some (.builtin "object.__setattr__"))) (hp : overExc K C = true) (ht : takerIn K C name = some none) (h1 : q.1 ≠ x) (h2 : ∀ p ∈ post, p.1 ≠ x)
    (h : ∀ d h', Fr h₀ L h' m → News h₀ L h' ((d, dictOf [⟨PyData.keyHash w.params name, .str name (s.toks + 1), v⟩] 1) :: (x, excObj C n (some d)) :: post) → (@Ne Nat d x) → (∀ p ∈ post, p.1 ≠ d) → Q () { s with heap := h', toks := s.toks + 2 }) :
    wpAny (model prog w) A (setAttr (.ref x) name v) Q E s :=
  setX_first (pre := [q]) F N X₀ hs hp ht (fun p hp => by rcases List.mem_singleton.mp hp with rfl; exact h1) h2 fun d h' F' N' ne => h d h' F' (fun p hp => N' p (by
    rcases List.mem_cons.mp hp with rfl | hp
    · exact .head _
    · exact .tail _ (.tail _ hp))) (ne _ (.tail _ (.head _))).symm fun p hp => ne p (.tail _ (.tail _ hp))
theorem setX2 {n dx : Addr} {name : Str} {v : Value} {post : List (Addr × Obj)} {es es' : List DictEntry} {k k' : Nat} {Q : Unit → Shared → Prop} (F : Fr h₀ L s.heap m) (N : News h₀ L s.heap ((dx, dictOf es k) :: (x, excObj C n (some dx)) :: post)) (X₀ : K.In h₀)
    (hs : findIn K (.ref C) "__setattr__" = some (some (.builtin "object.__setattr__"))) (hp : overExc K C = true) (ht : takerIn K C name = some none) (hx : @Ne Nat dx x) (h2 : ∀ p ∈ post, p.1 ≠ dx)
    (hl : es.any (·.refKey) = false) (hz : es.length ≤ 900) (e : (putL name (PyData.keyHash w.params name) (.str name (s.toks + 1)) v es, putN name es k) = (es', k'))
    (h : ∀ h', Fr h₀ L h' m → News h₀ L h' ((dx, dictOf es' k') :: (x, excObj C n (some dx)) :: post) → Q () { s with heap := h', toks := s.toks + 2 }) :
    wpAny (model prog w) A (setAttr (.ref x) name v) Q E s := by
  obtain ⟨e1, e2⟩ := Prod.mk.inj e
  subst e1 e2
  exact setX_next (pre := []) F N X₀ (.tail _ (.head _)) hs hp ht (fun _ q => nomatch q) (fun p hp => by
    rcases List.mem_cons.mp hp with rfl | hp
    · exact hx.symm
    · exact h2 p hp) hl hz h
end
theorem setFault30 : True := by
  w_top off
  k_with_none
  k_with "call builtin:Exception.__init__" => ((k_here; k_dflt (refine excInit0 (by k_asm) (by k_asm) (by assumption) (by k_in) (by assumption) (by assumption) ?_); intro n' h' F' N' ne1 ne'))
  k_with "setAttr ref" => ((k_here; k_dflt (first
      | (refine setX1 (by k_asm) (by k_asm) (by k_asm) (by assumption) (by assumption) (by assumption) (by assumption) (by assumption) ?_; intro d' h' F' N' ne1 ne')
      | (refine setX2 (by k_asm) (by k_asm) (by k_asm) (by assumption) (by assumption) (by assumption) (by assumption) (by assumption) (by rfl) (by exact Nat.le_of_ble_eq_true rfl) (by with_unfolding_all rfl) ?_; intro h' F' N'))))
  trivial
theorem meta_exc : typeOf (.type "Exception") = pure (.type "type") := by kernel_rfl
theorem setFault31 : True := by
  skip
  k_with "getMethod type:Exception" => ((k_here; k_dflt (refine' method_type ?F ?X ?m (by decide +kernel) ?e ?h ?_; (case F => k_asm); (case X => k_asm); (case m => exact meta_exc); (case e => k_is); (case h => k_handed))))
  trivial
theorem exc_init (w : World) (mean : ExcName → Option Value) (mg mb : Str → Option Value) (A A₀ : Around) (env : Env) (outer : List Env)
  (base h₀ : Heap) (L : Addr) (m : Str → Option Value) (s : Shared) (R : Result → Shared → Prop)
  (C x n : Addr) (what atv : Value) (args : Args) (news : List (Addr × Obj))
  (hm : excCls (hd.heap_1 w.params) C = true) (hsub : subIn (hd.heap_1 w.params) (.ref C) (.type "Exception") = some true) (hs : findIn (hd.heap_1 w.params) (.ref C) "__setattr__" = some (some (.builtin "object.__setattr__"))) (hp : overExc (hd.heap_1 w.params) C = true) (ht1 : takerIn (hd.heap_1 w.params) C "what" = some none) (ht2 : takerIn (hd.heap_1 w.params) C "at" = some none)
  (B : Below A₀ base outer h₀) (F : Fr h₀ L s.heap m) (KX : (hd.heap_1 w.params).In h₀) (N : News h₀ L s.heap ((x, excObj C n none) :: news)) (T : Top hd.view_39 LO mean mg mb h₀)
  (hA : A.frames = some (env :: outer)) (hf : env.frame = some L) (hk : env.scope.kind = .function) (hroom : A.depth ≤ 900) (hu : A.units ≤ 200)
  (o1 : ∀ p ∈ news, p.1 ≠ x)
  (hbind : ∀ fd oc od osl, (hd.heap_1 w.params).In s.heap → (hd.heap_1 w.params).lookup 37 = some ⟨oc, od, .func fd, osl⟩ → BindsTo s fd args [("self", .ref x), ("what", what), ("at", atv)])
  (hret : ∀ n' d h1 h2 t1 t2 h' tk', Fr h₀ L h' m → News h₀ L h' ((d, dictOf [⟨h1, .str ⟨#[119, 104, 97, 116]⟩ t1, what⟩, ⟨h2, .str ⟨#[97, 116]⟩ t2, atv⟩] 2) :: (x, excObj C n' (some d)) :: news) → (@Ne Nat d x) → (∀ p ∈ news, p.1 ≠ d) → R (.ok (.ret .none)) { s with heap := h', toks := tk' }) :
  codeAny (model PySem.Challenge.rw_pb0238_01.row.prog w) A (.call (.ref 37) args) R s := by
  revert KX; k_fill; intro KX
  k_dflt (refine' code_def ?k1 ?k2 ?k3 ?k4 ?k5 ?kA ?kF ?kK ?k6 ?k7 ?k8 ?k9 ?kB ?_ ?c2 ?c3 ?c4 ?c5; (case kA => exact hA); (case kF => exact hf); (case kK => exact hk); (case k1 => exact B); (case k2 => k_asm); (case k3 => k_asm); (case k4 => k_asm); (case k5 => k_asm); (case k6 => k_is); (case k7 => k_is); (case k8 => (show A.depth < recursionLimit; have : recursionLimit = 1000 := rfl; omega)); (case k9 => exact hbind _ _ _ _ (KX.keeps F.keep) (by rfl)); (case c5 => decide); (case kB => exact locs rfl); (case c2 => exact rfl); (case c3 => exact rfl); (case c4 => exact rfl); k_whole; intro g' L' h' FG' F' N' B' X' T'; (try dsimp only); (try k_lift B'); (try k_fold))
  k_steps
  rename News _ _ _ _ => kN
  rename Fr _ _ _ _ => kF
  exact hret _ _ _ _ _ _ _ _ kF kN (by assumption) (by assumption)
end Mine
end

section
open PySem PySem.W PyProof.Rows
set_option Elab.async false
set_option maxRecDepth 100000
set_option maxHeartbeats 4000000
namespace Mine
theorem setRz20 : True := by
  w_top off
  k_with_none
  trivial
open PySem.Calls
/-- what a raise statement asks of the object handed to it -/
structure RaiseOk (M : Model) (A : Around) (E : Value → Shared → Prop) (v : Value) (s : Shared) : Prop where
  at_ : ∃ a C dd vs sl, v = .ref a ∧ s.heap.get? a = some ⟨.ref C, dd, .fields vs, sl⟩ ∧ vs[1]? = some .none ∧ Looks M s.heap (isSubtype (.ref C) (.type "BaseException")) true ∧ Looks M s.heap (typeOf (.ref C)) (.type "type") ∧ E (.ref a) s
section
variable {M : Model} {A : Around} {E : Value → Shared → Prop} {s : Shared} {env : Env}
theorem raise_stmt {e : Expr} {pos : Pos} {Q : Flow → Shared → Prop} (hh : A.handled = none) (h : wpAny M A (eval e env) (RaiseOk M A E) E s) : wpAny M A (exec (.Raise (some e) none pos) env) Q E s := by
  rw [arm_exec_Raise]
  refine wpAny_bind (wpAny_standAt ?_)
  show wpAny _ _ (raiseStmt env (some (do let v ← eval e env; standAt pos; pure v)) none) _ _ _
  unfold raiseStmt
  dsimp only
  refine wpAny_bind (wpAny_bind (wpAny_mono h (fun v s₁ h₁ => wpAny_bind (wpAny_standAt (wpAny_pure ?_))) fun _ _ x => x))
  obtain ⟨a, C, dd, vs, sl, rfl, ha, h1, hS, hT, hE⟩ := h₁
  have notType : ∀ {Q' : Bool → Shared → Prop}, Q' false s₁ → wpAny M A (isType (.ref a)) Q' E s₁ := fun hq => by
    simp only [isType, loadHead]
    exact wpAny_bind (wpAny_loadPart ha (wpAny_pure hq))
  have ty : Looks M s₁.heap (typeOf (.ref a)) (.ref C) := (Looks.ld ha).andThen .now
  have inst : Looks M s₁.heap (isInstance (.ref a) (.type "BaseException")) true := ty.andThen hS
  refine wpAny_bind (wpAny_pure ?_)
  dsimp only
  refine wpAny_bind (wpAny_holding ?_)
  unfold excFromValue isExcClass
  refine wpAny_bind (wpAny_bind (notType ?_))
  simp only [Bool.false_eq_true, if_false]
  refine wpAny_pure ?_
  simp only [Bool.false_eq_true, if_false]
  refine wpAny_bind (inst.here ?_)
  simp only [if_true]
  refine wpAny_pure ?_
  refine wpAny_bind (notType ?_)
  simp only [Bool.false_eq_true, if_false]
  refine wpAny_bind ?_
  unfold raisedInstance
  refine wpAny_bind (ty.here (wpAny_bind (hT.here ?_)))
  rw [if_pos (by decide)]
  refine wpAny_pure ?_
  refine wpAny_bind ?_
  unfold setFlight
  refine wpAny_bind (wpAny_field ha rfl h1 ?_)
  rw [if_neg (by decide)]
  exact wpAny_pure (wpAny_raiseNew_none hh hE)
end
section
variable {w : World} {A A₀ : Around} {env : Env} {outer : List Env} {E E' : Value → Shared → Prop} {s : Shared} {base h₀ : Heap} {L : Addr} {m : Str → Option Value} {news : List (Addr × Obj)} {mean : ExcName → Option Value} {mg mb : Str → Option Value}
theorem bind37_1 {s' : Shared} {P : Params} {x : Addr} {what : Value} {fd : FuncData} {oc : Value} {od : Option Addr} {osl : Array (Option Value)} (X : (hd.heap_1 P).In s'.heap) (e : (hd.heap_1 P).lookup 37 = some ⟨oc, od, .func fd, osl⟩) : BindsTo s' fd ⟨[.ref x, what], []⟩ [("self", .ref x), ("what", what), ("at", .ref 29)] := by
  have e2 : (hd.heap_1 P).lookup 37 = some _ := rfl
  cases Option.some.inj (e2.symm.trans e)
  exact binds_K X rfl (by rfl) rfl rfl rfl
theorem bind37_2 {s' : Shared} {P : Params} {x : Addr} {what atv : Value} {fd : FuncData} {oc : Value} {od : Option Addr} {osl : Array (Option Value)} (X : (hd.heap_1 P).In s'.heap) (e : (hd.heap_1 P).lookup 37 = some ⟨oc, od, .func fd, osl⟩) : BindsTo s' fd ⟨[.ref x, what, atv], []⟩ [("self", .ref x), ("what", what), ("at", atv)] := by
  have e2 : (hd.heap_1 P).lookup 37 = some _ := rfl
  cases Option.some.inj (e2.symm.trans e)
  exact binds_K X rfl (by rfl) rfl rfl rfl
/-- a class of own faults -/
structure ClsOk (P : Params) (C : Addr) : Prop where
  hm : excCls (hd.heap_1 P) C = true
  hsub : subIn (hd.heap_1 P) (.ref C) (.type "Exception") = some true
  hs : findIn (hd.heap_1 P) (.ref C) "__setattr__" = some (some (.builtin "object.__setattr__"))
  hp : overExc (hd.heap_1 P) C = true
  ht1 : takerIn (hd.heap_1 P) C "what" = some none
  ht2 : takerIn (hd.heap_1 P) C "at" = some none
  hi : findIn (hd.heap_1 P) (.ref C) "__init__" = some (some (.ref 37))
  hS : subIn (hd.heap_1 P) (.ref C) (.type "BaseException") = some true
  hT : typeIn (hd.heap_1 P) (.ref C) = some (.type "type")
theorem cls84 (P : Params) : ClsOk P 84 := ⟨by kernel_rfl, by kernel_rfl, by kernel_rfl, by kernel_rfl, by kernel_rfl, by kernel_rfl, by kernel_rfl, by kernel_rfl, by kernel_rfl⟩
theorem cls60 (P : Params) : ClsOk P 60 := ⟨by kernel_rfl, by kernel_rfl, by kernel_rfl, by kernel_rfl, by kernel_rfl, by kernel_rfl, by kernel_rfl, by kernel_rfl, by kernel_rfl⟩
/-- an own fault made, and what its raising asks -/
theorem fault_make {C : Addr} {what atv : Value} {rest : List Value} (cl : ClsOk w.params C)
    (B : Below A₀ base outer h₀) (F : Fr h₀ L s.heap m) (KX : (hd.heap_1 w.params).In h₀) (N : News h₀ L s.heap news) (T : Top hd.view_39 LO mean mg mb h₀)
    (hA : A.frames = some (env :: outer)) (hf : env.frame = some L) (hk : env.scope.kind = .function) (hroom : A.depth ≤ 890) (hu : A.units ≤ 150) (hrest : rest.length ≤ 4)
    (hbind : ∀ x s' fd oc od osl, (hd.heap_1 w.params).In s'.heap → (hd.heap_1 w.params).lookup 37 = some ⟨oc, od, .func fd, osl⟩ → BindsTo s' fd ⟨.ref x :: rest, []⟩ [("self", .ref x), ("what", what), ("at", atv)])
    (hret : ∀ e d n h1 h2 t1 t2 h' tk', Fr h₀ L h' m → News h₀ L h' ((e, excObj C n (some d)) :: (d, dictOf [⟨h1, .str ⟨#[119, 104, 97, 116]⟩ t1, what⟩, ⟨h2, .str ⟨#[97, 116]⟩ t2, atv⟩] 2) :: news) →
      (∀ p ∈ (d, dictOf [⟨h1, .str ⟨#[119, 104, 97, 116]⟩ t1, what⟩, ⟨h2, .str ⟨#[97, 116]⟩ t2, atv⟩] 2) :: news, p.1 ≠ e) → (∀ p ∈ news, p.1 ≠ d) → E (.ref e) { s with heap := h', toks := tk' }) :
    wpAny (model PySem.Challenge.rw_pb0238_01.row.prog w) A (call (.ref C) rest) (RaiseOk (model PySem.Challenge.rw_pb0238_01.row.prog w) A E) E' s := by
  obtain ⟨hm, hsub, hs, hp, ht1, ht2, hi, hS, hT⟩ := cl
  revert KX; k_fill; intro KX
  have ty37 : typeIn (hd.heap_1 w.params) (.ref 37) = some (.type "function") := by k_is
  refine wpAny_call (makeX_K F N (KX.keeps F.keep) hm hi ty37 (by omega) fun x n h' F' N' n1 n2 n3 => ?_)
  refine exc_init w mean mg mb _ A₀ env outer base h₀ L m { s with heap := h' } _ C x n what atv _ ((n, tupOf rest.toArray 0) :: news) hm hsub hs hp ht1 ht2 B F' KX N' T hA hf hk ?_ ?_ ?_ (hbind x _) ?_
  · show A.depth + 1 ≤ 900; omega
  · show A.units + _ ≤ 200
    have : (Code.builtin "type.__call__" ⟨.ref C :: rest, []⟩).cUnits ≤ 40 := Nat.le_of_ble_eq_true (by kernel_rfl)
    omega
  · intro p hp
    rcases List.mem_cons.mp hp with rfl | hp
    · exact n2
    · exact n3 p hp
  · intro n' d h1 h2 t1 t2 h' tk' F2 N2 o1 o2
    refine ⟨rfl, ?_⟩
    have X' := KX.keeps F2.keep
    refine ⟨x, C, _, _, _, rfl, (N2 _ (.tail _ (.head _))).1, rfl, looks_subIn X' hS, looks_typeIn X' hT, hret x d n' h1 h2 t1 t2 h' tk' F2 (fun p hp => N2 p ?_) ?_ fun p hp => o2 p (.tail _ hp)⟩
    · rcases List.mem_cons.mp hp with rfl | hp
      · exact .tail _ (.head _)
      rcases List.mem_cons.mp hp with rfl | hp
      · exact .head _
      · exact .tail _ (.tail _ (.tail _ hp))
    · intro p hp
      rcases List.mem_cons.mp hp with rfl | hp
      · exact o1
      · exact n3 p hp
end
end Mine
end

section
open PySem PySem.W PyProof.Rows
set_option Elab.async false
set_option linter.all false
set_option maxRecDepth 100000
set_option maxHeartbeats 4000000
namespace Mine
theorem setLems0 : True := by
  w_top off
  k_with_none
  trivial
theorem tail_of {h₀ h : Heap} {L : Addr} {p : Addr × Obj} {l : List (Addr × Obj)} (N : News h₀ L h (p :: l)) : News h₀ L h l := fun q hq => N q (.tail _ hq)
theorem off1_of {D : Addr} : ∀ {l : List (Addr × Obj)}, (∀ p ∈ l, p.1 ≠ D) → LCg.Off1 D l
  | [], _ => trivial
  | p :: _, h => ⟨h p (.head _), off1_of fun q hq => h q (.tail _ hq)⟩
theorem valueAt_none2 {k1 k2 k : Str} {v1 v2 : Value} (h1 : k1 ≠ k) (h2 : k2 ≠ k) : valueAt [(k1, v1), (k2, v2)] k = none := by
  simp [valueAt, h1, h2]
theorem eq_nil_N {prog : Program} {w : World} {A : Around} {E : Value → Shared → Prop} {s : Shared} {a b : Addr} {vs : List Value} {v : Value} {n1 n2 : Nat} {Q : Value → Shared → Prop} {h₀ : Heap} {L : Addr} {news : List (Addr × Obj)}
    (N : News h₀ L s.heap news) (ma : (a, W.listOf (v :: vs).toArray n1) ∈ news) (mb : (b, W.listOf #[] n2) ∈ news) (hu : A.units < cLine) (h : Q (.bool false) s) : wpAny (model prog w) A (compareOp .Eq (.ref a) (.ref b)) Q E s :=
  SeqAt.eq_list_lengthsAt ⟨_, (N _ ma).1, rfl, _, rfl⟩ ⟨_, (N _ mb).1, rfl, _, rfl⟩ (by simp) hu h
theorem news_up {h₀ h : Heap} {L : Addr} {p : Addr × Obj} {l r : List (Addr × Obj)} (N : News h₀ L h r) (m : p ∈ r) (M : News h₀ L h l) : News h₀ L h (p :: l) := fun q hq => (List.mem_cons.mp hq).elim (fun e => e ▸ N p m) fun hq => M q hq
theorem pass_by {M : Model} {A : Around} {E' : Value → Shared → Prop} {s : Shared} {base g g2 gO : Heap} {outer : List Env} {L LO e : Addr} {m mO : Str → Option Value} {env : Env} {cls a0 : Value} {dd : Option Addr} {news : List (Addr × Obj)} {Q : Unit → Shared → Prop}
    (hfr : A.frames = some (env :: outer)) (h0 : base.objs.size ≤ LO) (FO : Fr gO LO g mO) (F : Fr g L g2 m) (U : g2.UpToSlots s.heap) (R : Thrown base (env :: outer) e cls dd a0 .none news s.heap) (hf : env.frame = some L)
    (k : ∀ h', Thrown base outer e cls dd a0 .none news h' → Fr base LO h' mO → gO.UpToSlots h' → Q () { s with heap := h' }) : wpAny M A (leaving env (.ref e)) Q E' s :=
  throw_next hfr hf R fun h' R' U' => k h' R' (fr_base2 h0 R'.stays FO F (U.trans U')) (up2 FO F (U.trans U'))
theorem same_int {h : Heap} {x : Int} {t u : Tok} : SameV h 0 (.int x t) (.int x u) := fun A s _ _ => by
  have := keq_flat (A := A) (s := s) (v := .int x t) (y := .int x u) (d := .int x) (e := .int x) (fun h => .int x t) (fun h => .int x u)
  simpa [PyData.eqv] using this
theorem eq_tup_K {prog : Program} {w : World} {A : Around} {E : Value → Shared → Prop} {s : Shared} {a b : Addr} {h₀ : Heap} {L : Addr} {m : Str → Option Value} {news : List (Addr × Obj)} {Q : Value → Shared → Prop} {K : Frag} {x y : Int} {t u t' u' : Tok} {n n2 : Nat} {sl : Array (Option Value)} {dd : Option Addr}
    (X₀ : K.In h₀) (F : Fr h₀ L s.heap m) (N : News h₀ L s.heap news) (hl : K.lookup a = some ⟨.type "tuple", dd, .seq #[.int x t, .int y u] n, sl⟩) (mb : (b, tupOf #[.int x t', .int y u'] n2) ∈ news) (hu : A.units + 0 + 1 < cLine) (h : Q (.bool true) s) :
    wpAny (model prog w) A (compareOp .Eq (.ref a) (.ref b)) Q E s :=
  eq_tuples_same (n := 0) (vs := [.int x t, .int y u]) (us := [.int x t', .int y u']) ⟨_, (X₀.keeps F.keep) _ _ hl, rfl, _, rfl⟩ ⟨_, (N _ mb).1, rfl, _, rfl⟩ (.cons same_int (.cons same_int .nil)) hu h
theorem strs_nil {vs : List Value} {ws : List Str} (h : StrsAre vs ws) (e : vs.length = 0) : vs = [] ∧ ws = [] := by
  cases h with
  | nil => exact ⟨rfl, rfl⟩
  | cons _ _ _ => simp at e
theorem strs_one {vs : List Value} {ws : List Str} (h : StrsAre vs ws) (e : vs.length = 1) : ∃ y t, vs = [.str y t] ∧ ws = [y] := by
  cases h with
  | nil => simp at e
  | cons y t r =>
    cases r with
    | nil => exact ⟨y, t, rfl, rfl⟩
    | cons _ _ _ => simp at e
theorem strs_two {vs : List Value} {ws : List Str} (h : StrsAre vs ws) (e : vs.length = 2) : ∃ y t y2 t2, vs = [.str y t, .str y2 t2] ∧ ws = [y, y2] := by
  cases h with
  | nil => simp at e
  | cons y t r =>
    obtain ⟨y2, t2, rfl, rfl⟩ := strs_one r (by simpa using e)
    exact ⟨y, t, y2, t2, rfl, rfl⟩
theorem strs_lenS {vs : List Value} {ls : List Str} (h : StrsAre vs ls) : vs.length = ls.length := by
  induction h with
  | nil => rfl
  | cons _ _ _ ih => simp [ih]
theorem strs1 {vs : List Value} {a : Str} (h : StrsAre vs [a]) : ∃ t, vs = [.str a t] := by
  obtain ⟨y, t, rfl, e⟩ := strs_one h (strs_lenS h)
  cases e
  exact ⟨t, rfl⟩
theorem strs0 {vs : List Value} (h : StrsAre vs []) : vs = [] := (strs_nil h (strs_lenS h)).1
end Mine
end

section
open PySem PySem.W PyProof.Rows
set_option Elab.async false
set_option linter.all false
set_option maxRecDepth 100000
set_option maxHeartbeats 1500000
namespace Mine
theorem setEqs0 : True := by
  w_top off
  k_with_none
  trivial
theorem st_source {a b c d e f v : Value} : stored [(Str.ofString "source", a), (Str.ofString "library", b), (Str.ofString "rows", c), (Str.ofString "files", d), (Str.ofString "gathering", e), (Str.ofString "lines", f)] (Str.ofString "source") v = [(Str.ofString "source", v), (Str.ofString "library", b), (Str.ofString "rows", c), (Str.ofString "files", d), (Str.ofString "gathering", e), (Str.ofString "lines", f)] := by
  simp (decide := true) only [stored, List.map_cons, List.map_nil, List.any_cons, List.any_nil, if_true, if_false, ite_true, ite_false, reduceIte]
theorem st_library {a b c d e f v : Value} : stored [(Str.ofString "source", a), (Str.ofString "library", b), (Str.ofString "rows", c), (Str.ofString "files", d), (Str.ofString "gathering", e), (Str.ofString "lines", f)] (Str.ofString "library") v = [(Str.ofString "source", a), (Str.ofString "library", v), (Str.ofString "rows", c), (Str.ofString "files", d), (Str.ofString "gathering", e), (Str.ofString "lines", f)] := by
  simp (decide := true) only [stored, List.map_cons, List.map_nil, List.any_cons, List.any_nil, if_true, if_false, ite_true, ite_false, reduceIte]
theorem st_rows {a b c d e f v : Value} : stored [(Str.ofString "source", a), (Str.ofString "library", b), (Str.ofString "rows", c), (Str.ofString "files", d), (Str.ofString "gathering", e), (Str.ofString "lines", f)] (Str.ofString "rows") v = [(Str.ofString "source", a), (Str.ofString "library", b), (Str.ofString "rows", v), (Str.ofString "files", d), (Str.ofString "gathering", e), (Str.ofString "lines", f)] := by
  simp (decide := true) only [stored, List.map_cons, List.map_nil, List.any_cons, List.any_nil, if_true, if_false, ite_true, ite_false, reduceIte]
theorem st_files {a b c d e f v : Value} : stored [(Str.ofString "source", a), (Str.ofString "library", b), (Str.ofString "rows", c), (Str.ofString "files", d), (Str.ofString "gathering", e), (Str.ofString "lines", f)] (Str.ofString "files") v = [(Str.ofString "source", a), (Str.ofString "library", b), (Str.ofString "rows", c), (Str.ofString "files", v), (Str.ofString "gathering", e), (Str.ofString "lines", f)] := by
  simp (decide := true) only [stored, List.map_cons, List.map_nil, List.any_cons, List.any_nil, if_true, if_false, ite_true, ite_false, reduceIte]
theorem st_gathering {a b c d e f v : Value} : stored [(Str.ofString "source", a), (Str.ofString "library", b), (Str.ofString "rows", c), (Str.ofString "files", d), (Str.ofString "gathering", e), (Str.ofString "lines", f)] (Str.ofString "gathering") v = [(Str.ofString "source", a), (Str.ofString "library", b), (Str.ofString "rows", c), (Str.ofString "files", d), (Str.ofString "gathering", v), (Str.ofString "lines", f)] := by
  simp (decide := true) only [stored, List.map_cons, List.map_nil, List.any_cons, List.any_nil, if_true, if_false, ite_true, ite_false, reduceIte]
theorem st_lines {a b c d e f v : Value} : stored [(Str.ofString "source", a), (Str.ofString "library", b), (Str.ofString "rows", c), (Str.ofString "files", d), (Str.ofString "gathering", e), (Str.ofString "lines", f)] (Str.ofString "lines") v = [(Str.ofString "source", a), (Str.ofString "library", b), (Str.ofString "rows", c), (Str.ofString "files", d), (Str.ofString "gathering", e), (Str.ofString "lines", v)] := by
  simp (decide := true) only [stored, List.map_cons, List.map_nil, List.any_cons, List.any_nil, if_true, if_false, ite_true, ite_false, reduceIte]
theorem str_eqAt {A : Around} {s : Shared} {x y : Str} {t u : Tok} : SeqAt.EqAt A s (.str x t) (.str y u) (x == y) := by
  have := keq_flat (A := A) (s := s) (v := .str x t) (y := .str y u) (d := .str x) (e := .str y) (fun h => .str x t) (fun h => .str y u)
  simpa [PyData.eqv] using this
theorem str_apart {A : Around} {s : Shared} {x y : Str} {t u : Tok} (h : x ≠ y) : SeqAt.EqAt A s (.str x t) (.str y u) false := by
  have e : (x == y) = false := by simpa using h
  exact e ▸ str_eqAt
section
variable {prog : Program} {w : World} {A : Around} {E : Value → Shared → Prop} {s : Shared} {a b : Addr} {h₀ : Heap} {L : Addr} {news : List (Addr × Obj)} {n1 n2 : Nat} {Q : Value → Shared → Prop}
theorem ne_pair_yes {x y : Str} {u v u' v' : Tok} {x' y' : Str} (N : News h₀ L s.heap news) (ma : (a, tupOf #[.str x u, .str y v] n1) ∈ news) (mb : (b, tupOf #[.str x' u', .str y' v'] n2) ∈ news) (hne : x ≠ x') (hu : A.units < cLine) (h : Q (.bool true) s) :
    wpAny (model prog w) A (compareOp .NotEq (.ref a) (.ref b)) Q E s := by
  refine SeqAt.RcNeAt.tuples (e := fun j => if j = 0 then false else y == y') ⟨_, (N _ ma).1, rfl, _, rfl⟩ ⟨_, (N _ mb).1, rfl, _, rfl⟩ hu (fun j h1 h2 => ?_) prog w E Q h
  match j, h1, h2 with
  | 0, _, _ => exact str_apart hne
  | 1, _, _ => exact str_eqAt
  | j + 2, h1, _ => exact absurd h1 (by simp)
theorem ne_cons_nil {vs : List Value} {v : Value} (N : News h₀ L s.heap news) (ma : (a, W.listOf (v :: vs).toArray n1) ∈ news) (mb : (b, W.listOf #[] n2) ∈ news) (hu : A.units < cLine) (h : Q (.bool true) s) :
    wpAny (model prog w) A (compareOp .NotEq (.ref a) (.ref b)) Q E s :=
  SeqAt.RcNeAt.lists_lengths ⟨_, (N _ ma).1, rfl, _, rfl⟩ ⟨_, (N _ mb).1, rfl, _, rfl⟩ (by simp) hu prog w E Q h
theorem eq_done_no {vs : List Value} {ws : List Str} {d : Str} {t : Tok} (N : News h₀ L s.heap news) (ma : (a, W.listOf vs.toArray n1) ∈ news) (mb : (b, W.listOf #[.str d t] n2) ∈ news) (sa : StrsAre vs ws) (hne : ws ≠ [d]) (hu : A.units < cLine) (h : Q (.bool false) s) :
    wpAny (model prog w) A (compareOp .Eq (.ref a) (.ref b)) Q E s := by
  cases sa with
  | nil => exact SeqAt.eq_list_lengthsAt ⟨_, (N _ ma).1, rfl, _, rfl⟩ ⟨_, (N _ mb).1, rfl, _, rfl⟩ (by simp) hu h
  | cons y u r =>
    cases r with
    | cons _ _ _ => exact SeqAt.eq_list_lengthsAt ⟨_, (N _ ma).1, rfl, _, rfl⟩ ⟨_, (N _ mb).1, rfl, _, rfl⟩ (by simp) hu h
    | nil =>
      have hy : y ≠ d := fun z => hne (by rw [z])
      refine SeqAt.eq_listAt (e := fun _ => false) ⟨_, (N _ ma).1, rfl, _, rfl⟩ ⟨_, (N _ mb).1, rfl, _, rfl⟩ (by simp) hu (fun j h1 h2 => ?_) h
      match j, h1, h2 with
      | 0, _, _ => exact str_apart hy
      | j + 1, h1, _ => exact absurd h1 (by simp)
end
end Mine
end

section
open PySem PySem.W PyProof.Rows
set_option Elab.async false
set_option linter.all false
set_option maxRecDepth 100000
set_option maxHeartbeats 0
namespace Mine
theorem setSpecs0 : True := by
  w_top off
  k_with_none
  trivial
/-- what a call of `_law_due` does -/
def DueSpec (w : World) (mean : ExcName → Option Value) (mg mb : Str → Option Value) (base : Heap) (env1 : Env) (st : Addr) (line : Str) (tt : Tok) (led : List (Addr × Obj)) (P : Value → List (Addr × Obj) → Prop) : Prop :=
  ∀ (env2 : Env) (A₀ : Around) (h₀ : Heap) (L : Addr) (m : Str → Option Value) (s : Shared) (Q E : Value → Shared → Prop), Below A₀ base [env1] h₀ → Fr h₀ L s.heap m → (hd.heap_1 w.params).In h₀ → News h₀ L s.heap led → Top hd.view_39 LO mean mg mb h₀ → env2.scope.kind = .function → env2.frame = some L →
    (∀ v led1 h' tk', P v led1 → Fr h₀ L h' m → News h₀ L h' led1 → Q v { s with heap := h', toks := tk' }) → wpAny (model PySem.Challenge.rw_pb0238_01.row.prog w) ((callerA.deeper env1).deeper env2) (call (.ref 258) [.ref st, .str line tt]) Q E s
/-- what a call of `_law_laid` does -/
def LaidSpec (w : World) (mean : ExcName → Option Value) (mg mb : Str → Option Value) (base : Heap) (env1 : Env) (st : Addr) (led : List (Addr × Obj)) (P : Bool → List (Addr × Obj) → Prop) : Prop :=
  ∀ (env2 env3 : Env) (A₀ : Around) (h₀ : Heap) (L : Addr) (m : Str → Option Value) (s : Shared) (Q E : Value → Shared → Prop), Below A₀ base [env2, env1] h₀ → Fr h₀ L s.heap m → (hd.heap_1 w.params).In h₀ → News h₀ L s.heap led → Top hd.view_39 LO mean mg mb h₀ → env3.scope.kind = .function → env3.frame = some L →
    (∀ b led1 h' tk', P b led1 → Fr h₀ L h' m → News h₀ L h' led1 → Q (.bool b) { s with heap := h', toks := tk' }) → wpAny (model PySem.Challenge.rw_pb0238_01.row.prog w) (((callerA.deeper env1).deeper env2).deeper env3) (call (.ref 253) [.ref st]) Q E s
/-- what a call of end_gathering does -/
def EndSpec (w : World) (mean : ExcName → Option Value) (mg mb : Str → Option Value) (base : Heap) (env1 : Env) (dk : Addr) (led : List (Addr × Obj)) (P PE : List (Addr × Obj) → Prop) : Prop :=
  ∀ (env2 env3 : Env) (A₀ : Around) (h₀ : Heap) (L : Addr) (m : Str → Option Value) (s : Shared) (Q E : Value → Shared → Prop), Below A₀ base [env2, env1] h₀ → Fr h₀ L s.heap m → (hd.heap_1 w.params).In h₀ → News h₀ L s.heap led → Top hd.view_39 LO mean mg mb h₀ → env3.scope.kind = .function → env3.frame = some L →
    (hd.heap_1 w.params).In base → Top hd.view_39 LO mean mg mb base → base.objs.size ≤ L →
    (∀ led1 h' tk', P led1 → Fr h₀ L h' m → News h₀ L h' led1 → Q .none { s with heap := h', toks := tk' }) →
    (∀ e d a0 led1 h' tk', PE led1 → (∀ q ∈ led1, h₀.get? q.1 = none) → Thrown base [env3, env2, env1] e (.ref 84) d a0 .none led1 h' → Fr base L h' m → h₀.UpToSlots h' → E (.ref e) { s with heap := h', toks := tk' }) →
    wpAny (model PySem.Challenge.rw_pb0238_01.row.prog w) (((callerA.deeper env1).deeper env2).deeper env3) (call (.ref 215) [.ref dk]) Q E s
/-- what a call of answer_with does: it comes back, or raises a DeskFault -/
def AnsAny (w : World) (mean : ExcName → Option Value) (mg mb : Str → Option Value) (base : Heap) (env1 : Env) (dk : Addr) (line : Str) (tt : Tok) (led : List (Addr × Obj)) (P : Value → List (Addr × Obj) → Prop) (PE : List (Addr × Obj) → Prop) : Prop :=
  ∀ (env2 : Env) (A₀ : Around) (h₀ : Heap) (L : Addr) (m : Str → Option Value) (s : Shared) (Q E : Value → Shared → Prop), Below A₀ base [env1] h₀ → Fr h₀ L s.heap m → (hd.heap_1 w.params).In h₀ → News h₀ L s.heap led → Top hd.view_39 LO mean mg mb h₀ → env2.scope.kind = .function → env2.frame = some L →
    (hd.heap_1 w.params).In base → Top hd.view_39 LO mean mg mb base → base.objs.size ≤ L →
    (∀ v led1 G h' tk', P v led1 → Fr G L h' m → News G L h' led1 → Below A₀ base [env1] G → h₀.UpToSlots G → Q v { s with heap := h', toks := tk' }) →
    (∀ e d a0 led1 h' tk', PE led1 → (∀ q ∈ led1, h₀.get? q.1 = none) → Thrown base [env2, env1] e (.ref 84) d a0 .none led1 h' → Fr base L h' m → h₀.UpToSlots h' → E (.ref e) { s with heap := h', toks := tk' }) →
    wpAny (model PySem.Challenge.rw_pb0238_01.row.prog w) ((callerA.deeper env1).deeper env2) (call (.ref 222) [.ref dk, .str line tt, .ref 248]) Q E s
/-- an opening: none: the words are none; some none: a word too many or too few; else the name -/
noncomputable def openOf : List Str → Option (Option Str)
  | [] => none
  | w0 :: r => if w0 = Str.ofString "source" ∨ w0 = Str.ofString "rows" then some (if r = [] then some (Str.ofString "") else none)
    else if w0 = Str.ofString "library" ∨ w0 = Str.ofString "file" then some (match r with | [y] => some y | _ => none) else none
theorem notnot_yes {b : Bool} (h : ¬ (!b) = true) : b = true := by cases b with | false => exact absurd rfl h | true => rfl
theorem notnot_no {b : Bool} (h : (!b) = true) : ¬ b = true := by cases b with | false => exact fun e => nomatch e | true => cases h
theorem any2 {a b w : Str} : ([a, b].any fun x => x == w) = true ↔ w = a ∨ w = b := by simp only [List.any_cons, List.any_nil, Bool.or_false, Bool.or_eq_true, beq_iff_eq, @eq_comm _ w]
theorem any4 {a b c d w : Str} : ([a, b, c, d].any fun x => x == w) = true ↔ w = a ∨ w = b ∨ w = c ∨ w = d := by simp only [List.any_cons, List.any_nil, Bool.or_false, Bool.or_eq_true, beq_iff_eq, @eq_comm _ w]
theorem openOf_src {w0 : Str} {wr : List Str} (cB : ([Str.ofString "source", Str.ofString "rows"].any fun x => x == w0) = true) : openOf (w0 :: wr) = some (if wr = [] then some (Str.ofString "") else none) := by
  have : w0 = Str.ofString "source" ∨ w0 = Str.ofString "rows" := any2.mp cB
  show (if _ then _ else _) = _
  rw [if_pos this]
theorem openOf_lib {w0 : Str} {wr : List Str} (cA : ([Str.ofString "source", Str.ofString "rows", Str.ofString "library", Str.ofString "file"].any fun x => x == w0) = true) (cB : ¬ ([Str.ofString "source", Str.ofString "rows"].any fun x => x == w0) = true) :
    openOf (w0 :: wr) = some (match wr with | [y] => some y | _ => none) := by
  have h1 : ¬ (w0 = Str.ofString "source" ∨ w0 = Str.ofString "rows") := fun h => cB (any2.mpr h)
  have h2 : w0 = Str.ofString "source" ∨ w0 = Str.ofString "rows" ∨ w0 = Str.ofString "library" ∨ w0 = Str.ofString "file" := any4.mp cA
  have h3 : w0 = Str.ofString "library" ∨ w0 = Str.ofString "file" := by
    rcases h2 with h | h | h
    · exact absurd (.inl h) h1
    · exact absurd (.inr h) h1
    · exact h
  show (if _ then _ else if _ then _ else _) = _
  rw [if_neg h1, if_pos h3]
theorem openOf_lib_bad {w0 : Str} {wr : List Str} (cA : ([Str.ofString "source", Str.ofString "rows", Str.ofString "library", Str.ofString "file"].any fun x => x == w0) = true) (cB : ¬ ([Str.ofString "source", Str.ofString "rows"].any fun x => x == w0) = true) (h : wr.length ≠ 1) : openOf (w0 :: wr) = some none := by
  rw [openOf_lib cA cB]
  match wr, h with
  | [], _ => rfl
  | [_], h => exact absurd rfl h
  | _ :: _ :: _, _ => rfl
theorem openOf_src_bad {w0 : Str} {wr : List Str} (cB : ([Str.ofString "source", Str.ofString "rows"].any fun x => x == w0) = true) (h : wr.length ≠ 0) : openOf (w0 :: wr) = some none := by
  rw [openOf_src cB, if_neg (fun e => h (by rw [e]; rfl))]
theorem open_cases {w0 : Str} {wr : List Str} (h : openOf (w0 :: wr) ≠ none) : (w0 = Str.ofString "source" ∨ w0 = Str.ofString "rows") ∨ (¬ (w0 = Str.ofString "source" ∨ w0 = Str.ofString "rows") ∧ (w0 = Str.ofString "library" ∨ w0 = Str.ofString "file")) := by
  by_cases h1 : w0 = Str.ofString "source" ∨ w0 = Str.ofString "rows"
  · exact .inl h1
  · refine .inr ⟨h1, Classical.byContradiction fun h2 => h ?_⟩
    show (if _ then _ else if _ then _ else _) = _
    rw [if_neg h1, if_neg h2]
theorem open_apart {w0 : Str} (h : w0 = Str.ofString "library" ∨ w0 = Str.ofString "file") : ¬ (w0 = Str.ofString "source" ∨ w0 = Str.ofString "rows") := by
  rcases h with rfl | rfl <;> decide +kernel
theorem openL_ok {w0 y : Str} (h : openOf [w0, y] ≠ none) (hL : w0 = Str.ofString "library" ∨ w0 = Str.ofString "file") : openOf [w0, y] = some (some y) := by
  show (if _ then _ else if _ then _ else _) = _
  rw [if_neg (open_apart hL), if_pos hL]
theorem openL_bad {w0 : Str} {wr : List Str} (h : openOf (w0 :: wr) ≠ none) (hL : w0 = Str.ofString "library" ∨ w0 = Str.ofString "file") (hz : wr.length ≠ 1) : openOf (w0 :: wr) = some none := by
  show (if _ then _ else if _ then _ else _) = _
  rw [if_neg (open_apart hL), if_pos hL]
  match wr, hz with
  | [], _ => rfl
  | [_], h => exact absurd rfl h
  | _ :: _ :: _, _ => rfl
theorem openN_ok {w0 : Str} (h : openOf [w0] ≠ none) (hL : ¬ (w0 = Str.ofString "library" ∨ w0 = Str.ofString "file")) : openOf [w0] = some (some (Str.ofString "")) := by
  rcases open_cases h with h1 | h1
  · show (if _ then _ else if _ then _ else _) = _
    rw [if_pos h1, if_pos rfl]
  · exact absurd h1.2 hL
theorem openN_bad {w0 : Str} {wr : List Str} (h : openOf (w0 :: wr) ≠ none) (hL : ¬ (w0 = Str.ofString "library" ∨ w0 = Str.ofString "file")) (hz : wr.length ≠ 0) : openOf (w0 :: wr) = some none := by
  rcases open_cases h with h1 | h1
  · show (if _ then _ else if _ then _ else _) = _
    rw [if_pos h1, if_neg (fun e => hz (by rw [e]; rfl))]
  · exact absurd h1.2 hL
theorem openOf_no {w0 : Str} {wr : List Str} (cA : ¬ ([Str.ofString "source", Str.ofString "rows", Str.ofString "library", Str.ofString "file"].any fun x => x == w0) = true) : openOf (w0 :: wr) = none := by
  have h2 : ¬ (w0 = Str.ofString "source" ∨ w0 = Str.ofString "rows" ∨ w0 = Str.ofString "library" ∨ w0 = Str.ofString "file") := fun h => cA (any4.mpr h)
  show (if _ then _ else if _ then _ else _) = _
  rw [if_neg (fun h => h2 (h.imp id .inl)), if_neg (fun h => h2 (.inr (.inr h)))]
section
variable {prog : Program} {w : World} {A : Around} {E : Value → Shared → Prop} {s : Shared} {a b : Addr} {h₀ : Heap} {L : Addr} {news : List (Addr × Obj)} {n1 n2 : Nat} {Q : Value → Shared → Prop}
theorem notin_tup3 {K : Frag} {m : Str → Option Value} {x s1 s2 s3 : Str} {t u1 u2 u3 : Tok} {n : Nat} {dd : Option Addr} {sl : Array (Option Value)} (X₀ : K.In h₀) (F : Fr h₀ L s.heap m) (hl : K.lookup a = some ⟨.type "tuple", dd, .seq #[.str s1 u1, .str s2 u2, .str s3 u3] n, sl⟩) (hx : (s1 == x || s2 == x || s3 == x) = true) (h : Q (.bool false) s) :
    wpAny (model prog w) A (compareOp .NotIn (.str x t) (.ref a)) Q E s := by
  refine SeqAt.notIn_tupleAt (fun v => match v with | .str y _ => y == x | _ => false) ⟨_, (X₀.keeps F.keep) _ _ hl, rfl, _, rfl⟩ (fun y hy => ?_) ?_
  · simp only [List.mem_toArray, List.mem_cons, List.not_mem_nil, or_false] at hy
    rcases hy with rfl | rfl | rfl <;> exact str_eqAt
  · have e : (#[Value.str s1 u1, .str s2 u2, .str s3 u3].any fun v => match v with | .str y _ => y == x | _ => false) = (s1 == x || s2 == x || s3 == x) := by simp [Bool.or_assoc]
    exact (congrArg (fun b => Q (.bool (!b)) s) (e.trans hx)).mpr h
theorem len_cons {D : Addr} {v : Value} {vr : List Value} {n : Nat}
    (N : News h₀ L s.heap news) (ma : (D, W.listOf (v :: vr).toArray n) ∈ news) (hv : vr.length ≤ 1000) (h : Q (.int ((vr.length : Int) + 1) (s.toks + 1)) { s with toks := s.toks + 1 + 1 }) : wpAny (model prog w) A (call (.builtin "len") [.ref D]) Q E s :=
  len_list (N.isList ma) (by simp; omega) (by simpa using h)
theorem ite_split {c p q : Prop} [Decidable c] (h1 : c → p) (h2 : ¬ c → q) : if c then p else q := by
  by_cases h : c
  · rw [if_pos h]; exact h1 h
  · rw [if_neg h]; exact h2 h
theorem ne_pair_split {x y : Str} {u v u' v' : Tok} {x' y' : Str} (N : News h₀ L s.heap news) (ma : (a, tupOf #[.str x u, .str y v] n1) ∈ news) (mb : (b, tupOf #[.str x' u', .str y' v'] n2) ∈ news) (hxy : x = x' → y = y') (hu : A.units < cLine) (h1 : x ≠ x' → Q (.bool true) s) (h2 : x = x' → Q (.bool false) s) :
    wpAny (model prog w) A (compareOp .NotEq (.ref a) (.ref b)) Q E s := by
  by_cases e : x = x'
  · have e' := hxy e
    subst e e'
    refine SeqAt.RcNeAt.tuples (e := fun _ => true) ⟨_, (N _ ma).1, rfl, _, rfl⟩ ⟨_, (N _ mb).1, rfl, _, rfl⟩ hu (fun j h1 h2 => ?_) prog w E Q (h2 rfl)
    match j, h1, h2 with
    | 0, _, _ => simpa using (str_eqAt (x := x) (y := x))
    | 1, _, _ => simpa using (str_eqAt (x := y) (y := y))
    | j + 2, h1, _ => exact absurd h1 (by simp)
  · exact ne_pair_yes N ma mb e hu (h1 e)
theorem eq_done_split {vs : List Value} {ws : List Str} {d : Str} {t : Tok} (N : News h₀ L s.heap news) (ma : (a, W.listOf vs.toArray n1) ∈ news) (mb : (b, W.listOf #[.str d t] n2) ∈ news) (sa : StrsAre vs ws) (hu : A.units < cLine) (h1 : ws = [d] → Q (.bool true) s) (h2 : ws ≠ [d] → Q (.bool false) s) :
    wpAny (model prog w) A (compareOp .Eq (.ref a) (.ref b)) Q E s := by
  by_cases e : ws = [d]
  · subst e
    obtain ⟨u, rfl⟩ := strs1 sa
    refine SeqAt.eq_listAt (e := fun _ => true) ⟨_, (N _ ma).1, rfl, _, rfl⟩ ⟨_, (N _ mb).1, rfl, _, rfl⟩ (by simp) hu (fun j h1 h2 => ?_) (by simpa using h1 rfl)
    match j, h1, h2 with
    | 0, _, _ => simpa using (str_eqAt (x := d) (y := d))
    | j + 1, h1, _ => exact absurd h1 (by simp)
  · exact eq_done_no N ma mb sa e hu (h2 e)
theorem eq_nil_split {vs : List Value} {ws : List Str} (N : News h₀ L s.heap news) (ma : (a, W.listOf vs.toArray n1) ∈ news) (mb : (b, W.listOf #[] n2) ∈ news) (sa : StrsAre vs ws) (hu : A.units < cLine) (h1 : ws = [] → vs = [] → Q (.bool true) s) (h2 : ∀ w0 wr t vr, ws = w0 :: wr → vs = .str w0 t :: vr → StrsAre vr wr → Q (.bool false) s) :
    wpAny (model prog w) A (compareOp .Eq (.ref a) (.ref b)) Q E s := by
  cases sa with
  | nil => exact SeqAt.eq_listAt (e := fun _ => true) ⟨_, (N _ ma).1, rfl, _, rfl⟩ ⟨_, (N _ mb).1, rfl, _, rfl⟩ (by simp) hu (fun j h1 _ => absurd h1 (by simp)) (by simpa using h1 rfl rfl)
  | cons y u r => exact SeqAt.eq_list_lengthsAt ⟨_, (N _ ma).1, rfl, _, rfl⟩ ⟨_, (N _ mb).1, rfl, _, rfl⟩ (by simp) hu (h2 _ _ _ _ rfl rfl r)
theorem ne_nil_split {vs : List Value} (N : News h₀ L s.heap news) (ma : (a, W.listOf vs.toArray n1) ∈ news) (mb : (b, W.listOf #[] n2) ∈ news) (hu : A.units < cLine) (h1 : vs ≠ [] → Q (.bool true) s) (h2 : vs = [] → Q (.bool false) s) :
    wpAny (model prog w) A (compareOp .NotEq (.ref a) (.ref b)) Q E s := by
  cases vs with
  | nil => exact SeqAt.RcNeAt.lists (e := fun _ => true) ⟨_, (N _ ma).1, rfl, _, rfl⟩ ⟨_, (N _ mb).1, rfl, _, rfl⟩ (by simp) hu (fun j h1 _ => absurd h1 (by simp)) prog w E Q (by simpa using h2 rfl)
  | cons v r => exact ne_cons_nil N ma mb hu (h1 (by simp))
end
end Mine
end

section
open PySem PySem.W PyProof.Rows
set_option Elab.async false
set_option linter.all false
set_option maxRecDepth 100000
set_option maxHeartbeats 0
set_option pp.maxSteps 20000
namespace Mine
local macro_rules | `(tactic| size_fits) => `(tactic| (rw [sizeLine_eq]; (try simp only [List.size_toArray, List.length_cons]); omega))
theorem setDue0 : True := by
  w_top off
  k_with_none
  k_with "rest1" => (refine' rest_ne1 ?zh ?zs; (case zh => with_reducible assumption); (case zs => k_extra "sub"))
  k_with "rest2" => (rename (∀ p ∈ (_ : List (Addr × Obj)), p.1 < _) => zzR; first | (refine' rest_ne2 zzR ?zs ?zl; (case zs => k_extra "sub"); (case zl => first | exact Nat.le_refl _ | exact Nat.le_succ _ | ((try dsimp only); omega))) | (clear zzR; k_extra "rest2"))
  k_with "rest" => (first | assumption | k_extra "rest1" | k_extra "rest2")
  k_with "sub" => (first | exact List.forall_mem_nil _ | (refine List.forall_mem_cons.mpr ⟨by k_mem, ?_⟩; k_extra "sub") | (intro p hp; (repeat (first | exact hp | refine List.Mem.tail _ ?_)); done))
  k_with "sub" => (intro p hp; (repeat (first | with_reducible exact hp | refine List.Mem.tail _ ?_)); done)
  k_with "nl" => (first | exact Nat.ne_of_lt zz1.1 | exact Nat.ne_of_gt zz1.1 | (replace zz1 := zz1.2; k_extra "nl"))
  k_with "ne" => (refine neN ?_; (try dsimp only); (repeat (rename (@Ne Nat _ _) => zz; clear zz)); omega)
  k_with "ne" => (refine neN ?_; (try dsimp only); (rename (@LT.lt Nat _ _ _ ∧ _) => zz1); first | k_extra "nl" | (clear zz1; (rename (@LT.lt Nat _ _ _ ∧ _) => zz1); first | k_extra "nl" | (clear zz1; (rename (@LT.lt Nat _ _ _ ∧ _) => zz1); k_extra "nl")))
  k_with "ne" => (refine neN ?_; (try dsimp only); first | assumption | (refine Ne.symm ?_; assumption))
  k_with "all" => (first | assumption | k_extra "rest")
  k_with "call builtin:str.split" => ((k_here; (with_reducible show wpAny _ _ (call (Value.builtin "str.split") [Value.str _ _, Value.str _ _]) _ _ _); (refine KSpl.split1 (by k_asm) (by k_asm) (by decide) ?_ (by rw [sizeLine_eq]; omega)); intro D' l' h' k' e' a' F' N' l1))
  k_with "eval ListComp" => ((k_here; k_dflt (refine LCt.ListComp_T (F₀ := by k_asm) (by with_unfolding_all rfl) (by decide) (by rfl) (by decide) (by rfl) ?_); k_dflt lct_toSrc))
  k_with "CompSrcT" => ((k_here; k_dflt (refine LCt.CompSrcT.ledger (by rfl) (by k_asm) (by k_asm) (by k_mem) ?_ ?_)))
  k_with "ite" => (refine Stop.out ?_)
  k_with "ite" => ((first | (k_closed; first | refine ite_pos (by decide +kernel) ?_ | refine ite_neg (by decide +kernel) ?_) | refine ite_pos (by assumption) ?_ | refine ite_neg (by assumption) ?_ | refine ite_neg (by first | (rw [Bool.not_eq_true]; assumption) | (simp only [Bool.not_eq_true, Bool.not_eq_false', Bool.not_eq_eq_eq_not, Bool.not_true, Bool.not_false]; assumption)) ?_))
  k_with "setItem ref str" => ((k_here; k_dflt (refine' kda_set (knd := PySem.strKind _ _) ?F ?N ?U ?d (strKind_is _ _ _ _) ?z ?_; (case F => k_asm); (case N => k_asm); (case U => k_updF); (case d => k_asm); (case z => rw [sizeLine_eq]; exact Nat.le_of_ble_eq_true (by with_unfolding_all rfl))); intro h' o' F' N' hd'; (try dsimp only at N')))
  k_with "call builtin:dict.get" => ((k_here; (try dsimp only); refine Stop.out ?_))
  k_with "compareOp NotEq ref ref" => ((k_here; (dsimp only); refine Stop.out ?_))
  k_with "compareOp Eq ref ref" => ((k_here; (dsimp only); refine Stop.out ?_))
  k_with "call ref" => ((k_here; (with_reducible show wpAny _ _ (call (Value.ref 253) [Value.ref _]) _ _ _); refine Stop.out ?_))
  k_with "call builtin:len" => ((k_here; k_dflt (refine len_cons (by k_asm) (by k_mem) (by assumption) ?_)))
  trivial
theorem due_all (w : World) (mean : ExcName → Option Value) (mg mb : Str → Option Value) (base : Heap) (env1 : Env)
  (x : Str) (tk : Tok) (ws : List Str) (hx : x.length ≤ 100) (hws : wordsOf x = ws) (hgo : ∀ wr, ws = Str.ofString "good" :: wr → wr.length = 1 ∨ wr.length = 2) (hn : (Txt.split x (Str.ofString " ")).length ≤ 1000)
  (st sl sr sf sg sli : Addr) (ost : Obj) (src g1 g2 : Str) (tsrc tg1 tg2 : Tok) (ng nl : Nat) (vs : List Value) (rest : List (Addr × Obj)) (hg : g1 = Str.ofString "" → g2 = Str.ofString "") (hvs : vs.length ≤ 1000)
  (hst : ost.IsDictOf (SK w) [(Str.ofString "source", .str src tsrc), (Str.ofString "library", .ref sl), (Str.ofString "rows", .ref sr), (Str.ofString "files", .ref sf), (Str.ofString "gathering", .ref sg), (Str.ofString "lines", .ref sli)])
  (o1 : ∀ p ∈ rest, p.1 ≠ st) (o2 : ∀ p ∈ rest, p.1 ≠ sli) (o3 : @Ne Nat st sli) (z2 : (sg, tupOf #[.str g1 tg1, .str g2 tg2] ng) ∈ rest) (lost : (st == sysModules) = false)
  (P : Value → List (Addr × Obj) → Prop)
  (p_app : g1 ≠ Str.ofString "" → ws ≠ [Str.ofString "done"] → ∀ D n, (∀ p ∈ (st, ost) :: (sli, W.listOf vs.toArray nl) :: rest, p.1 ≠ D) → P (.ref D) ((sli, W.listOf (vs ++ [Value.str x tk]).toArray (nl + 1)) :: (D, W.listOf #[] n) :: (st, ost) :: rest))
  (p_done : g1 ≠ Str.ofString "" → ws = [Str.ofString "done"] → ∃ PL, LaidSpec w mean mg mb base env1 st ((st, ost) :: (sli, W.listOf vs.toArray nl) :: rest) PL ∧ (∀ led, PL true led → ∀ D n, (∀ p ∈ led, p.1 ≠ D) → P (.ref D) ((D, W.listOf #[] n) :: led)) ∧ (∀ led, PL false led → P .none led))
  (p_blank : g1 = Str.ofString "" → ws = [] → ∀ D n, (∀ p ∈ (st, ost) :: (sli, W.listOf vs.toArray nl) :: rest, p.1 ≠ D) → P (.ref D) ((D, W.listOf #[] n) :: (st, ost) :: (sli, W.listOf vs.toArray nl) :: rest))
  (p_open : g1 = Str.ofString "" → ∀ w0 r y, ws = w0 :: r → openOf ws = some (some y) → ∀ ost' D n G u1 u2, ost'.IsDictOf (SK w) [(Str.ofString "source", .str src tsrc), (Str.ofString "library", .ref sl), (Str.ofString "rows", .ref sr), (Str.ofString "files", .ref sf), (Str.ofString "gathering", .ref G), (Str.ofString "lines", .ref sli)] → (∀ p ∈ rest, p.1 ≠ G) → (@Ne Nat st G) → (@Ne Nat sli G) → (@Ne Nat G D) → (∀ p ∈ (st, ost) :: (sli, W.listOf vs.toArray nl) :: rest, p.1 ≠ D) → P (.ref D) ((st, ost') :: (D, W.listOf #[] n) :: (G, tupOf #[.str w0 u1, .str y u2] 0) :: (sli, W.listOf vs.toArray nl) :: rest))
  (p_bad : g1 = Str.ofString "" → openOf ws = some none → P .none ((st, ost) :: (sli, W.listOf vs.toArray nl) :: rest))
  (p_good : g1 = Str.ofString "" → ∀ wr, ws = Str.ofString "good" :: wr → ∀ D n us u, StrsAre us wr → (∀ p ∈ (st, ost) :: (sli, W.listOf vs.toArray nl) :: rest, p.1 ≠ D) → P (.ref D) ((D, W.listOf (Value.str (Str.ofString "so") u :: us).toArray n) :: (st, ost) :: (sli, W.listOf vs.toArray nl) :: rest))
  (p_odd : g1 = Str.ofString "" → ∀ wr, ws = Str.ofString "odd" :: wr → ∀ D n u, (∀ p ∈ (st, ost) :: (sli, W.listOf vs.toArray nl) :: rest, p.1 ≠ D) → P (.ref D) ((D, W.listOf #[Value.str (Str.ofString "3 9: bad") u] n) :: (st, ost) :: (sli, W.listOf vs.toArray nl) :: rest))
  (p_late : g1 = Str.ofString "" → ∀ wr, ws = Str.ofString "late" :: wr → ∀ D n u, (∀ p ∈ (st, ost) :: (sli, W.listOf vs.toArray nl) :: rest, p.1 ≠ D) → P (.ref D) ((D, W.listOf #[Value.str (Str.ofString "bad") u] n) :: (st, ost) :: (sli, W.listOf vs.toArray nl) :: rest))
  (p_other : g1 = Str.ofString "" → ∀ w0 wr, ws = w0 :: wr → openOf ws = none → w0 ≠ Str.ofString "good" → w0 ≠ Str.ofString "odd" → w0 ≠ Str.ofString "late" → P .none ((st, ost) :: (sli, W.listOf vs.toArray nl) :: rest)) :
  DueSpec w mean mg mb base env1 st x tk ((st, ost) :: (sli, W.listOf vs.toArray nl) :: rest) P := by
  intro env2 A₀ h₀ L m s Q E B F KX N T hk hf hret
  have o4 : @Ne Nat sg st := o1 _ z2
  have o5 : @Ne Nat sg sli := o2 _ z2
  replace N := news_up (tail_of (tail_of N)) z2 N
  revert KX; k_fill; intro KX
  refine wpAny_call ?_
  k_dflt (refine' code_def ?k1 ?k2 ?k3 ?k4 ?k5 ?kA ?kF ?kK ?k6 ?k7 ?k8 ?k9 ?kB ?_ ?c2 ?c3 ?c4 ?c5; (case kA => exact rfl); (case kF => exact hf); (case kK => exact hk); (case k1 => exact B); (case k2 => k_asm); (case k3 => k_asm); (case k4 => k_asm); (case k5 => k_asm); (case k6 => k_is); (case k7 => k_is); (case k8 => k_room); (case k9 => exact BindsTo.of_eq rfl); (case c5 => decide); (case kB => exact locs rfl); (case c2 => exact rfl); (case c3 => exact rfl); (case c4 => exact rfl); k_whole; intro g' L' h' FG' F' N' B' X' T'; (try dsimp only); (try k_lift B'); (try k_fold))
  k_steps
  · have e1 := (by assumption : List.map (fun x : Str × Tok => x.fst) _ = Txt.split x (Str.ofString " "))
    have e2 := congrArg List.length e1
    rw [List.length_map] at e2
    rw [sizeLine_eq]
    simp only [strValues, List.size_toArray, List.length_map]
    omega
  · rename_i g'
    have e1 := e'
    have sa := a'
    clear e' a'
    k_lt l1
    have hsz : (strValues l').toArray.size = (l'.map (·.1)).length := by simp [strValues]
    refine restT_ind (WordsG (l'.map (·.1))) ?_ ?_ _ 0 [] (by rw [Nat.zero_add]) .nil
    · intro i v ys I oI C oC D m₂ h tk E' hi hP hG hC hx F N off ne
      obtain ⟨y, t, rfl, hy⟩ := strs_get sa (by simpa using hP)
      clear hP
      k_steps
      refine ⟨ite_split (fun hy1 => ?_) (fun hy1 => ?_)⟩
      · k_steps
        exact LCg.CompEnd.intro (by assumption) N _ (fun _ z => z) off (.inr ⟨_, .head _, rfl, _, rfl⟩) ⟨rfl, wordsG_yes hG hy hy1⟩
      · k_steps
        exact LCg.CompEnd.intro (by assumption) N _ (fun _ z => z) off (.inr ⟨_, .head _, rfl, _, rfl⟩) ⟨rfl, wordsG_no hG hy (by simpa using hy1)⟩
    · intro ys hG D h tk F N off
      have e1 := (by assumption : List.map (fun x : Str × Tok => x.fst) l' = Txt.split x (Str.ofString " "))
      have sa : StrsAre ys ws := by
        have q : StrsAre ys (((l'.map (·.1)).take (strValues l').toArray.size).filter fun a => a != Str.ofString "") := hG
        rw [hsz, List.take_length, e1] at q
        exact hws ▸ q
      clear hG
      have od := off
      (try simp only [LCg.Off1, and_true] at od)
      (repeat (obtain ⟨_, od⟩ := od))
      (try k_sweep)
      k_steps
      refine Stop.mk ?_
      refine ne_pair_split (by k_asm) (by k_mem) (by k_mem) hg (by k_units) (fun hg1 => ?_) (fun hg1 => ?_)
      · k_steps
        refine ⟨eq_done_split (by k_asm) (by k_mem) (by k_mem) sa (by k_units) (fun hd1 => ?_) (fun hd1 => ?_)⟩
        · k_steps
          obtain ⟨PL, hl, hp1, hp2⟩ := p_done hg1 hd1
          rename News _ _ _ _ => kN
          refine ⟨hl _ _ _ _ _ _ _ _ _ (by k_asm) (by k_asm) (by k_asm) (fun p hp => kN p ((by k_extra "sub" : ∀ p ∈ _, p ∈ _) p hp)) (by k_asm) rfl rfl ?_⟩
          intro b led1 h' tk' hP F' N'
          cases b with
          | true =>
            k_steps
            rename News _ _ _ _ => kN
            rename Fr _ _ _ _ => kF
            exact hret _ _ _ _ (hp1 _ hP _ _ (by k_all)) kF kN
          | false =>
            k_steps
            rename News _ _ _ _ => kN
            rename Fr _ _ _ _ => kF
            exact hret _ _ _ _ (hp2 _ hP) kF kN
        · k_steps
          rename News _ _ _ _ => kN
          rename Fr _ _ _ _ => kF
          (try simp only [List.push_toArray] at kN)
          exact hret _ _ _ _ (p_app hg1 hd1 _ _ (by k_all)) kF (fun p hp => kN p ((by k_extra "sub" : ∀ p ∈ _, p ∈ _) p hp))
      · k_steps
        refine ⟨eq_nil_split (by k_asm) (by k_mem) (by k_mem) sa (by k_units) (fun hw hv => ?_) (fun w0 wr t0 vr hw hv sr' => ?_)⟩
        · k_steps
          rename News _ _ _ _ => kN
          rename Fr _ _ _ _ => kF
          exact hret _ _ _ _ (p_blank hg1 hw _ _ (by k_all)) kF (fun p hp => kN p ((by k_extra "sub" : ∀ p ∈ _, p ∈ _) p hp))
        · subst hv
          have hvr : vr.length ≤ 1000 := by
            have : ws.length ≤ 1000 := by rw [← hws]; exact Nat.le_trans (List.length_filter_le _ _) hn
            rw [hw, List.length_cons] at this
            have := strs_lenS sr'
            omega
          k_steps
          refine ⟨ite_split (fun cA => ?_) (fun cA => ?_)⟩
          · k_steps
            refine ⟨ite_split (fun cB => ?_) (fun cB => ?_)⟩
            · k_steps
              refine ⟨ite_split (fun cL => ?_) (fun cL => ?_)⟩
              · k_steps
                rename News _ _ _ _ => kN
                rename Fr _ _ _ _ => kF
                exact hret _ _ _ _ (p_bad hg1 (hw ▸ openOf_src_bad cB (by have := strs_lenS sr'; simp only [bne_iff_ne, ne_eq, Decidable.not_not] at cL; omega))) kF (fun p hp => kN p ((by k_extra "sub" : ∀ p ∈ _, p ∈ _) p hp))
              · obtain ⟨rfl, rfl⟩ := strs_nil sr' (by simp only [bne_iff_ne, ne_eq, Decidable.not_not] at cL; omega)
                k_steps
                rename News _ _ _ _ => kN
                rename Fr _ _ _ _ => kF
                refine' hret _ _ _ _ (p_open hg1 _ _ _ hw ?gO _ _ _ _ _ _ ?gH ?ga ?gb ?gc ?gd ?ge) kF ?gN
                case gN => exact (fun p hp => kN p ((by k_extra "sub" : ∀ p ∈ _, p ∈ _) p hp))
                case gH => assumption
                case ga => k_extra "rest"
                case gb => k_ne
                case gc => k_ne
                case gd => k_ne
                case ge => k_all
                case gO => rw [hw, openOf_src cB, if_pos rfl]
            · k_steps
              refine ⟨ite_split (fun cL => ?_) (fun cL => ?_)⟩
              · k_steps
                rename News _ _ _ _ => kN
                rename Fr _ _ _ _ => kF
                exact hret _ _ _ _ (p_bad hg1 (hw ▸ openOf_lib_bad cA cB (by have := strs_lenS sr'; simp only [bne_iff_ne, ne_eq, Decidable.not_not] at cL; omega))) kF (fun p hp => kN p ((by k_extra "sub" : ∀ p ∈ _, p ∈ _) p hp))
              · obtain ⟨y, ty, rfl, rfl⟩ := strs_one sr' (by simp only [bne_iff_ne, ne_eq, Decidable.not_not] at cL; omega)
                k_steps
                rename News _ _ _ _ => kN
                rename Fr _ _ _ _ => kF
                refine' hret _ _ _ _ (p_open hg1 _ _ _ hw ?gO _ _ _ _ _ _ ?gH ?ga ?gb ?gc ?gd ?ge) kF ?gN
                case gN => exact (fun p hp => kN p ((by k_extra "sub" : ∀ p ∈ _, p ∈ _) p hp))
                case gH => assumption
                case ga => k_extra "rest"
                case gb => k_ne
                case gc => k_ne
                case gd => k_ne
                case ge => k_all
                case gO => rw [hw, openOf_lib cA cB]
          · k_steps
            refine ⟨ite_split (fun cG => ?_) (fun cG => ?_)⟩
            · have hG : w0 = Str.ofString "good" := by simpa using cG
              rcases hgo wr (hG ▸ hw) with hz | hz
              · obtain ⟨y, ty, rfl, rfl⟩ := strs_one sr' (by rw [strs_lenS sr']; exact hz)
                k_steps
                rename News _ _ _ _ => kN
                rename Fr _ _ _ _ => kF
                exact hret _ _ _ _ (p_good hg1 _ (hG ▸ hw) _ _ _ _ sr' (by k_all)) kF (fun p hp => kN p ((by k_extra "sub" : ∀ p ∈ _, p ∈ _) p hp))
              · obtain ⟨y, ty, y2, ty2, rfl, rfl⟩ := strs_two sr' (by rw [strs_lenS sr']; exact hz)
                k_steps
                rename News _ _ _ _ => kN
                rename Fr _ _ _ _ => kF
                exact hret _ _ _ _ (p_good hg1 _ (hG ▸ hw) _ _ _ _ sr' (by k_all)) kF (fun p hp => kN p ((by k_extra "sub" : ∀ p ∈ _, p ∈ _) p hp))
            · k_steps
              refine ⟨?_⟩
              by_cases hO : w0 = Str.ofString "odd"
              · subst hO
                refine kdg_get1 (knd := PySem.strKind _ _) (by k_asm) (by k_mem) (by k_asm) (by k_asm) (strKind_is _ _ _ _) (some _) (by rfl) ?_
                k_steps
                rename News _ _ _ _ => kN
                rename Fr _ _ _ _ => kF
                exact hret _ _ _ _ (p_odd hg1 _ hw _ _ _ (by k_all)) kF (fun p hp => kN p ((by k_extra "sub" : ∀ p ∈ _, p ∈ _) p hp))
              by_cases hL : w0 = Str.ofString "late"
              · subst hL
                refine kdg_get1 (knd := PySem.strKind _ _) (by k_asm) (by k_mem) (by k_asm) (by k_asm) (strKind_is _ _ _ _) (some _) (by rfl) ?_
                k_steps
                rename News _ _ _ _ => kN
                rename Fr _ _ _ _ => kF
                exact hret _ _ _ _ (p_late hg1 _ hw _ _ _ (by k_all)) kF (fun p hp => kN p ((by k_extra "sub" : ∀ p ∈ _, p ∈ _) p hp))
              · refine kdg_get1 (knd := PySem.strKind _ _) (by k_asm) (by k_mem) (by k_asm) (by k_asm) (strKind_is _ _ _ _) none (valueAt_none2 (fun e => hO e.symm) (fun e => hL e.symm)) ?_
                k_steps
                rename News _ _ _ _ => kN
                rename Fr _ _ _ _ => kF
                exact hret _ _ _ _ (p_other hg1 _ _ hw (hw ▸ openOf_no cA) (fun e => cG (by rw [e]; exact beq_self_eq_true _)) hO hL) kF (fun p hp => kN p ((by k_extra "sub" : ∀ p ∈ _, p ∈ _) p hp))
end Mine
end

section
open PySem PySem.W PyProof.Rows
set_option Elab.async false
set_option linter.all false
set_option maxRecDepth 100000
set_option maxHeartbeats 2000000
namespace Mine
theorem setStrComp0 : True := by
  w_top off
  k_with_none
  trivial
open PySem.Calls LCg LCt
section
variable {prog : Program} {w : World} {A : Around} {E : Value → Shared → Prop} {s : Shared} {h₀ : Heap} {L : Addr} {m : Str → Option Value} {env : Env}
theorem pyIter_strX {x : Str} {t : Tok} {Q : Value → Shared → Prop}
    (hQ : ∀ (o : Obj) (St : Nat → Heap → Prop), (∀ A' : Around, A'.handled = none → Walks prog w A' s.heap.objs.size [s.heap.objs.size] [s.heap.objs.size] x.cps.size (SignAt x) St) → (∀ i h, St i h → ∃ o, h.get? s.heap.objs.size = some o) → 
      (∀ i h h' o, St i h → h.get? s.heap.objs.size = some o → h'.get? s.heap.objs.size = some o → St i h') → St 0 (s.heap.push o) → o.isFreed = false →
      Q (.ref s.heap.objs.size) { s with heap := s.heap.push o }) : wpAny (model prog w) A (pyIter (.str x t)) Q E s := by
  have k : ∀ ty, (∀ i h h' o, Heap.IsStrIter h s.heap.objs.size ty x t i → h.get? s.heap.objs.size = some o → h'.get? s.heap.objs.size = some o → Heap.IsStrIter h' s.heap.objs.size ty x t i) := fun ty i h h' o st e e' => by
    obtain ⟨o', e2, r⟩ := st
    rw [e] at e2; cases e2
    exact ⟨o, e', r⟩
  cases ha : x.cps.all (· < 128)
  · exact wpAny_pyIter_wide ha (hQ _ _ (fun A' hA => Walks.strWide hA _ x t) (fun i h st => ⟨_, st.choose_spec.1⟩) (k _) ⟨_, Heap.get?_push_size _ rfl, rfl, rfl⟩ rfl)
  · exact wpAny_pyIter_ascii ha (hQ _ _ (fun A' hA => Walks.strAscii hA _ x t) (fun i h st => ⟨_, st.choose_spec.1⟩) (k _) ⟨_, Heap.get?_push_size _ rfl, rfl, rfl⟩ rfl)
/-- a comprehension over a text, with one test -/
def SrcST (prog : Program) (w : World) (A : Around) (h₀ : Heap) (L : Addr) (m : Str → Option Value) (env : Env) (ct elt : Expr) (x : Str) (scope : Scope) (cl : List (Str × Addr)) (Q : Value → Shared → Prop) (xv : Value) (s₁ : Shared) : Prop :=
  ∃ y t news, xv = .str y t ∧ A.handled = none ∧ Fr h₀ L s₁.heap m ∧ News h₀ L s₁.heap news ∧ y.cps.size ≤ sizeLine ∧
    ∀ s₂ : Shared, (∃ h, s₂ = { s₁ with heap := h }) → CompRestT prog w A h₀ L m env ct elt x scope cl s₂ (fun _ => True) (SignAt y) (FinE h₀ L m s₂ Q) y.cps.size 0 [] news
theorem SrcST.intro {ct elt : Expr} {x : Str} {scope : Scope} {cl : List (Str × Addr)} {Q : Value → Shared → Prop} {y : Str} {t : Tok} {news : List (Addr × Obj)} {s₁ : Shared}
    (hh : A.handled = none) (F : Fr h₀ L s₁.heap m) (N : News h₀ L s₁.heap news) (hsz : y.cps.size ≤ sizeLine)
    (h : ∀ g, CompRestT prog w A h₀ L m env ct elt x scope cl { s₁ with heap := g } (fun _ => True) (SignAt y) (FinE h₀ L m { s₁ with heap := g } Q) y.cps.size 0 [] news) :
    SrcST prog w A h₀ L m env ct elt x scope cl Q (.str y t) s₁ := ⟨y, t, news, rfl, hh, F, N, hsz, fun _ ⟨g, e⟩ => e ▸ h g⟩
theorem ListComp_ST {ct elt iter : Expr} {x : Str} {px : Pos} {scope : Scope} {cl : List (Str × Addr)} {pos : Pos} {Q : Value → Shared → Prop} (F₀ : Fr h₀ L s.heap m)
    (hclos : closureFor scope env = pure cl) (hcell : ∀ y ∈ scope.names, y.2 ≠ .cell) (hkind : scope.kind = .function)
    (hnames : ∀ y ∈ scope.names, y.2 = .local → scope.names.lookup y.1 = some .local) (hx : scope.names.lookup x = some .local)
    (h : wpAny (model prog w) A (eval iter env) (SrcST prog w A h₀ L m env ct elt x scope cl Q) E s)
    (hs : ∀ x, foldedSetIterable iter env x = pure x := by intro _; rfl) :
    wpAny (model prog w) A (eval (.ListComp elt [⟨.Name x px, iter, [ct], 0⟩] scope pos) env) Q E s := by
  rw [eval_ListComp]
  refine wpAny_comprehension_free (use := none) rfl hs hclos hkind hnames (wpAny_mono h (fun xv s₁ h₁ => ?_) fun _ _ e => e)
  obtain ⟨y, t, news, rfl, hh, F, N, hsz, R⟩ := h₁
  refine pyIter_strX fun o St W hIo hSt st hof => ?_
  have up : ∀ b o', s₁.heap.get? b = some o' → (s₁.heap.push o).get? b = some o' := fun b o' e => Heap.get?_push_of_some _ e
  refine block_T (W A hh) hsz hIo (fun i h h' o nw a b c _ _ _ => hSt i h h' o a b c) hcell hkind hx st (fun b hb => ?_)
    (F.keeps up) (N.grown up) (Nat.ne_of_lt F.ns.lt) (next_is_new F) (fun p hp => Nat.ne_of_lt (Heap.lt_size (N p hp).1)) trivial (R _ ⟨_, rfl⟩) ?_
  · rw [List.mem_singleton.mp hb]
    show s₁.heap.objs.size < (s₁.heap.push _).objs.size
    rw [Heap.size_push]; exact Nat.lt_succ_self _
  · intro D C h tk m' ys news' F' N' o1 hn hC₀ hD₀ hCL hDL hCD offC fin
    refine ⟨m', hn, fun h'' hs'' => fin D h'' tk (F'.change hs'' hCL hC₀) (fun p hp => ?_) o1⟩
    refine ⟨hs''.extBut _ _ ?_ (N' p hp).1, (N' p hp).2⟩
    rcases List.mem_cons.mp hp with rfl | hp
    · exact Ne.symm hCD
    · exact offC p hp
/-- the same without a test -/
def SrcSU (prog : Program) (w : World) (A : Around) (h₀ : Heap) (L : Addr) (m : Str → Option Value) (env : Env) (elt : Expr) (x : Str) (scope : Scope) (cl : List (Str × Addr)) (Q : Value → Shared → Prop) (xv : Value) (s₁ : Shared) : Prop :=
  ∃ y t news, xv = .str y t ∧ A.handled = none ∧ Fr h₀ L s₁.heap m ∧ News h₀ L s₁.heap news ∧ y.cps.size ≤ sizeLine ∧
    ∀ s₂ : Shared, (∃ h, s₂ = { s₁ with heap := h }) → CompRest prog w A h₀ L m env elt x scope cl s₂ (fun _ => True) (SignAt y) (FinE h₀ L m s₂ Q) y.cps.size 0 [] news
theorem SrcSU.intro {elt : Expr} {x : Str} {scope : Scope} {cl : List (Str × Addr)} {Q : Value → Shared → Prop} {y : Str} {t : Tok} {news : List (Addr × Obj)} {s₁ : Shared}
    (hh : A.handled = none) (F : Fr h₀ L s₁.heap m) (N : News h₀ L s₁.heap news) (hsz : y.cps.size ≤ sizeLine)
    (h : ∀ g, CompRest prog w A h₀ L m env elt x scope cl { s₁ with heap := g } (fun _ => True) (SignAt y) (FinE h₀ L m { s₁ with heap := g } Q) y.cps.size 0 [] news) :
    SrcSU prog w A h₀ L m env elt x scope cl Q (.str y t) s₁ := ⟨y, t, news, rfl, hh, F, N, hsz, fun _ ⟨g, e⟩ => e ▸ h g⟩
theorem ListComp_SU {elt iter : Expr} {x : Str} {px : Pos} {scope : Scope} {cl : List (Str × Addr)} {pos : Pos} {Q : Value → Shared → Prop} (F₀ : Fr h₀ L s.heap m)
    (hclos : closureFor scope env = pure cl) (hcell : ∀ y ∈ scope.names, y.2 ≠ .cell) (hkind : scope.kind = .function)
    (hnames : ∀ y ∈ scope.names, y.2 = .local → scope.names.lookup y.1 = some .local) (hx : scope.names.lookup x = some .local)
    (h : wpAny (model prog w) A (eval iter env) (SrcSU prog w A h₀ L m env elt x scope cl Q) E s)
    (hs : ∀ x, foldedSetIterable iter env x = pure x := by intro _; rfl) :
    wpAny (model prog w) A (eval (.ListComp elt [⟨.Name x px, iter, [], 0⟩] scope pos) env) Q E s := by
  rw [eval_ListComp]
  refine wpAny_comprehension_free (use := none) rfl hs hclos hkind hnames (wpAny_mono h (fun xv s₁ h₁ => ?_) fun _ _ e => e)
  obtain ⟨y, t, news, rfl, hh, F, N, hsz, R⟩ := h₁
  refine pyIter_strX fun o St W hIo hSt st hof => ?_
  have up : ∀ b o', s₁.heap.get? b = some o' → (s₁.heap.push o).get? b = some o' := fun b o' e => Heap.get?_push_of_some _ e
  refine block_U (W A hh) hsz hIo (fun i h h' o nw a b c _ _ _ => hSt i h h' o a b c) hcell hkind hx st (fun b hb => ?_)
    (F.keeps up) (N.grown up) (Nat.ne_of_lt F.ns.lt) (next_is_new F) (fun p hp => Nat.ne_of_lt (Heap.lt_size (N p hp).1)) trivial (R _ ⟨_, rfl⟩) ?_
  · rw [List.mem_singleton.mp hb]
    show s₁.heap.objs.size < (s₁.heap.push _).objs.size
    rw [Heap.size_push]; exact Nat.lt_succ_self _
  · intro D C h tk m' ys news' F' N' o1 hn hC₀ hD₀ hCL hDL hCD offC fin
    refine ⟨m', hn, fun h'' hs'' => fin D h'' tk (F'.change hs'' hCL hC₀) (fun p hp => ?_) o1⟩
    refine ⟨hs''.extBut _ _ ?_ (N' p hp).1, (N' p hp).2⟩
    rcases List.mem_cons.mp hp with rfl | hp
    · exact Ne.symm hCD
    · exact offC p hp
end
end Mine
end

section
open PySem PySem.W PyProof.Rows
set_option Elab.async false
set_option linter.all false
set_option maxRecDepth 100000
set_option maxHeartbeats 2000000
namespace Mine
theorem setNest0 : True := by
  w_top off
  k_with_none
  trivial
open PySem.Calls LCg LCt
section
variable {prog : Program} {w : World} {A : Around} {R : Result → Shared → Prop} {s : Shared}
theorem mark_none (A : Around) : A.mark none = A := by cases A; rfl
theorem compTurn_two1 (elt target iter c : Expr) (g0 : Comprehension) (scope : Scope) (pos : Pos) (it acc : Value) (env : Env) :
    compTurn (.ListComp elt [g0, ⟨target, iter, [c], 0⟩] scope pos) 1 it acc env = (standAt iter.pos >>= fun _ => pyNext it >>= fun r => match r with
      | none => pure (.done .next)
      | some v => letOwnedTupleGo target it v >>= fun _ => assign target env v >>= fun _ =>
        forIn [c] true (fun c r => if r = true then do let ok ← isTrue c env (eval c env); pure (ForInStep.yield ok) else pure (ForInStep.yield r)) >>= fun ok =>
        (if ok = true then (eval elt env >>= fun x => call (.builtin "list.append") [acc, x] >>= fun _ => pure ()) >>= fun _ => again (.compLoop (.ListComp elt [g0, ⟨target, iter, [c], 0⟩] scope pos) 1 it acc env)
          else again (.compLoop (.ListComp elt [g0, ⟨target, iter, [c], 0⟩] scope pos) 1 it acc env))) := by rfl
theorem compTurn_two0 (elt target iter target2 iter2 c : Expr) (scope : Scope) (pos : Pos) (it acc : Value) (env : Env) :
    compTurn (.ListComp elt [⟨target, iter, [], 0⟩, ⟨target2, iter2, [c], 0⟩] scope pos) 0 it acc env = (standAt iter.pos >>= fun _ => pyNext it >>= fun r => match r with
      | none => pure (.done .next)
      | some v => letOwnedTupleGo target it v >>= fun _ => assign target env v >>= fun _ =>
        eval iter2 env >>= fun x => standAt iter2.pos >>= fun _ => foldedSetIterable iter2 env x >>= fun x => holding [x] (pyIter x) >>= fun it2 =>
        runOwn (.compStart (.ListComp elt [⟨target, iter, [], 0⟩, ⟨target2, iter2, [c], 0⟩] scope pos) 1 it2 acc env) env >>= fun _ =>
          again (.compLoop (.ListComp elt [⟨target, iter, [], 0⟩, ⟨target2, iter2, [c], 0⟩] scope pos) 0 it acc env)) := by rfl
theorem codeAny_compStart_1 {elt target iter : Expr} {ifs : List Expr} {g0 : Comprehension} {scope : Scope} {pos : Pos} {it acc : Value} {env : Env}
    (h0 : codeAny (model prog w) A (.compLoop (.ListComp elt [g0, ⟨target, iter, ifs, 0⟩] scope pos) 1 it acc env) R s)
    (h : wpAny (model prog w) A (pyIter it) (fun it' s' => codeAny (model prog w) A (.compLoop (.ListComp elt [g0, ⟨target, iter, ifs, 0⟩] scope pos) 1 it' acc env) R s')
      (notedBy (model prog w) A env fun x s' => R (.error x) s') s) :
    codeAny (model prog w) A (.compStart (.ListComp elt [g0, ⟨target, iter, ifs, 0⟩] scope pos) 1 it acc env) R s := by
  refine codeAny_of_tree ?_
  show wpAny _ _ ((compStart (.ListComp elt [g0, ⟨target, iter, ifs, 0⟩] scope pos) 1 it acc env).onRaise (fun x => do noteFrame x env; standAt theWindowsPlace)) _ _ s
  refine wpAny_notedAt ?_
  unfold compStart
  show wpAny _ _ (ask >>= _) _ _ s
  refine wpAny_bind (wpAny_askSetting (wpAny_ite ?_))
  split
  · first
      | exact wpAny_bind (wpAny_pure (wpAny_pure (And.intro rfl h0)))
      | exact wpAny_pure (And.intro rfl h0)
  · first
      | exact wpAny_bind (wpAny_rule (wpAny_bind (wpAny_standAt (wpAny_bind (wpAny_mono h (fun it' s' h' => wpAny_pure (And.intro rfl h')) fun _ _ x => x)))))
      | (refine wpAny_bind (wpAny_rule ?_); show wpAny _ _ (standAt iter.pos >>= _) _ _ s; exact wpAny_bind (wpAny_standAt (wpAny_bind (wpAny_mono h (fun it' s' h' => wpAny_pure (And.intro rfl h')) fun _ _ x => x))))
theorem codeAny_compLoop_1 {elt target iter c : Expr} {g0 : Comprehension} {scope : Scope} {pos : Pos} {it acc : Value} {env : Env} (I : Nat → Shared → Prop)
    (turn : ∀ n s, I n s → wpAny (model prog w) A (pyNext it) (fun r s₁ => match r with
      | none => R (.ok .next) s₁
      | some v => wpAny (model prog w) A (assign target env v) (fun _ s₂ =>
          wpAny (model prog w) A (isTrue c env (eval c env)) (fun ok s₃ =>
            if ok = true then wpAny (model prog w) A (eval elt env) (fun x s₄ =>
              wpAny (model prog w) A (call (.builtin "list.append") [acc, x]) (fun _ s₅ => ∃ m, m < n ∧ I m s₅) (notedBy (model prog w) A env fun e s' => R (.error e) s') s₄) (notedBy (model prog w) A env fun e s' => R (.error e) s') s₃
            else ∃ m, m < n ∧ I m s₃) (notedBy (model prog w) A env fun e s' => R (.error e) s') s₂) (notedBy (model prog w) A env fun e s' => R (.error e) s') s₁) (notedBy (model prog w) A env fun e s' => R (.error e) s') s)
    (n : Nat) (h : I n s) (ht : ∀ v, letOwnedTupleGo target it v = pure () := by intro _; rfl) :
    codeAny (model prog w) A (.compLoop (.ListComp elt [g0, ⟨target, iter, [c], 0⟩] scope pos) 1 it acc env) R s := by
  refine codeAny_loop rfl I (fun n s hI => ?_) n h
  show wpAny _ A ((compTurn (.ListComp elt [g0, ⟨target, iter, [c], 0⟩] scope pos) 1 it acc env).onRaise (fun x => do noteFrame x env; theTreesLotGoes x)) _ _ s
  refine wpAny_noted ?_
  rw [compTurn_two1]
  refine wpAny_bind (wpAny_standAt (wpAny_bind (wpAny_mono (turn n s hI) (fun r s₁ h₁ => ?_) fun _ _ h' => h')))
  cases r with
  | none => exact wpAny_pure h₁
  | some v =>
    refine wpAny_bind (wpAny_of_eq (ht v) ?_)
    refine wpAny_bind (wpAny_mono h₁ (fun _ s₂ h₂ => wpAny_bind (wpAny_mono (wpAny_tests_one h₂) (fun ok s₃ h₃ => ?_) fun _ _ h' => h')) fun _ _ h' => h')
    cases ok with
    | false => exact wpAny_pure ⟨rfl, h₃⟩
    | true =>
      exact wpAny_bind (wpAny_bind (wpAny_mono h₃ (fun x s₄ h₄ => wpAny_bind (wpAny_mono h₄ (fun _ s₅ h₅ => wpAny_pure (wpAny_pure ⟨rfl, h₅⟩)) fun _ _ h' => h')) fun _ _ h' => h'))
theorem codeAny_compLoop_0 {elt target iter target2 iter2 c : Expr} {scope : Scope} {pos : Pos} {it acc : Value} {env : Env} (I : Nat → Shared → Prop)
    (turn : ∀ n s, I n s → wpAny (model prog w) A (pyNext it) (fun r s₁ => match r with
      | none => R (.ok .next) s₁
      | some v => wpAny (model prog w) A (assign target env v) (fun _ s₂ =>
          wpAny (model prog w) A (eval iter2 env) (fun x s₃ => wpAny (model prog w) A (pyIter x) (fun it2 s₄ =>
            codeAny (model prog w) A (.compStart (.ListComp elt [⟨target, iter, [], 0⟩, ⟨target2, iter2, [c], 0⟩] scope pos) 1 it2 acc env) (fun r s₅ => match r with
              | .ok _ => ∃ m, m < n ∧ I m s₅
              | .error e => cameBackBy (model prog w) A env (notedBy (model prog w) A env fun e s' => R (.error e) s') e s₅) s₄)
            (notedBy (model prog w) A env fun e s' => R (.error e) s') s₃) (notedBy (model prog w) A env fun e s' => R (.error e) s') s₂) (notedBy (model prog w) A env fun e s' => R (.error e) s') s₁) (notedBy (model prog w) A env fun e s' => R (.error e) s') s)
    (n : Nat) (h : I n s) (ht : ∀ v, letOwnedTupleGo target it v = pure () := by intro _; rfl) (hs : ∀ x, foldedSetIterable iter2 env x = pure x := by intro _; rfl) :
    codeAny (model prog w) A (.compLoop (.ListComp elt [⟨target, iter, [], 0⟩, ⟨target2, iter2, [c], 0⟩] scope pos) 0 it acc env) R s := by
  refine codeAny_loop rfl I (fun n s hI => ?_) n h
  show wpAny _ A ((compTurn (.ListComp elt [⟨target, iter, [], 0⟩, ⟨target2, iter2, [c], 0⟩] scope pos) 0 it acc env).onRaise (fun x => do noteFrame x env; theTreesLotGoes x)) _ _ s
  refine wpAny_noted ?_
  rw [compTurn_two0]
  refine wpAny_bind (wpAny_standAt (wpAny_bind (wpAny_mono (turn n s hI) (fun r s₁ h₁ => ?_) fun _ _ h' => h')))
  cases r with
  | none => exact wpAny_pure h₁
  | some v =>
    refine wpAny_bind (wpAny_of_eq (ht v) ?_)
    refine wpAny_bind (wpAny_mono h₁ (fun _ s₂ h₂ => wpAny_bind (wpAny_mono h₂ (fun x s₃ h₃ => wpAny_bind (wpAny_standAt (wpAny_bind (wpAny_of_eq (hs x) (wpAny_bind (wpAny_holding (wpAny_mono h₃ (fun it2 s₄ h₄ => ?_) fun _ _ h' => h'))))))) fun _ _ h' => h')) fun _ _ h' => h')
    refine wpAny_bind (wpAny_runOwn ?_)
    rw [mark_none]
    refine codeAny_mono h₄ fun r s₅ hr => ?_
    cases r with
    | ok f => exact wpAny_pure ⟨rfl, hr⟩
    | error e => exact hr
end
section
variable {prog : Program} {w : World} {A : Around} {E : Value → Shared → Prop} {s : Shared} {h₀ : Heap} {L : Addr} {m : Str → Option Value} {env : Env}
/-- the inner loop of a comprehension with two clauses, over a text -/
theorem inner_N {elt iter2 ct : Expr} {g0 : Comprehension} {x2 : Str} {px2 : Pos} {scope : Scope} {cl : List (Str × Addr)} {pos : Pos} {I C D : Addr} {y : Str} {St : Nat → Heap → Prop} {nw : List (Addr × Obj)} {ys₀ : List Value} {m₀ : Str → Option Value}
    (J : Nat → List Value → Prop) {RE : Value → Shared → Prop}
    (W : Walks prog w A I [I] [I] y.cps.size (SignAt y) St) (hIo : ∀ i h, St i h → ∃ o, h.get? I = some o) (hSt : ∀ i h h' o, St i h → h.get? I = some o → h'.get? I = some o → St i h') (hst : St 0 s.heap)
    (hkind : scope.kind = .function) (hx : scope.names.lookup x2 = some .local) (F : Fr h₀ L s.heap m) (hn : s.heap.Ns C m₀) (N : News h₀ L s.heap ((D, lst ys₀) :: nw)) (off : Off3 I C D nw) (hne : (@Ne Nat I C) ∧ (@Ne Nat I D) ∧ (@Ne Nat C D))
    (hCL : C ≠ L) (hC₀ : h₀.get? C = none) (hDL : D ≠ L) (hD₀ : h₀.get? D = none) (hIL : L ≠ I) (hI₀ : h₀.get? I = none)
    (hJ : J 0 ys₀) (hlen : ∀ k ys, J k ys → ys.length ≤ 1000000)
    (step : ∀ k c u ys oI oC m₂ h tk (E' : Value → Shared → Prop), y.cps[k]? = some c → J k ys → NsObj oC m₂ → m₂ x2 = some (.str ⟨#[c]⟩ u) → Fr h₀ L h m → News h₀ L h ((I, oI) :: (C, oC) :: (D, lst ys) :: nw) →
      wpAny (model prog w) A (isTrue ct (compEnvC scope cl C env) (eval ct (compEnvC scope cl C env))) (fun ok s' => if ok = true then
        wpAny (model prog w) A (eval elt (compEnvC scope cl C env)) (CompEnd h₀ L m { s with heap := h, toks := tk } I oI C oC D (lst ys) (fun _ => True) (fun v nw' => nw' = nw ∧ J (k + 1) (ys ++ [v]))) E' s'
        else CompEnd h₀ L m { s with heap := h, toks := tk } I oI C oC D (lst ys) (fun _ => True) (fun _ nw' => nw' = nw ∧ J (k + 1) ys) Value.none s') E' { s with heap := h, toks := tk }) :
    codeAny (model prog w) A (.compStart (.ListComp elt [g0, ⟨.Name x2 px2, iter2, [ct], 0⟩] scope pos) 1 (.ref I) (.ref D) (compEnvC scope cl C env)) (fun r s₅ => match r with
      | .ok _ => ∃ h' tk ys m', s₅ = { s with heap := h', toks := tk } ∧ Fr h₀ L h' m ∧ h'.Ns C m' ∧ News h₀ L h' ((D, lst ys) :: nw) ∧ J y.cps.size ys
      | .error e => RE e s₅) s := by
  obtain ⟨hIC, hID, hCD⟩ := hne
  have off3 := off.mem
  have loop : codeAny (model prog w) A (.compLoop (.ListComp elt [g0, ⟨.Name x2 px2, iter2, [ct], 0⟩] scope pos) 1 (.ref I) (.ref D) (compEnvC scope cl C env)) (fun r s₅ => match r with
      | .ok _ => ∃ h' tk ys m', s₅ = { s with heap := h', toks := tk } ∧ Fr h₀ L h' m ∧ h'.Ns C m' ∧ News h₀ L h' ((D, lst ys) :: nw) ∧ J y.cps.size ys
      | .error e => RE e s₅) s := by
    refine codeAny_compLoop_1 (fun k s' => ∃ h' tk i ys m', s' = { s with heap := h', toks := tk } ∧ i ≤ y.cps.size ∧ k = y.cps.size + 1 - i ∧ St i h' ∧ Fr h₀ L h' m ∧ h'.Ns C m' ∧ News h₀ L h' ((D, lst ys) :: nw) ∧ J i ys) ?_ (y.cps.size + 1)
      ⟨s.heap, s.toks, 0, ys₀, m₀, rfl, Nat.zero_le _, rfl, hst, F, hn, N, hJ⟩
    rintro k s' ⟨h', tk, i, ys, m', rfl, hi, rfl, hst', F', hn', N', hJ'⟩
    by_cases hlt : i < y.cps.size
    · refine W.item i _ _ _ hlt hst' fun v h₂ tk₂ hPv hst₂ hk₂ => ?_
      obtain ⟨c, u, hc, rfl⟩ := hPv
      refine wpAny_assign_Name (wpAny_storeName_local (lookup_relabel_local hx) (hn'.at' fun o e => hk₂ _ o (by simpa using Ne.symm hIC) e) (fun h₃ hn₃ hs₃ => ?_) (by simp [compEnvC, relabel, hkind]))
      have hst₃ : St (i + 1) h₃ := W.frame _ _ _ hst₂ fun b hb o e => hs₃.extBut b o (fun q => hIC ((List.mem_singleton.mp hb).symm.trans q)) e
      obtain ⟨oI, heI⟩ := hIo _ _ hst₃
      obtain ⟨oC, heC, hoC⟩ := ns_obj hn₃
      have F₃ : Fr h₀ L h₃ m := (fr_but F' hk₂ hIL hI₀).change hs₃ hCL hC₀
      have N₂ : News h₀ L h₂ ((D, lst ys) :: nw) := news_but N' hk₂ fun p hp => by
        rcases List.mem_cons.mp hp with rfl | hp
        · exact Ne.symm hID
        · exact (off3 p hp).1
      have N₃ : News h₀ L h₃ ((I, oI) :: (C, oC) :: (D, lst ys) :: nw) := fun p hp => by
        rcases List.mem_cons.mp hp with rfl | hp
        · exact ⟨heI, Ne.symm hIL, hI₀⟩
        · rcases List.mem_cons.mp hp with rfl | hp
          · exact ⟨heC, hCL, hC₀⟩
          · have z := N₂ p hp
            refine ⟨hs₃.extBut _ _ ?_ z.1, z.2⟩
            rcases List.mem_cons.mp hp with rfl | hp
            · exact Ne.symm hCD
            · exact (off3 p hp).2.1
      refine wpAny_mono (step i c u ys oI oC _ h₃ _ _ hc hJ' hoC (by simp) F₃ N₃) (fun ok s₄ h₄ => ?_) fun _ _ e => e
      cases ok with
      | true =>
        simp only [if_true] at h₄ ⊢
        refine wpAny_mono h₄ (fun v s₅ h₅ => ?_) fun _ _ e => e
        obtain ⟨H₄, tk₄, news₄, rfl, F₄, N₄, off₄, _, rfl, hJ₄⟩ := h₅
        have zI := (N₄ (I, oI) List.mem_cons_self).1
        have zC := (N₄ (C, oC) (List.mem_cons_of_mem _ List.mem_cons_self)).1
        have zD := (N₄ (D, lst ys) (List.mem_cons_of_mem _ (List.mem_cons_of_mem _ List.mem_cons_self))).1
        have N₄' : News h₀ L H₄ news₄ := fun p hp => N₄ p (List.mem_cons_of_mem _ (List.mem_cons_of_mem _ (List.mem_cons_of_mem _ hp)))
        have hst₄ : St (i + 1) H₄ := hSt _ _ _ _ hst₃ heI zI
        refine append_at (hsz := by show ys.toArray.size ≤ sizeLine; rw [List.size_toArray, sizeLine_eq]; have := hlen _ _ hJ'; omega) zD fun h₅ hs₅ hD₅ => ?_
        refine ⟨y.cps.size + 1 - (i + 1), by omega, h₅, tk₄, i + 1, ys ++ [v], _, rfl, hlt, rfl, W.frame _ _ _ hst₄ fun b hb o e => hs₅.extBut b o (fun q => hID ((List.mem_singleton.mp hb).symm.trans q)) e, F₄.change hs₅ hDL hD₀,
          (hoC.ns zC).sameBut hs₅ hCD, fun p hp => ?_, hJ₄⟩
        rcases List.mem_cons.mp hp with rfl | hp
        · exact ⟨hD₅.trans (congrArg some (lst_snoc ys v)), hDL, hD₀⟩
        · exact ⟨hs₅.extBut _ _ (off3 p hp).2.2 (N₄' p hp).1, (N₄' p hp).2⟩
      | false =>
        simp only [Bool.false_eq_true, if_false] at h₄ ⊢
        obtain ⟨h₅, tk₄, news₄, rfl, F₄, N₄, off₄, _, rfl, hJ₄⟩ := h₄
        have zI := (N₄ (I, oI) List.mem_cons_self).1
        have zC := (N₄ (C, oC) (List.mem_cons_of_mem _ List.mem_cons_self)).1
        have N₄' : News h₀ L h₅ news₄ := fun p hp => N₄ p (List.mem_cons_of_mem _ (List.mem_cons_of_mem _ (List.mem_cons_of_mem _ hp)))
        have hst₄ : St (i + 1) h₅ := hSt _ _ _ _ hst₃ heI zI
        refine ⟨y.cps.size + 1 - (i + 1), by omega, h₅, tk₄, i + 1, ys, _, rfl, hlt, rfl, hst₄, F₄, hoC.ns zC, fun p hp => ?_, hJ₄⟩
        rcases List.mem_cons.mp hp with rfl | hp
        · exact N₄ _ (List.mem_cons_of_mem _ (List.mem_cons_of_mem _ List.mem_cons_self))
        · exact N₄' p hp
    · obtain rfl : i = y.cps.size := Nat.le_antisymm hi (Nat.not_lt.mp hlt)
      refine W.done _ _ _ hst' fun h₂ tk₂ hk₂ => ?_
      have N₂ := news_but N' hk₂ fun p hp => by
          rcases List.mem_cons.mp hp with rfl | hp
          · exact Ne.symm hID
          · exact (off3 p hp).1
      exact ⟨h₂, tk₂, ys, m', rfl, fr_but F' hk₂ hIL hI₀, hn'.at' fun o e => hk₂ _ o (by simpa using Ne.symm hIC) e, N₂, hJ'⟩
  exact codeAny_compStart_1 loop (W.self 0 _ _ _ hst loop)
/-- a comprehension with two clauses: over the texts of a list in the ledger, then over each text's signs -/
structure RestN (prog : Program) (w : World) (A : Around) (h₀ : Heap) (L : Addr) (m : Str → Option Value) (env : Env) (iter2 ct elt : Expr) (x1 x2 : Str) (scope : Scope) (cl : List (Str × Addr)) (Q : Value → Shared → Prop) (vs : List Value) (ls : List Str) (news : List (Addr × Obj)) (s : Shared) : Prop where
  at_ : ∃ (K : Nat → List Value → Prop) (J : Nat → Str → Nat → List Value → Prop), K 0 [] ∧ (∀ (i : Nat) (y : Str) (ys : List Value), ls[i]? = some y → K i ys → J i y 0 ys) ∧ (∀ (i : Nat) (y : Str) (ys : List Value), ls[i]? = some y → J i y y.cps.size ys → K (i + 1) ys) ∧ (∀ (i : Nat) (y : Str) (k : Nat) (ys : List Value), i < ls.length → J i y k ys → ys.length ≤ 1000000) ∧
    (∀ (i : Nat) (v : Value) (ys : List Value) (I : Addr) (oI : Obj) (C : Addr) (oC : Obj) (D : Addr) (m₂ : Str → Option Value) (h : Heap) (tk : Nat) (E' : Value → Shared → Prop), vs[i]? = some v → NsObj oC m₂ → m₂ x1 = some v → Fr h₀ L h m → News h₀ L h ((I, oI) :: (C, oC) :: (D, lst ys) :: news) → Off3 I C D news → ((@Ne Nat I C) ∧ (@Ne Nat I D) ∧ (@Ne Nat C D)) →
      wpAny (model prog w) A (eval iter2 (compEnvC scope cl C env)) (fun xv s' => CompEnd h₀ L m { s with heap := h, toks := tk } I oI C oC D (lst ys) (fun _ => True) (fun u nw => nw = news ∧ u = v) xv s') E' { s with heap := h, toks := tk }) ∧
    (∀ (i : Nat) (y : Str) (k c : Nat) (u : Tok) (ys : List Value) (I2 : Addr) (oI2 : Obj) (I : Addr) (oI : Obj) (C : Addr) (oC : Obj) (D : Addr) (m₂ : Str → Option Value) (h : Heap) (tk : Nat) (E' : Value → Shared → Prop), ls[i]? = some y → y.cps[k]? = some c → J i y k ys → NsObj oC m₂ → m₂ x2 = some (.str ⟨#[c]⟩ u) → Fr h₀ L h m → News h₀ L h ((I2, oI2) :: (C, oC) :: (D, lst ys) :: (I, oI) :: news) → Off3 I2 C D ((I, oI) :: news) →
      wpAny (model prog w) A (isTrue ct (compEnvC scope cl C env) (eval ct (compEnvC scope cl C env))) (fun ok s' => if ok = true then
        wpAny (model prog w) A (eval elt (compEnvC scope cl C env)) (CompEnd h₀ L m { s with heap := h, toks := tk } I2 oI2 C oC D (lst ys) (fun _ => True) (fun v nw' => nw' = (I, oI) :: news ∧ J i y (k + 1) (ys ++ [v]))) E' s'
        else CompEnd h₀ L m { s with heap := h, toks := tk } I2 oI2 C oC D (lst ys) (fun _ => True) (fun _ nw' => nw' = (I, oI) :: news ∧ J i y (k + 1) ys) Value.none s') E' { s with heap := h, toks := tk }) ∧
    (∀ ys, K ls.length ys → FinE h₀ L m s Q ys news)
theorem strs_len : ∀ {vs : List Value} {ls : List Str}, StrsAre vs ls → vs.length = ls.length
  | _, _, .nil => rfl
  | _, _, .cons _ _ r => congrArg (· + 1) (strs_len r)
theorem strs_at : ∀ {vs : List Value} {ls : List Str} {i : Nat}, StrsAre vs ls → i < ls.length → ∃ y t, vs[i]? = some (.str y t) ∧ ls[i]? = some y
  | _, _, 0, .cons y t _, _ => ⟨y, t, rfl, rfl⟩
  | _, _, i + 1, .cons y t r, h => by
    obtain ⟨y', t', a, b⟩ := strs_at (i := i) r (by simpa using h)
    exact ⟨y', t', by simpa using a, by simpa using b⟩
theorem ListComp_N {ct elt iter iter2 : Expr} {x1 x2 : Str} {px1 px2 : Pos} {scope : Scope} {cl : List (Str × Addr)} {pos : Pos} {Q : Value → Shared → Prop} (F₀ : Fr h₀ L s.heap m)
    (hclos : closureFor scope env = pure cl) (hcell : ∀ y ∈ scope.names, y.2 ≠ .cell) (hkind : scope.kind = .function)
    (hnames : ∀ y ∈ scope.names, y.2 = .local → scope.names.lookup y.1 = some .local) (hx1 : scope.names.lookup x1 = some .local) (hx2 : scope.names.lookup x2 = some .local)
    (h : wpAny (model prog w) A (eval iter env) (fun xv s₁ => ∃ ax vs k ls news, xv = .ref ax ∧ A.handled = none ∧ Fr h₀ L s₁.heap m ∧ News h₀ L s₁.heap news ∧ (ax, ({ cls := .type "list", data := .seq vs.toArray k } : Obj)) ∈ news ∧ StrsAre vs ls ∧ ls.length ≤ 1000 ∧
      ∀ s₂ : Shared, (∃ h, s₂ = { s₁ with heap := h }) → RestN prog w A h₀ L m env iter2 ct elt x1 x2 scope cl Q vs ls news s₂) E s)
    (hs : ∀ x, foldedSetIterable iter env x = pure x := by intro _; rfl) (hs2 : ∀ env x, foldedSetIterable iter2 env x = pure x := by intro _ _; rfl) :
    wpAny (model prog w) A (eval (.ListComp elt [⟨.Name x1 px1, iter, [], 0⟩, ⟨.Name x2 px2, iter2, [ct], 0⟩] scope pos) env) Q E s := by
  rw [eval_ListComp]
  refine wpAny_comprehension_free (use := none) rfl hs hclos hkind hnames (wpAny_mono h (fun xv s₁ h₁ => ?_) fun _ _ e => e)
  obtain ⟨ax, vs, k, ls, news, rfl, hh, F, N, hm, sa, hls, R⟩ := h₁
  have S : SrcAt h₀ ax vs.toArray news := .inr ⟨_, hm, rfl, _, rfl⟩
  have hl := S.list F.keep N
  have hlt : ax < s₁.heap.objs.size := by obtain ⟨_, e, _⟩ := hl; exact Heap.lt_size e
  refine wpAny_pyIter_list hl ?_
  have up : ∀ b o, s₁.heap.get? b = some o → (s₁.heap.push { cls := .type "list_iterator", data := .fields #[.ref ax, .int 0 0] }).get? b = some o := fun b o e => Heap.get?_push_of_some _ e
  generalize hI : s₁.heap.objs.size = I at *
  have W := Walks.list (prog := prog) (w := w) hh I ax (Nat.ne_of_lt hlt) vs.toArray
  generalize hs2' : ({ s₁ with heap := s₁.heap.push { cls := .type "list_iterator", data := .fields #[.ref ax, .int 0 0] } } : Shared) = s₂
  have hh2 : s₂.heap = s₁.heap.push { cls := .type "list_iterator", data := .fields #[.ref ax, .int 0 0] } := by rw [← hs2']
  have hsz2 : s₂.heap.objs.size = I + 1 := by rw [hh2, Heap.size_push, hI]
  obtain ⟨K, J, hK0, hJ0, hJK, hlen, hiter, step, fin⟩ := (R s₂ ⟨_, hs2'.symm⟩).at_
  have F2 : Fr h₀ L s₂.heap m := by rw [hh2]; exact F.keeps up
  have N2 : News h₀ L s₂.heap news := by rw [hh2]; exact N.grown up
  have hst : s₂.heap.IsListIter I ax 0 ∧ s₂.heap.IsList ax vs.toArray := by rw [hh2]; exact ⟨⟨_, hI ▸ Heap.get?_push_size _ rfl, rfl, rfl⟩, hl.push _⟩
  have hIL : L ≠ I := by rw [← hI]; exact Nat.ne_of_lt F.ns.lt
  have hI₀ : h₀.get? I = none := hI ▸ next_is_new F
  have off : ∀ p ∈ news, p.1 ≠ I := fun p hp => by rw [← hI]; exact Nat.ne_of_lt (Heap.lt_size (N p hp).1)
  clear hs2'
  refine wpAny_newObj_type (wpAny_newFunctionEnv hcell (by intro y hy; simp at hy) (fun h₁ hns₁ hsb₁ => ?_) hkind)
  dsimp only at hns₁ hsb₁ ⊢
  generalize hH2 : s₂.heap.push { cls := .type "list", dict := none, data := .seq ([] : List Value).toArray } = H2 at hns₁ hsb₁ ⊢
  have hC : H2.objs.size = s₂.heap.objs.size + 1 := by rw [← hH2, Heap.size_push]
  have hDC : s₂.heap.objs.size ≠ H2.objs.size := by rw [hC]; exact Nat.ne_of_lt (Nat.lt_succ_self _)
  have below : ∀ b, b < s₂.heap.objs.size → b ≠ H2.objs.size ∧ b ≠ s₂.heap.objs.size := fun b hb => ⟨by rw [hC]; exact Nat.ne_of_lt (Nat.lt_succ_of_lt hb), Nat.ne_of_lt hb⟩
  have hIlt : I < s₂.heap.objs.size := by rw [hsz2]; exact Nat.lt_succ_self _
  have haxlt : ax < s₂.heap.objs.size := Nat.lt_trans hlt hIlt
  have old : ∀ b o, s₂.heap.get? b = some o → h₁.get? b = some o := fun b o e => hsb₁.extBut b o (below b (Heap.lt_size e)).1 (Heap.get?_push_of_some _ (hH2 ▸ Heap.get?_push_of_some _ e))
  have hacc : h₁.get? s₂.heap.objs.size = some (lst []) := hsb₁.extBut _ _ hDC (Heap.get?_push_of_some _ (hH2 ▸ Heap.get?_push_size _ rfl))
  have fresh₀ : ∀ a, s₂.heap.objs.size ≤ a → h₀.get? a = none := fun a ha => by
    cases e : h₀.get? a with
    | none => rfl
    | some o' => exact absurd (Heap.lt_size (F2.keep a o' e)) (Nat.not_lt.mpr ha)
  have hD₀ : h₀.get? s₂.heap.objs.size = none := fresh₀ _ (Nat.le_refl _)
  have hC₀ : h₀.get? H2.objs.size = none := fresh₀ _ (by rw [hC]; exact Nat.le_succ _)
  have hLlt : L < s₂.heap.objs.size := F2.ns.lt
  have hDL : s₂.heap.objs.size ≠ L := Ne.symm (below L hLlt).2
  have hCL : H2.objs.size ≠ L := Ne.symm (below L hLlt).1
  have hCI : I ≠ H2.objs.size := (below I hIlt).1
  have hDI : I ≠ s₂.heap.objs.size := (below I hIlt).2
  have off₀ : Off3 I H2.objs.size s₂.heap.objs.size news := Off3.of fun p hp => ⟨off p hp, (below _ (Heap.lt_size (N2 p hp).1)).1, (below _ (Heap.lt_size (N2 p hp).1)).2⟩
  have off3 := off₀.mem
  have lsz := strs_len sa
  have loop : ∀ s₃ : Shared, s₃ = { s₂ with heap := h₁, toks := s₂.toks + ([] : List (Str × Value)).length } →
      codeAny (model prog w) A (.compLoop (.ListComp elt [⟨.Name x1 px1, iter, [], 0⟩, ⟨.Name x2 px2, iter2, [ct], 0⟩] scope pos) 0 (.ref I) (.ref s₂.heap.objs.size) (compEnvC scope cl H2.objs.size env))
        (compPost (model prog w) A E none Q (.ref s₂.heap.objs.size) H2.objs.size) s₃ := by
    rintro s₃ rfl
    refine codeAny_compLoop_0 (fun k s' => ∃ h' tk i ys m', s' = { s₂ with heap := h', toks := tk } ∧ i ≤ ls.length ∧ k = ls.length + 1 - i ∧ (h'.IsListIter I ax i ∧ h'.IsList ax vs.toArray) ∧ Fr h₀ L h' m ∧ h'.Ns H2.objs.size m' ∧ News h₀ L h' ((s₂.heap.objs.size, lst ys) :: news) ∧ K i ys) ?_ (ls.length + 1)
      ⟨h₁, _, 0, [], _, rfl, Nat.zero_le _, rfl, W.frame _ _ _ hst fun b _ o e => old b o e, F2.keeps old, hns₁, fun p hp => ?_, hK0⟩ (by intro _; rfl) (hs2 _)
    · rintro k s' ⟨h', tk, i, ys, m', rfl, hi, rfl, hst', F', hn', N', hK'⟩
      by_cases hlt : i < ls.length
      · refine W.item i _ _ _ (by simpa [lsz] using hlt) hst' fun v h₂ tk₂ hPv hst₂ hk₂ => ?_
        obtain ⟨y, t, hv, hy⟩ := strs_at sa hlt
        obtain rfl : v = .str y t := by
          have z : vs[i]? = some v := by simpa using hPv
          rw [hv] at z; exact (Option.some.inj z).symm
        refine wpAny_assign_Name (wpAny_storeName_local (lookup_relabel_local hx1) (hn'.at' fun o e => hk₂ _ o (by simpa using Ne.symm hCI) e) (fun h₃ hn₃ hs₃ => ?_) (by simp [compEnvC, relabel, hkind]))
        have hst₃ : h₃.IsListIter I ax (i + 1) ∧ h₃.IsList ax vs.toArray := W.frame _ _ _ hst₂ fun b hb o e => hs₃.extBut b o (fun q => by
          rcases List.mem_cons.mp hb with z | z
          · exact hCI (z.symm.trans q)
          · exact (below ax haxlt).1 ((List.mem_singleton.mp z).symm.trans q)) e
        obtain ⟨oI, heI, _⟩ := id hst₃.1
        obtain ⟨oC, heC, hoC⟩ := ns_obj hn₃
        have F₃ : Fr h₀ L h₃ m := (fr_but F' hk₂ hIL hI₀).change hs₃ hCL hC₀
        have N₂ : News h₀ L h₂ ((s₂.heap.objs.size, lst ys) :: news) := news_but N' hk₂ fun p hp => by
          rcases List.mem_cons.mp hp with rfl | hp
          · exact Ne.symm hDI
          · exact (off3 p hp).1
        have N₃ : News h₀ L h₃ ((I, oI) :: (H2.objs.size, oC) :: (s₂.heap.objs.size, lst ys) :: news) := fun p hp => by
          rcases List.mem_cons.mp hp with rfl | hp
          · exact ⟨heI, Ne.symm hIL, hI₀⟩
          · rcases List.mem_cons.mp hp with rfl | hp
            · exact ⟨heC, hCL, hC₀⟩
            · have z := N₂ p hp
              refine ⟨hs₃.extBut _ _ ?_ z.1, z.2⟩
              rcases List.mem_cons.mp hp with rfl | hp
              · exact hDC
              · exact (off3 p hp).2.1
        refine wpAny_mono (hiter i _ ys I oI H2.objs.size oC s₂.heap.objs.size _ h₃ _ _ hv hoC (by simp) F₃ N₃ off₀ ⟨hCI, hDI, Ne.symm hDC⟩) (fun xv s₄ h₄ => ?_) fun _ _ e => e
        obtain ⟨H₄, tk₄, news₄, rfl, F₄, N₄, off₄, _, rfl, rfl⟩ := h₄
        have N₄' : News h₀ L H₄ news₄ := fun p hp => N₄ p (.tail _ (.tail _ (.tail _ hp)))
        have hst₄ : H₄.IsListIter I ax (i + 1) ∧ H₄.IsList ax vs.toArray := list_st (h₀ := h₀) (L := L) _ _ _ _ _ hst₃ heI (N₄ _ (.head _)).1 F₄.keep N₄' S
        refine pyIter_strX fun oS St Wi hIo hSt sti hof => ?_
        have upS : ∀ b o, H₄.get? b = some o → (H₄.push oS).get? b = some o := fun b o e => Heap.get?_push_of_some _ e
        have lt4 : ∀ {b o}, H₄.get? b = some o → b ≠ H₄.objs.size := fun e => Nat.ne_of_lt (Heap.lt_size e)
        refine codeAny_mono (inner_N (L := L) (m := m) (h₀ := h₀) (nw := (I, oI) :: news₄) (ys₀ := ys) (RE := fun e s₅ => cameBackBy (model prog w) A (compEnvC scope cl H2.objs.size env) (notedBy (model prog w) A (compEnvC scope cl H2.objs.size env) fun e s' => compPost (model prog w) A E none Q (.ref s₂.heap.objs.size) H2.objs.size (.error e) s') e s₅) (s := { s₂ with heap := H₄.push oS, toks := tk₄ }) (J i y) (Wi A hh) hIo hSt sti hkind hx2 (F₄.keeps upS) ((hoC.ns (N₄ _ (.tail _ (.head _))).1).keeps upS) (fun p hp => ?_) ?_ ⟨?_, ?_, Ne.symm hDC⟩ hCL hC₀ hDL hD₀ ?_ (next_is_new F₄) (hJ0 i y ys hy hK')
          (fun k ys => hlen i y k ys hlt) ?_) fun r s₅ hr => ?_
        · have z : (p ∈ (I, oI) :: (H2.objs.size, oC) :: (s₂.heap.objs.size, lst ys) :: news₄) := by
            rcases List.mem_cons.mp hp with rfl | hp
            · exact .tail _ (.tail _ (.head _))
            rcases List.mem_cons.mp hp with rfl | hp
            · exact .head _
            · exact .tail _ (.tail _ (.tail _ hp))
          exact ⟨upS _ _ (N₄ p z).1, (N₄ p z).2⟩
        · refine ⟨⟨lt4 (N₄ _ (.head _)).1, hCI, hDI⟩, Off3.of fun p hp => ⟨lt4 (N₄' p hp).1, (off3 p hp).2⟩⟩
        · exact Ne.symm (lt4 (N₄ _ (.tail _ (.head _))).1)
        · exact Ne.symm (lt4 (N₄ _ (.tail _ (.tail _ (.head _)))).1)
        · exact Nat.ne_of_lt F₄.ns.lt
        · intro k c u ys' oI2 oC' m₂ h tk' E' hc hJ' hC' hx F N
          refine step i y k c u ys' _ oI2 I oI _ oC' _ m₂ h tk' E' hy hc hJ' hC' hx F N ?_
          exact ⟨⟨lt4 (N₄ _ (.head _)).1, hCI, hDI⟩, Off3.of fun p hp => ⟨lt4 (N₄' p hp).1, (off3 p hp).2⟩⟩
        · cases r with
          | ok f =>
            obtain ⟨h₅, tk₅, ys₅, m₅, rfl, F₅, hn₅, N₅, hJ₅⟩ := hr
            have N₅' : News h₀ L h₅ news₄ := fun p hp => N₅ p (.tail _ (.tail _ hp))
            refine ⟨ls.length + 1 - (i + 1), by omega, h₅, tk₅, i + 1, ys₅, m₅, rfl, hlt, rfl, list_st (h₀ := h₀) (L := L) _ _ _ _ _ hst₄ (N₄ _ (.head _)).1 (N₅ _ (.tail _ (.head _))).1 F₅.keep N₅' S, F₅, hn₅, fun p hp => ?_, hJK i y ys₅ hy hJ₅⟩
            rcases List.mem_cons.mp hp with rfl | hp
            · exact N₅ _ (.head _)
            · exact N₅' p hp
          | error e => exact hr
      · obtain rfl : i = ls.length := Nat.le_antisymm hi (Nat.not_lt.mp hlt)
        refine W.done _ _ _ (by simpa [lsz] using hst') fun h₂ tk₂ hk₂ => ?_
        refine ⟨_, hn'.at' fun o e => hk₂ _ o (by simpa using Ne.symm hCI) e, fun h'' hs'' => ?_⟩
        have N₂ : News h₀ L h₂ ((s₂.heap.objs.size, lst ys) :: news) := news_but N' hk₂ fun p hp => by
          rcases List.mem_cons.mp hp with rfl | hp
          · exact Ne.symm hDI
          · exact (off3 p hp).1
        refine fin ys hK' _ h'' tk₂ ((fr_but F' hk₂ hIL hI₀).change hs'' hCL hC₀) (fun p hp => ?_) off₀.one
        refine ⟨hs''.extBut _ _ ?_ (N₂ p hp).1, (N₂ p hp).2⟩
        rcases List.mem_cons.mp hp with rfl | hp
        · exact hDC
        · exact (off3 p hp).2.1
    · rcases List.mem_cons.mp hp with rfl | hp
      · exact ⟨hacc, hDL, hD₀⟩
      · exact ⟨old _ _ (N2 p hp).1, (N2 p hp).2⟩
  exact codeAny_compStart_list (loop _ rfl) (W.self 0 _ _ _ (W.frame _ _ _ hst fun b _ o e => old b o e) (loop _ rfl))
end
end Mine
end

section
open PySem PySem.W PyProof.Rows
set_option Elab.async false
set_option linter.all false
set_option maxRecDepth 100000
set_option maxHeartbeats 2000000
namespace Mine
theorem setNest20 : True := by
  w_top off
  k_with_none
  trivial
open PySem.Calls LCg LCt
/-- a text without a sign beyond ASCII -/
def Clear (y : Str) : Prop := ∀ c ∈ y.cps, c ≤ 127
def ClearTo (ls : List Str) (i : Nat) : Prop := ∀ j z, j < i → ls[j]? = some z → Clear z
def ClearAt (y : Str) (k : Nat) : Prop := ∀ j c, j < k → y.cps[j]? = some c → c ≤ 127
def KC (ls : List Str) (i : Nat) (ys : List Value) : Prop := (ys = [] ↔ ClearTo ls i) ∧ ys.length ≤ i * 1000
def JC (ls : List Str) (i : Nat) (y : Str) (k : Nat) (ys : List Value) : Prop := (ys = [] ↔ (ClearTo ls i ∧ ClearAt y k)) ∧ ys.length ≤ i * 1000 + k ∧ k ≤ 1000
theorem clearAt_succ {y : Str} {k c : Nat} (hc : y.cps[k]? = some c) : ClearAt y (k + 1) ↔ ClearAt y k ∧ c ≤ 127 := by
  constructor
  · exact fun h => ⟨fun j d hj e => h j d (Nat.lt_succ_of_lt hj) e, h k c (Nat.lt_succ_self _) hc⟩
  · rintro ⟨h1, h2⟩ j d hj e
    rcases Nat.lt_succ_iff_lt_or_eq.mp hj with h | h
    · exact h1 j d h e
    · subst h; rw [hc] at e; cases e; exact h2
theorem clearAt_all {y : Str} : ClearAt y y.cps.size ↔ Clear y := by
  constructor
  · intro h c hc
    obtain ⟨j, hj, rfl⟩ := Array.mem_iff_getElem.mp hc
    exact h j _ hj (by simp [hj])
  · exact fun h j c _ e => h c (Array.mem_of_getElem? e)
theorem clearTo_succ {ls : List Str} {i : Nat} {y : Str} (hy : ls[i]? = some y) : ClearTo ls (i + 1) ↔ ClearTo ls i ∧ Clear y := by
  constructor
  · exact fun h => ⟨fun j d hj e => h j d (Nat.lt_succ_of_lt hj) e, h i y (Nat.lt_succ_self _) hy⟩
  · rintro ⟨h1, h2⟩ j d hj e
    rcases Nat.lt_succ_iff_lt_or_eq.mp hj with h | h
    · exact h1 j d h e
    · subst h; rw [hy] at e; cases e; exact h2
theorem clearTo_all {ls : List Str} : ClearTo ls ls.length ↔ ∀ y ∈ ls, Clear y := by
  constructor
  · intro h y hy
    obtain ⟨j, hj, rfl⟩ := List.mem_iff_getElem.mp hy
    exact h j _ hj (by simp [hj])
  · exact fun h j y _ e => h y (List.mem_of_getElem? e)
theorem JC.no {ls : List Str} {i k c : Nat} {y : Str} {ys : List Value} (h : JC ls i y k ys) (hc : y.cps[k]? = some c) (hk : k < 1000) (le : c ≤ 127) : JC ls i y (k + 1) ys := by
  obtain ⟨h1, h2, h3⟩ := h
  refine ⟨?_, by omega, by omega⟩
  rw [clearAt_succ hc, h1]
  exact ⟨fun ⟨a, b⟩ => ⟨a, b, le⟩, fun ⟨a, b, _⟩ => ⟨a, b⟩⟩
theorem JC.yes {ls : List Str} {i k c : Nat} {y : Str} {ys : List Value} {v : Value} (h : JC ls i y k ys) (hc : y.cps[k]? = some c) (hk : k < 1000) (gt : 127 < c) : JC ls i y (k + 1) (ys ++ [v]) := by
  obtain ⟨h1, h2, h3⟩ := h
  refine ⟨?_, by rw [List.length_append, List.length_singleton]; omega, by omega⟩
  rw [clearAt_succ hc]
  exact ⟨fun e => by simp at e, fun ⟨_, _, b⟩ => absurd b (by omega)⟩
section
variable {prog : Program} {w : World} {A : Around} {E : Value → Shared → Prop} {s : Shared} {h₀ : Heap} {L : Addr} {m : Str → Option Value} {env : Env}
structure SrcN (prog : Program) (w : World) (A : Around) (h₀ : Heap) (L : Addr) (m : Str → Option Value) (env : Env) (iter2 ct elt : Expr) (x1 x2 : Str) (scope : Scope) (cl : List (Str × Addr)) (Q : Value → Shared → Prop) (xv : Value) (s₁ : Shared) : Prop where
  at_ : ∃ ax vs k ls news, xv = .ref ax ∧ A.handled = none ∧ Fr h₀ L s₁.heap m ∧ News h₀ L s₁.heap news ∧ (ax, ({ cls := .type "list", data := .seq vs.toArray k } : Obj)) ∈ news ∧ StrsAre vs ls ∧ ls.length ≤ 1000 ∧
      ∀ s₂ : Shared, (∃ h, s₂ = { s₁ with heap := h }) → RestN prog w A h₀ L m env iter2 ct elt x1 x2 scope cl Q vs ls news s₂
theorem ListComp_NC {ct elt iter iter2 : Expr} {x1 x2 : Str} {px1 px2 : Pos} {scope : Scope} {cl : List (Str × Addr)} {pos : Pos} {Q : Value → Shared → Prop} (F₀ : Fr h₀ L s.heap m)
    (hclos : closureFor scope env = pure cl) (hcell : ∀ y ∈ scope.names, y.2 ≠ .cell) (hkind : scope.kind = .function)
    (hnames : ∀ y ∈ scope.names, y.2 = .local → scope.names.lookup y.1 = some .local) (hx1 : scope.names.lookup x1 = some .local) (hx2 : scope.names.lookup x2 = some .local)
    (h : wpAny (model prog w) A (eval iter env) (SrcN prog w A h₀ L m env iter2 ct elt x1 x2 scope cl Q) E s)
    (hs : ∀ x, foldedSetIterable iter env x = pure x := by intro _; rfl) (hs2 : ∀ env x, foldedSetIterable iter2 env x = pure x := by intro _ _; rfl) :
    wpAny (model prog w) A (eval (.ListComp elt [⟨.Name x1 px1, iter, [], 0⟩, ⟨.Name x2 px2, iter2, [ct], 0⟩] scope pos) env) Q E s :=
  ListComp_N F₀ hclos hcell hkind hnames hx1 hx2 (wpAny_mono h (fun _ _ z => z.at_) fun _ _ z => z) hs hs2
theorem SrcN.clear {ct elt iter2 : Expr} {x1 x2 : Str} {scope : Scope} {cl : List (Str × Addr)} {Q : Value → Shared → Prop} {ax : Addr} {vs : List Value} {k : Nat} {ls : List Str} {news : List (Addr × Obj)} {s₁ : Shared}
    (hh : A.handled = none) (F : Fr h₀ L s₁.heap m) (N : News h₀ L s₁.heap news) (hm : (ax, W.listOf vs.toArray k) ∈ news) (sa : StrsAre vs ls) (hls : ls.length ≤ 900) (hlong : ∀ y ∈ ls, y.cps.size ≤ 1000)
    (hiter : ∀ (g : Heap) (v : Value) (ys : List Value) (I : Addr) (oI : Obj) (C : Addr) (oC : Obj) (D : Addr) (m₂ : Str → Option Value) (h : Heap) (tk : Nat) (E' : Value → Shared → Prop), NsObj oC m₂ → m₂ x1 = some v → Fr h₀ L h m → News h₀ L h ((I, oI) :: (C, oC) :: (D, lst ys) :: news) → Off3 I C D news →
      wpAny (model prog w) A (eval iter2 (compEnvC scope cl C env)) (fun xv s' => CompEnd h₀ L m { s₁ with heap := h, toks := tk } I oI C oC D (lst ys) (fun _ => True) (fun u nw => nw = news ∧ u = v) xv s') E' { s₁ with heap := h, toks := tk })
    (step : ∀ (g : Heap) (c : Nat) (u : Tok) (ys : List Value) (I2 : Addr) (oI2 : Obj) (I : Addr) (oI : Obj) (C : Addr) (oC : Obj) (D : Addr) (m₂ : Str → Option Value) (h : Heap) (tk : Nat) (E' : Value → Shared → Prop), NsObj oC m₂ → m₂ x2 = some (.str ⟨#[c]⟩ u) → Fr h₀ L h m → News h₀ L h ((I2, oI2) :: (C, oC) :: (D, lst ys) :: (I, oI) :: news) → Off3 I2 C D ((I, oI) :: news) →
      wpAny (model prog w) A (isTrue ct (compEnvC scope cl C env) (eval ct (compEnvC scope cl C env))) (fun ok s' => if ok = true then
        wpAny (model prog w) A (eval elt (compEnvC scope cl C env)) (CompEnd h₀ L m { s₁ with heap := h, toks := tk } I2 oI2 C oC D (lst ys) (fun _ => True) (fun v nw' => nw' = (I, oI) :: news ∧ 127 < c)) E' s'
        else CompEnd h₀ L m { s₁ with heap := h, toks := tk } I2 oI2 C oC D (lst ys) (fun _ => True) (fun _ nw' => nw' = (I, oI) :: news ∧ c ≤ 127) Value.none s') E' { s₁ with heap := h, toks := tk })
    (fin : ∀ ys (g : Heap), (ys = [] ↔ ∀ y ∈ ls, Clear y) → FinE h₀ L m { s₁ with heap := g } Q ys news) :
    SrcN prog w A h₀ L m env iter2 ct elt x1 x2 scope cl Q (.ref ax) s₁ := by
  refine ⟨ax, vs, k, ls, news, rfl, hh, F, N, hm, sa, by omega, ?_⟩
  rintro s₂ ⟨g, rfl⟩
  have big : ∀ {i : Nat} {y : Str}, ls[i]? = some y → y.cps.size ≤ 1000 := fun e => hlong _ (List.mem_of_getElem? e)
  refine ⟨KC ls, JC ls, ⟨⟨fun _ j z hj => absurd hj (Nat.not_lt_zero _), fun _ => rfl⟩, Nat.zero_le _⟩, ?_, ?_, ?_, ?_, ?_, ?_⟩
  · intro i y ys hy ⟨h1, h2⟩
    exact ⟨h1.trans ⟨fun a => ⟨a, fun j c hj => absurd hj (Nat.not_lt_zero _)⟩, fun a => a.1⟩, h2, Nat.zero_le _⟩
  · intro i y ys hy ⟨h1, h2, h3⟩
    refine ⟨?_, by have := big hy; omega⟩
    rw [clearTo_succ hy, ← clearAt_all, h1]
  · intro i y k ys hi ⟨_, h2, h3⟩
    have : i * 1000 ≤ 899 * 1000 := Nat.mul_le_mul_right _ (by omega)
    omega
  · exact fun i v ys I oI C oC D m₂ h tk E' hv hC hx F N off ne => hiter g v ys I oI C oC D m₂ h tk E' hC hx F N off
  · intro i y k c u ys I2 oI2 I oI C oC D m₂ h tk E' hy hc hJ hC hx F N off
    have hk : k < 1000 := by
      have := big hy
      obtain ⟨z, _⟩ := Array.getElem?_eq_some_iff.mp hc
      omega
    refine wpAny_mono (step g c u ys I2 oI2 I oI C oC D m₂ h tk E' hC hx F N off) (fun ok s' z => ?_) fun _ _ z => z
    cases ok with
    | true =>
      simp only [if_true] at z ⊢
      exact wpAny_mono z (fun y' s'' q => end_mono q fun nw r => ⟨r.1, hJ.yes hc hk r.2⟩) fun _ _ z => z
    | false =>
      simp only [Bool.false_eq_true, if_false] at z ⊢
      exact end_mono z fun nw r => ⟨r.1, hJ.no hc hk r.2⟩
  · intro ys ⟨h1, _⟩
    exact fin ys g (h1.trans clearTo_all)
end
end Mine
end

section
open PySem PySem.W PyProof.Rows
set_option Elab.async false
set_option linter.all false
set_option maxRecDepth 100000
set_option maxHeartbeats 2000000
namespace Mine
theorem setRowF0 : True := by
  w_top off
  k_with_none
  trivial
/-- a text's octets -/
noncomputable def signsOf (y : Str) : List Int := y.cps.toList.map fun c : Nat => (c : Int)
noncomputable def rowOf (y : Str) : Array UInt8 := ((signsOf y).map fun n => n.toNat.toUInt8).toArray
theorem ints_snoc_ {vs : List Value} {ns : List Int} {n : Int} {u : Tok} (h : IntsAre vs ns) : IntsAre (vs ++ [.int n u]) (ns ++ [n]) := by
  induction h with
  | nil => exact .cons _ _ .nil
  | cons a b r ih => exact .cons _ _ ih
theorem ints_snoc {y : Str} {vs : List Value} {i c : Nat} {u : Tok} (h : IntsAre vs ((y.cps.toList.take i).map fun c : Nat => (c : Int))) (hc : y.cps[i]? = some c) : IntsAre (vs ++ [.int (c : Int) u]) ((y.cps.toList.take (i + 1)).map fun c : Nat => (c : Int)) := by
  rw [take_snoc (l := y.cps.toList) (by simpa using hc), List.map_append]
  exact ints_snoc_ h
theorem ints_all {y : Str} {ys : List Value} (h : IntsAre ys ((y.cps.toList.take y.cps.size).map fun c : Nat => (c : Int))) : IntsAre ys (signsOf y) := by
  rw [show y.cps.size = y.cps.toList.length from rfl, List.take_length] at h
  exact h
theorem signs_small {y : Str} (hok : ∀ c ∈ y.cps, c ≤ 127) : ∀ n ∈ signsOf y, 0 ≤ n ∧ n < 256 := fun n hn => by
  obtain ⟨c, hc, rfl⟩ := List.mem_map.mp hn
  have := hok c (by simpa using hc)
  omega
theorem signs_len {y : Str} {ys : List Value} (hI : IntsAre ys (signsOf y)) (hy : y.cps.size ≤ 1000) : ys.length ≤ sizeLine := by
  rw [hI.length, sizeLine_eq, signsOf, List.length_map]
  show y.cps.size ≤ _
  omega
theorem off1_mem {D : Addr} : ∀ {l : List (Addr × Obj)}, LCg.Off1 D l → ∀ p ∈ l, p.1 ≠ D
  | [], _, _, h => nomatch h
  | _ :: _, x, p, h => by
    rcases List.mem_cons.mp h with rfl | h
    · exact x.1
    · exact off1_mem x.2 p h
theorem first_bad {ls : List Str} (h : ¬ ∀ y ∈ ls, Clear y) : ∃ (k : Nat) (y : Str), ls[k]? = some y ∧ ¬ Clear y ∧ ∀ (j : Nat) (z : Str), j < k → ls[j]? = some z → Clear z := by
  induction ls with
  | nil => exact absurd (fun _ h => nomatch h) h
  | cons a r ih =>
    by_cases ha : Clear a
    · have hr : ¬ ∀ y ∈ r, Clear y := fun q => h fun y hy => (List.mem_cons.mp hy).elim (fun e => e ▸ ha) (q y)
      obtain ⟨k, y, h1, h2, h3⟩ := ih hr
      refine ⟨k + 1, y, by simpa using h1, h2, fun j z hj hz => ?_⟩
      cases j with
      | zero => have : a = z := by simpa using hz
                exact this ▸ ha
      | succ j => exact h3 j z (by omega) (by simpa using hz)
    · exact ⟨0, a, rfl, ha, fun j _ hj => absurd hj (Nat.not_lt_zero _)⟩
/-- values that are the rows of texts -/
inductive RowsAre : List Value → List Str → Prop
  | nil : RowsAre [] []
  | cons (y : Str) (t : Tok) {vs : List Value} {ls : List Str} : RowsAre vs ls → RowsAre (.bytes (rowOf y) t :: vs) (y :: ls)
theorem rows_snoc {y : Str} {t : Tok} : ∀ {vs : List Value} {ls : List Str}, RowsAre vs ls → RowsAre (vs ++ [.bytes (rowOf y) t]) (ls ++ [y])
  | _, _, .nil => .cons y t .nil
  | _, _, .cons z u r => .cons z u (rows_snoc r)
theorem rows_next {ls : List Str} {vs : List Value} {i : Nat} {y : Str} {t : Tok} (h : RowsAre vs (ls.take i)) (hy : ls[i]? = some y) : RowsAre (vs ++ [.bytes (rowOf y) t]) (ls.take (i + 1)) := by
  rw [take_snoc hy]; exact rows_snoc h
theorem rows_len : ∀ {vs : List Value} {ls : List Str}, RowsAre vs ls → vs.length = ls.length
  | _, _, .nil => rfl
  | _, _, .cons _ _ r => congrArg (· + 1) (rows_len r)
theorem rows_same {h : Heap} : ∀ {vs us : List Value} {ls : List Str}, RowsAre vs ls → RowsAre us ls → SameL h 0 vs us
  | _, _, _, .nil, .nil => .nil
  | _, _, _, .cons _ _ r, .cons _ _ r' => .cons same_bytes (rows_same r r')
theorem strs_same {h : Heap} : ∀ {vs us : List Value} {ls : List Str}, StrsAre vs ls → StrsAre us ls → SameL h 0 vs us
  | _, _, _, .nil, .nil => .nil
  | _, _, _, .cons _ _ r, .cons _ _ r' => .cons same_str (strs_same r r')
end Mine
end

section
open PySem PySem.W PyProof.Rows
set_option Elab.async false
set_option linter.all false
set_option maxRecDepth 100000
set_option maxHeartbeats 0
set_option pp.maxSteps 20000
namespace Mine
local macro_rules | `(tactic| size_fits) => `(tactic| (rw [sizeLine_eq]; (try simp only [List.size_toArray]); omega))
theorem setLaid0 : True := by
  w_top off
  k_with_none
  k_with "rest1" => (refine' rest_ne1 ?zh ?zs; (case zh => with_reducible assumption); (case zs => k_extra "sub"))
  k_with "rest2" => (rename (∀ p ∈ (_ : List (Addr × Obj)), p.1 < _) => zzR; first | (refine' rest_ne2 zzR ?zs ?zl; (case zs => k_extra "sub"); (case zl => first | exact Nat.le_refl _ | exact Nat.le_succ _ | ((try dsimp only); omega))) | (clear zzR; k_extra "rest2"))
  k_with "rest" => (first | assumption | k_extra "rest1" | k_extra "rest2")
  k_with "sub" => (first | exact List.forall_mem_nil _ | (refine List.forall_mem_cons.mpr ⟨by k_mem, ?_⟩; k_extra "sub") | (intro p hp; (repeat (first | exact hp | refine List.Mem.tail _ ?_)); done))
  k_with "sub" => (intro p hp; (repeat (first | with_reducible exact hp | refine List.Mem.tail _ ?_)); done)
  k_with "nl" => (first | exact Nat.ne_of_lt zz1.1 | exact Nat.ne_of_gt zz1.1 | (replace zz1 := zz1.2; k_extra "nl"))
  k_with "ne" => (refine neN ?_; (try dsimp only); (repeat (rename (@Ne Nat _ _) => zz; clear zz)); omega)
  k_with "ne" => (refine neN ?_; (try dsimp only); (rename (@LT.lt Nat _ _ _ ∧ _) => zz1); first | k_extra "nl" | (clear zz1; (rename (@LT.lt Nat _ _ _ ∧ _) => zz1); first | k_extra "nl" | (clear zz1; (rename (@LT.lt Nat _ _ _ ∧ _) => zz1); k_extra "nl")))
  k_with "ne" => (refine neN ?_; (try dsimp only); first | assumption | (refine Ne.symm ?_; assumption))
  k_with "all" => (first | assumption | k_extra "rest")
  k_with "ite" => (refine Stop.out ?_)
  k_with "ite" => ((first | (k_closed; first | refine ite_pos (by decide +kernel) ?_ | refine ite_neg (by decide +kernel) ?_) | refine ite_pos (by assumption) ?_ | refine ite_neg (by assumption) ?_))
  k_with "setItem ref str" => ((k_here; k_dflt (refine' kda_set (knd := PySem.strKind _ _) ?F ?N ?U ?d (strKind_is _ _ _ _) ?z ?_; (case F => k_asm); (case N => k_asm); (case U => k_updF); (case d => k_asm); (case z => rw [sizeLine_eq]; first | exact Nat.le_of_ble_eq_true (by with_unfolding_all rfl) | omega)); intro h' o' F' N' hd'; (try simp only [st_source, st_library, st_rows, st_files, st_gathering, st_lines] at hd'); (try dsimp only at N')))
  k_with "call builtin:str.join" => ((k_here; k_dflt (refine join_listW (News.isList (by k_asm) (by k_mem)) (show StrsAre _ _ from by assumption) (by decide +kernel) (by assumption) ?_); intro _ _))
  k_with "call type:tuple" => ((k_here; (with_reducible show wpAny _ _ (call (Value.type _) [Value.ref _]) _ _ _); k_dflt (refine' kde_tupleOf ?k1 ?k2 ?k3 ?k4 ?k5 ?_; (case k1 => k_asm); (case k2 => k_asm); (case k3 => first | exact News.isList (by k_asm) (by k_mem)); (case k4 => first | exact Nat.le_of_ble_eq_true rfl | (simp only [List.size_toArray]; omega)); (case k5 => first | kun_lit | exact rfl); k_whole); intro D' h' F' N' l1; (try k_lt l1); (try k_sweep)))
  k_with "call type:bytes" => ((k_here; k_dflt (refine' bytes_K ?F ?N ?l ?i ?r ?z ?h ?_; (case F => k_asm); (case N => k_asm); (case l => exact News.isList (by k_asm) (by k_mem)); (case i => assumption); (case r => assumption); (case z => assumption); (case h => exact rfl)); intro h' t' k' F' N' ab'))
  k_with "eval ListComp" => ((k_here; (with_reducible show wpAny _ _ (eval (PySem.Expr.ListComp _ [⟨_, _, [], _⟩] _ _) _) _ _ _); k_dflt (refine ListComp_SU (F₀ := by k_asm) (by with_unfolding_all rfl) (by decide) (by rfl) (by decide) (by rfl) ?_)))
  k_with "SrcSU" => ((k_here; k_dflt (refine SrcSU.intro (by rfl) (by k_asm) (by k_asm) ?_ ?_)))
  k_with "eval ListComp" => ((k_here; (with_reducible show wpAny _ _ (eval (PySem.Expr.ListComp (PySem.Expr.Call _ [PySem.Expr.ListComp _ _ _ _] _ _) [⟨_, _, [], _⟩] _ _) _) _ _ _); k_dflt (refine LCg.ListComp_U (F₀ := by k_asm) (by with_unfolding_all rfl) (by decide) (by rfl) (by decide) (by rfl) ?_)))
  k_with "CompSrc" => ((k_here; k_dflt (refine LCg.CompSrc.ledger (by rfl) (by k_asm) (by k_asm) (by k_mem) ?_ ?_)))
  k_with "eval ListComp" => ((k_here; (with_reducible show wpAny _ _ (eval (PySem.Expr.ListComp _ [_, _] _ _) _) _ _ _); k_dflt (refine ListComp_NC (F₀ := by k_asm) (by with_unfolding_all rfl) (by decide) (by rfl) (by decide) (by rfl) (by rfl) ?_)))
  k_with "compareOp NotEq ref ref" => ((k_here; (dsimp only); refine Stop.out ?_))
  k_with "call builtin:str.upper" => ((k_here; (refine SCL.upper (by omega) ?_); intro _))
  trivial
theorem laid_all (w : World) (mean : ExcName → Option Value) (mg mb : Str → Option Value) (base : Heap) (env1 : Env)
  (st sl sr sf sg sli : Addr) (ost osl osf : Obj) (src g1 g2 : Str) (tsrc tg1 tg2 : Tok) (ng nl : Nat) (vs : List Value) (lines : List Str) (rest : List (Addr × Obj)) (hvs : StrsAre vs lines) (hlen : lines.length ≤ 900) (hw : (lines.map (·.length)).sum + lines.length ≤ 1048576) (hlong : ∀ y ∈ lines, y.cps.size ≤ 1000) (h2 : g2.length ≤ 100)
  (kl kf : List (Str × Value)) (hosl : osl.IsDictOf (SK w) kl) (losl : (sl == sysModules) = false) (hkl : kl.length ≤ 100) (hosf : osf.IsDictOf (SK w) kf) (losf : (sf == sysModules) = false) (hkf : kf.length ≤ 100)
  (hst : ost.IsDictOf (SK w) [(Str.ofString "source", .str src tsrc), (Str.ofString "library", .ref sl), (Str.ofString "rows", .ref sr), (Str.ofString "files", .ref sf), (Str.ofString "gathering", .ref sg), (Str.ofString "lines", .ref sli)])
  (o1 : ∀ p ∈ rest, p.1 ≠ st) (o2 : ∀ p ∈ rest, p.1 ≠ sl) (o3 : ∀ p ∈ rest, p.1 ≠ sf) (n1 : @Ne Nat st sl) (n2 : @Ne Nat st sf) (n3 : @Ne Nat sl sf) (z2 : (sg, tupOf #[.str g1 tg1, .str g2 tg2] ng) ∈ rest) (z3 : (sli, W.listOf vs.toArray nl) ∈ rest) (lost : (st == sysModules) = false)
  (P : Bool → List (Addr × Obj) → Prop)
  (p_source : g1 = Str.ofString "source" → ∀ ost' G l u u1 u2, ost'.IsDictOf (SK w) [(Str.ofString "source", .str (Txt.join (Str.ofString "\n") lines) u), (Str.ofString "library", .ref sl), (Str.ofString "rows", .ref sr), (Str.ofString "files", .ref sf), (Str.ofString "gathering", .ref G), (Str.ofString "lines", .ref l)] → (∀ p ∈ rest, p.1 ≠ G) → (∀ p ∈ rest, p.1 ≠ l) → (@Ne Nat st G) → (@Ne Nat st l) → (@Ne Nat G l) → (@Ne Nat sl G) → (@Ne Nat sl l) → (@Ne Nat sf G) → (@Ne Nat sf l) → P true ((st, ost') :: (G, tupOf #[.str (Str.ofString "") u1, .str (Str.ofString "") u2] 0) :: (l, W.listOf #[] 0) :: (sl, osl) :: (sf, osf) :: rest))
  (p_library : g1 = Str.ofString "library" → ∀ ost' osl' G l u u1 u2, ost'.IsDictOf (SK w) [(Str.ofString "source", .str src tsrc), (Str.ofString "library", .ref sl), (Str.ofString "rows", .ref sr), (Str.ofString "files", .ref sf), (Str.ofString "gathering", .ref G), (Str.ofString "lines", .ref l)] → osl'.IsDictOf (SK w) (stored kl ⟨placed g2 fun _ c => Unicode.upperOf c⟩ (.str (Txt.join (Str.ofString "\n") lines) u)) → (∀ p ∈ rest, p.1 ≠ G) → (∀ p ∈ rest, p.1 ≠ l) → (@Ne Nat st G) → (@Ne Nat st l) → (@Ne Nat G l) → (@Ne Nat sl G) → (@Ne Nat sl l) → (@Ne Nat sf G) → (@Ne Nat sf l) → P true ((st, ost') :: (G, tupOf #[.str (Str.ofString "") u1, .str (Str.ofString "") u2] 0) :: (l, W.listOf #[] 0) :: (sl, osl') :: (sf, osf) :: rest))
  (p_bad : g1 ≠ Str.ofString "source" → g1 ≠ Str.ofString "library" → (¬ ∀ y ∈ lines, Clear y) → ∀ ost' G l u1 u2, ost'.IsDictOf (SK w) [(Str.ofString "source", .str src tsrc), (Str.ofString "library", .ref sl), (Str.ofString "rows", .ref sr), (Str.ofString "files", .ref sf), (Str.ofString "gathering", .ref G), (Str.ofString "lines", .ref l)] → (∀ p ∈ rest, p.1 ≠ G) → (∀ p ∈ rest, p.1 ≠ l) → (@Ne Nat st G) → (@Ne Nat st l) → (@Ne Nat G l) → (@Ne Nat sl G) → (@Ne Nat sl l) → (@Ne Nat sf G) → (@Ne Nat sf l) → P false ((st, ost') :: (G, tupOf #[.str (Str.ofString "") u1, .str (Str.ofString "") u2] 0) :: (l, W.listOf #[] 0) :: (sl, osl) :: (sf, osf) :: rest))
  (p_rows : g1 = Str.ofString "rows" → (∀ y ∈ lines, Clear y) → ∀ ost' G l R n rs u1 u2, ost'.IsDictOf (SK w) [(Str.ofString "source", .str src tsrc), (Str.ofString "library", .ref sl), (Str.ofString "rows", .ref R), (Str.ofString "files", .ref sf), (Str.ofString "gathering", .ref G), (Str.ofString "lines", .ref l)] → RowsAre rs lines → (∀ p ∈ rest, p.1 ≠ G) → (∀ p ∈ rest, p.1 ≠ l) → (@Ne Nat st G) → (@Ne Nat st l) → (@Ne Nat G l) → (@Ne Nat sl G) → (@Ne Nat sl l) → (@Ne Nat sf G) → (@Ne Nat sf l) → (∀ p ∈ rest, p.1 ≠ R) → (@Ne Nat st R) → (@Ne Nat sl R) → (@Ne Nat sf R) → (@Ne Nat G R) → (@Ne Nat l R) → P true ((st, ost') :: (G, tupOf #[.str (Str.ofString "") u1, .str (Str.ofString "") u2] 0) :: (l, W.listOf #[] 0) :: (R, W.listOf rs.toArray n) :: (sl, osl) :: (sf, osf) :: rest))
  (p_file : g1 ≠ Str.ofString "source" → g1 ≠ Str.ofString "library" → g1 ≠ Str.ofString "rows" → (∀ y ∈ lines, Clear y) → ∀ ost' osf' G l R rs u1 u2, ost'.IsDictOf (SK w) [(Str.ofString "source", .str src tsrc), (Str.ofString "library", .ref sl), (Str.ofString "rows", .ref sr), (Str.ofString "files", .ref sf), (Str.ofString "gathering", .ref G), (Str.ofString "lines", .ref l)] → osf'.IsDictOf (SK w) (stored kf g2 (.ref R)) → RowsAre rs lines → (∀ p ∈ rest, p.1 ≠ G) → (∀ p ∈ rest, p.1 ≠ l) → (@Ne Nat st G) → (@Ne Nat st l) → (@Ne Nat G l) → (@Ne Nat sl G) → (@Ne Nat sl l) → (@Ne Nat sf G) → (@Ne Nat sf l) → (∀ p ∈ rest, p.1 ≠ R) → (@Ne Nat st R) → (@Ne Nat sl R) → (@Ne Nat sf R) → (@Ne Nat G R) → (@Ne Nat l R) → P true ((st, ost') :: (G, tupOf #[.str (Str.ofString "") u1, .str (Str.ofString "") u2] 0) :: (l, W.listOf #[] 0) :: (R, tupOf rs.toArray 0) :: (sl, osl) :: (sf, osf') :: rest))
  : LaidSpec w mean mg mb base env1 st ((st, ost) :: (sl, osl) :: (sf, osf) :: rest) P := by
  intro env2 env3 A₀ h₀ L m s Q E B F KX N T hk hf hret
  have q1 : @Ne Nat sg st := o1 _ z2
  have q2 : @Ne Nat sli st := o1 _ z3
  have q3 : @Ne Nat sg sl := o2 _ z2
  have q4 : @Ne Nat sli sl := o2 _ z3
  have q5 : @Ne Nat sg sf := o3 _ z2
  have q6 : @Ne Nat sli sf := o3 _ z3
  replace N := news_up (tail_of (tail_of (tail_of N))) z2 (news_up (tail_of (tail_of (tail_of N))) z3 N)
  revert KX; k_fill; intro KX
  refine wpAny_call ?_
  k_dflt (refine' code_def ?k1 ?k2 ?k3 ?k4 ?k5 ?kA ?kF ?kK ?k6 ?k7 ?k8 ?k9 ?kB ?_ ?c2 ?c3 ?c4 ?c5; (case kA => exact rfl); (case kF => exact hf); (case kK => exact hk); (case k1 => exact B); (case k2 => k_asm); (case k3 => k_asm); (case k4 => k_asm); (case k5 => k_asm); (case k6 => k_is); (case k7 => k_is); (case k8 => k_room); (case k9 => exact BindsTo.of_eq rfl); (case c5 => decide); (case kB => exact locs rfl); (case c2 => exact rfl); (case c3 => exact rfl); (case c4 => exact rfl); k_whole; intro g' L' h' FG' F' N' B' X' T'; (try dsimp only); (try k_lift B'); (try k_fold))
  k_steps
  refine ⟨ite_split (fun cS => ?_) (fun cS => ?_)⟩
  · k_steps
    rename News _ _ _ _ => kN
    rename Fr _ _ _ _ => kF
    refine' hret _ _ _ _ (p_source (beq_iff_eq.mp cS) _ _ _ _ _ _ ?i0 ?n0 ?n1 ?n2 ?n3 ?n4 ?n5 ?n6 ?n7 ?n8) kF ?gN
    case i0 => assumption
    case gN => exact (fun p hp => kN p ((by k_extra "sub" : ∀ p ∈ _, p ∈ _) p hp))
    case n0 => k_extra "rest"
    case n1 => k_extra "rest"
    case n2 => k_ne
    case n3 => k_ne
    case n4 => k_ne
    case n5 => k_ne
    case n6 => k_ne
    case n7 => k_ne
    case n8 => k_ne
  · k_steps
    refine ⟨ite_split (fun cB => ?_) (fun cB => ?_)⟩
    · k_steps
      rename News _ _ _ _ => kN
      rename Fr _ _ _ _ => kF
      refine' hret _ _ _ _ (p_library (beq_iff_eq.mp cB) _ _ _ _ _ _ _ ?i0 ?i1 ?n0 ?n1 ?n2 ?n3 ?n4 ?n5 ?n6 ?n7 ?n8) kF ?gN
      case i0 => assumption
      case i1 => assumption
      case gN => exact (fun p hp => kN p ((by k_extra "sub" : ∀ p ∈ _, p ∈ _) p hp))
      case n0 => k_extra "rest"
      case n1 => k_extra "rest"
      case n2 => k_ne
      case n3 => k_ne
      case n4 => k_ne
      case n5 => k_ne
      case n6 => k_ne
      case n7 => k_ne
      case n8 => k_ne
    · k_steps
      refine SrcN.clear (by rfl) (by k_asm) (by k_asm) (by k_mem) (show StrsAre _ _ from by assumption) (by assumption) (by assumption) ?_ ?_ ?_
      · intro g v ys I oI C oC D m₂ h tk E' hC hx F N off
        k_steps
        exact LCg.CompEnd.intro (by assumption) N _ (fun _ z => z) off trivial ⟨rfl, rfl⟩
      · intro g c u ys I2 oI2 I oI C oC D m₂ h tk E' hC hx F N off
        k_steps
        refine ⟨ite_split (fun c1 => ?_) (fun c1 => ?_)⟩
        all_goals k_steps
        · exact LCg.CompEnd.intro (by assumption) N _ (fun _ z => z) off trivial ⟨rfl, by simp only [decide_eq_true_eq] at c1; omega⟩
        · exact LCg.CompEnd.intro (by assumption) N _ (fun _ z => z) off trivial ⟨rfl, by simp only [decide_eq_true_eq] at c1; omega⟩
      intro ys g hys D h tk F N off
      have od := off
      (try simp only [LCg.Off1, and_true] at od)
      (repeat (obtain ⟨_, od⟩ := od))
      (try k_sweep)
      k_steps
      refine ⟨?_⟩
      refine ne_nil_split (by k_asm) (by k_mem) (by k_mem) (by k_units) (fun hy => ?_) (fun hy => ?_)
      · k_steps
        rename News _ _ _ _ => kN
        rename Fr _ _ _ _ => kF
        refine' hret _ _ _ _ (p_bad (fun e => cS (beq_iff_eq.mpr e)) (fun e => cB (beq_iff_eq.mpr e)) (fun e => hy (hys.mpr e)) _ _ _ _ _ ?i0 ?n0 ?n1 ?n2 ?n3 ?n4 ?n5 ?n6 ?n7 ?n8) kF ?gN
        case i0 => assumption
        case gN => exact (fun p hp => kN p ((by k_extra "sub" : ∀ p ∈ _, p ∈ _) p hp))
        case n0 => k_extra "rest"
        case n1 => k_extra "rest"
        case n2 => k_ne
        case n3 => k_ne
        case n4 => k_ne
        case n5 => k_ne
        case n6 => k_ne
        case n7 => k_ne
        case n8 => k_ne
      · subst hy
        have hclear := hys.mp rfl
        k_steps
        · rw [sizeLine_eq, List.size_toArray, strs_len hvs]; omega
        refine rest_ind (fun i ys => RowsAre ys (lines.take i)) ?_ ?_ _ 0 [] (by rw [Nat.zero_add]) .nil
        · intro i v ys I oI C oC D m₂ h tk E' hi hP hG hC hx F N off ne
          obtain ⟨y, t, rfl, hy⟩ := strs_get hvs (by simpa using hP)
          clear hP
          have hym := List.mem_of_getElem? hy
          k_steps
          · rw [sizeLine_eq]; have := hlong _ hym; omega
          · refine rest_ind (fun i ys => IntsAre ys ((y.cps.toList.take i).map fun c : Nat => (c : Int))) ?_ ?_ _ 0 [] (by rw [Nat.zero_add]) .nil
            · intro i2 v2 ys2 I2 oI2 C2 oC2 D2 m2 h2 tk2 E2 hi2 hP2 hG2 hC2 hx2 F2 N2 off2 ne2
              obtain ⟨c, u, hc, rfl⟩ := hP2
              k_steps
              exact LCg.CompEnd.intro (by assumption) N2 _ (fun _ z => z) off2 trivial ⟨rfl, ints_snoc hG2 hc⟩
            · intro ys2 hG2 D2 h2 tk2 F2 N2 off2
              have hI := ints_all hG2
              have hR := signs_small (hclear _ hym)
              have hz := signs_len hI (hlong _ hym)
              clear hG2
              k_steps
              rename News _ _ _ _ => kN
              rename Fr _ _ _ _ => kF
              exact LCg.CompEnd.intro kF kN _ ((by k_extra "sub" : ∀ p ∈ _, p ∈ _)) off (.inr ⟨_, by k_mem, rfl, _, rfl⟩) ⟨rfl, rows_next hG hy⟩
        intro ys2 hG2 D2 h2 tk2 F2 N2 off2
        have hra : RowsAre ys2 lines := by
          have q : RowsAre ys2 (lines.take vs.toArray.size) := hG2
          rw [List.size_toArray, strs_len hvs, List.take_length] at q
          exact q
        have hyl := rows_len hra
        have od2 := off2
        (try simp only [LCg.Off1, and_true] at od2)
        (repeat (obtain ⟨_, od2⟩ := od2))
        clear hG2
        (try k_sweep)
        k_steps
        refine ⟨ite_split (fun cR => ?_) (fun cR => ?_)⟩
        · k_steps
          rename News _ _ _ _ => kN
          rename Fr _ _ _ _ => kF
          refine' hret _ _ _ _ (p_rows (beq_iff_eq.mp cR) hclear _ _ _ _ _ _ _ _ ?i0 ?i1 ?n0 ?n1 ?n2 ?n3 ?n4 ?n5 ?n6 ?n7 ?n8 ?n9 ?n10 ?n11 ?n12 ?n13 ?n14) kF ?gN
          case i0 => assumption
          case i1 => assumption
          case gN => exact (fun p hp => kN p ((by k_extra "sub" : ∀ p ∈ _, p ∈ _) p hp))
          case n0 => k_extra "rest"
          case n1 => k_extra "rest"
          case n2 => k_ne
          case n3 => k_ne
          case n4 => k_ne
          case n5 => k_ne
          case n6 => k_ne
          case n7 => k_ne
          case n8 => k_ne
          case n9 => exact fun p hp => off1_mem off2 p (by repeat (first | exact hp | refine List.Mem.tail _ ?_))
          case n10 => k_ne
          case n11 => k_ne
          case n12 => k_ne
          case n13 => k_ne
          case n14 => k_ne
        · k_steps
          rename News _ _ _ _ => kN
          rename Fr _ _ _ _ => kF
          refine' hret _ _ _ _ (p_file (fun e => cS (beq_iff_eq.mpr e)) (fun e => cB (beq_iff_eq.mpr e)) (fun e => cR (beq_iff_eq.mpr e)) hclear _ _ _ _ _ _ _ _ ?i0 ?i1 ?i2 ?n0 ?n1 ?n2 ?n3 ?n4 ?n5 ?n6 ?n7 ?n8 ?n9 ?n10 ?n11 ?n12 ?n13 ?n14) kF ?gN
          case i0 => assumption
          case i1 => assumption
          case i2 => assumption
          case gN => exact (fun p hp => kN p ((by k_extra "sub" : ∀ p ∈ _, p ∈ _) p hp))
          case n0 => k_extra "rest"
          case n1 => k_extra "rest"
          case n2 => k_ne
          case n3 => k_ne
          case n4 => k_ne
          case n5 => k_ne
          case n6 => k_ne
          case n7 => k_ne
          case n8 => k_ne
          case n9 => k_extra "rest"
          case n10 => k_ne
          case n11 => k_ne
          case n12 => k_ne
          case n13 => k_ne
          case n14 => k_ne
end Mine
end

section
open PySem PySem.W PyProof.Rows
set_option Elab.async false
set_option linter.all false
set_option maxRecDepth 100000
set_option maxHeartbeats 4000000
namespace Mine
theorem setFly20 : True := by
  w_top off
  k_with_none
  trivial
open PySem.Calls
section
variable {M : Model} {A : Around} {E : Value → Shared → Prop} {s : Shared}
theorem noteFrame_congr {e : Value} {env env' : Env} (h : env.frame = env'.frame) : noteFrame e env = noteFrame e env' := by
  unfold noteFrame PySem.frameOf
  rw [h]
/-- a frame's note of an exception that another frame noted last -/
theorem fly_noteG {base : Heap} {env : Env} {outer : List Env} {L e : Addr} {cls a0 fl : Value} {dd : Option Addr} {Q : Unit → Shared → Prop} (hfl : (fl == rawInt L) = false)
    (hfr : A.frames = some (env :: outer)) (hf : env.frame = some L) (x : Flies base (env :: outer) e cls dd a0 fl s.heap)
    (hQ : ∀ h', Flies base (env :: outer) e cls dd a0 (rawInt L) h' → s.heap.UpToSlots h' → Q () { s with heap := h' }) : wpAny M A (noteFrame (.ref e) env) Q E s := by
  obtain ⟨hb, hen, hl, vs, sl, T, oT, ts, he, h0, h2, h1, hnT, hTe, hT, hdT, h3⟩ := x
  have hsz3 : 3 < ts.size := (Array.getElem?_eq_some_iff.mp h3).1
  unfold noteFrame
  simp only [hf]
  refine wpAny_bind (wpAny_field he rfl h1 ?_)
  rw [if_pos (show (Value.ref T != Value.none) = true from by simp)]
  refine wpAny_bind (wpAny_field hT hdT h3 ?_)
  rw [if_neg (show ¬ ((fl == rawInt L) = true) from by simp [hfl])]
  have other : ∀ b, b ≠ T → (s.heap.update T (Obj.mapFields (·.setIfInBounds 3 Value.none))).get? b = s.heap.get? b := fun b q => Heap.get?_update_other _ _ (Ne.symm q)
  have noT : ∀ b o, s.heap.get? b = some o → (∀ vs, o.data ≠ .fields vs) → b ≠ T := fun b o hbo hnf q => by
    subst q; rw [hT] at hbo; cases hbo; exact hnf ts hdT
  refine wpAny_bind (wpAny_setField hT hdT hsz3 ?_)
  refine fly_entry hfr (hl.of_keeps fun b o hbo hnf => ⟨o, (other b (noT b o hbo hnf)).trans hbo, rfl⟩) hf (fun b o hbo => (other b fun q => by rw [q, hnT] at hbo; cases hbo).trans (hb b o hbo)) hen
    ((other e (Ne.symm hTe)).trans he) (Array.getElem?_eq_some_iff.mp h2.1).1 h0 h2 fun h' x' u' => hQ h' x' fun b o hbo hnf => u' b o ((other b (noT b o hbo hnf)).trans hbo) hnf
/-- what a passed-on exception bears -/
noncomputable def flOf (f : Option Addr) : Value := f.elim .none fun a => rawInt a
theorem throw_any {base : Heap} {env : Env} {outer : List Env} {L e : Addr} {cls a0 : Value} {dd : Option Addr} {news : List (Addr × Obj)} {Q : Unit → Shared → Prop} (f : Option Addr) (hfr : A.frames = some (env :: outer)) (hf : env.frame = some L) (R : Thrown base (env :: outer) e cls dd a0 (flOf f) news s.heap)
    (hQ : ∀ h', Thrown base outer e cls dd a0 .none news h' → s.heap.UpToSlots h' → Q () { s with heap := h' }) :
    wpAny M A (leaving env (.ref e)) Q E s := by
  obtain ⟨B, hb, hl, x⟩ := R
  by_cases h : flOf f = rawInt L
  · rw [h] at x
    exact fly_held hf x fun h' x' u => hQ h' ⟨B, hb, hl, x'⟩ u
  · have hfl : (flOf f == rawInt L) = false := by simpa using h
    unfold leaving
    exact wpAny_bind (fly_noteG hfl hfr hf x fun h' x' u => fly_set x' fun h'' x'' u' => hQ h'' ⟨B, hb, hl, x''.stays, x''.new, x''.frames.2.2, x''.exc⟩ (u.trans u'))
/-- an exception under way, while an object of its ledger changes -/
theorem thrown_but {base h h' : Heap} {l : List Env} {e C : Addr} {cls a0 fl : Value} {dd : Option Addr} {oC : Obj} {news : List (Addr × Obj)} (x : Thrown base l e cls dd a0 fl ((C, oC) :: news) h) (hs : Heap.SameBut C h h') (off : ∀ p ∈ news, p.1 ≠ C) : Thrown base l e cls dd a0 fl news h' := by
  obtain ⟨B, hb, hn, y⟩ := x
  have hC := hn _ (.head _)
  have sub : (hideAll B [C]).StaysIn B := fun b o q => of_hideAll _ q
  have neC : ∀ {b : Addr} {o : Obj}, (hideAll B [C]).get? b = some o → b ≠ C := fun {b o} q z => by
    have := hideAll_none (h := B) [C] (b := C) (.head _)
    rw [z, this] at q; cases q
  refine ⟨hideAll B [C], fun b o q => hideAll_get _ (hb b o q) fun m => ?_, fun p hp => ⟨hideAll_get _ (hn p (.tail _ hp)).1 fun m => off p hp (List.mem_singleton.mp m), (hn p (.tail _ hp)).2⟩, ?_⟩
  · rw [List.mem_singleton.mp m, hC.2] at q; cases q
  · obtain ⟨st, new, fr, vs, sl, T, oT, ts, he, h0, h2, h1, hnT, hTe, hT, hdT, h3⟩ := y
    have eC : e ≠ C := fun z => by rw [z, hC.1] at new; cases new
    have TC : T ≠ C := fun z => by rw [z, hC.1] at hnT; cases hnT
    refine ⟨fun b o q => (hs.2 b (neC q)).trans (st b o (sub b o q)), ?_, ?_, vs, sl, T, oT, ts, (hs.2 e eC).trans he, h0, h2, h1, ?_, hTe, (hs.2 T TC).trans hT, hdT, h3⟩
    · cases q : (hideAll B [C]).get? e with
      | none => rfl
      | some o => have := sub _ _ q; rw [new] at this; cases this
    · have fr2 := funFrames_base sub fr
      have : ∀ {l : List Env}, h.FunFrames B l → h.FunFrames (hideAll B [C]) l → h'.FunFrames (hideAll B [C]) l := by
        intro l
        induction l with
        | nil => exact fun _ _ => trivial
        | cons env r ih =>
          rintro ⟨k1, ⟨L1, o1, a1, a2, a3, a4⟩, r1⟩ ⟨_, ⟨L2, o2, b1, b2, b3, b4⟩, r2⟩
          obtain rfl : L1 = L2 := Option.some.inj (a1.symm.trans b1)
          have LC : L1 ≠ C := fun z => by rw [z, hC.1] at a2; cases a2
          exact ⟨k1, ⟨L1, o2, b1, b2, (hs.2 L1 LC).trans b3, b4⟩, ih r1 r2⟩
      exact this fr fr2
    · cases q : (hideAll B [C]).get? T with
      | none => rfl
      | some o => have := sub _ _ q; rw [hnT] at this; cases this
end
section
variable {prog : Program} {w : World} {A : Around} {E : Value → Shared → Prop} {s : Shared}
/-- an exception that leaves a comprehension -/
theorem comp_raise {base g : Heap} {fenv cenv : Env} {outer : List Env} {L e C : Addr} {cls a0 acc : Value} {dd : Option Addr} {oC : Obj} {m' : Str → Option Value} {news : List (Addr × Obj)} {Q : Value → Shared → Prop}
    (hfr : A.frames = some (fenv :: outer)) (hf : fenv.frame = some L) (hcf : cenv.frame = some L) (hoC : LCg.NsObj oC m') (off : ∀ p ∈ news, p.1 ≠ C)
    (R : Thrown base (fenv :: outer) e cls dd a0 .none ((C, oC) :: news) s.heap) (U : g.UpToSlots s.heap) (hgC : g.get? C = none)
    (k : ∀ h' f, Thrown base (fenv :: outer) e cls dd a0 (flOf f) news h' → g.UpToSlots h' → E (.ref e) { s with heap := h' }) :
    notedBy (model prog w) A cenv (fun x s' => compPost (model prog w) A E none Q acc C (.error x) s') (.ref e) s := by
  show wpAny _ _ (noteFrame (.ref e) cenv) _ _ _
  rw [noteFrame_congr (hcf.trans hf.symm)]
  obtain ⟨B, hb, hl, x⟩ := R
  refine fly_note hfr hf x fun h₁ x₁ u₁ => ?_
  have R₁ : Thrown base (fenv :: outer) e cls dd a0 (rawInt L) ((C, oC) :: news) h₁ := ⟨B, hb, hl, x₁⟩
  refine ⟨m', hoC.ns (R₁.led _ (.head _)).1, fun h₂ hs₂ cenv' _ => ?_⟩
  have R₂ := thrown_but R₁ hs₂ off
  obtain ⟨B₂, hb₂, hl₂, x₂⟩ := R₂
  unfold PySem.passOn
  have x₃ := x₂
  obtain ⟨_, _, _, vs, sl, T, oT, ts, he, _, _, h1, _⟩ := x₃
  refine wpAny_bind (wpAny_field he rfl h1 ?_)
  rw [if_neg (show ¬ ((Value.ref T == Value.none) = true) from by simp)]
  refine wpAny_bind (fly_set x₂ fun h₃ x₃ u₃ => wpAny_throw ?_)
  refine k h₃ cenv'.frame ⟨B₂, hb₂, hl₂, x₃⟩ fun b o q hd => ?_
  obtain ⟨sl1, q1⟩ := (U.trans u₁) b o q hd
  have bC : b ≠ C := fun z => by rw [z, hgC] at q; cases q
  obtain ⟨sl2, q2⟩ := u₃ b _ ((hs₂.2 b bC).trans q1) hd
  exact ⟨sl2, q2⟩
end
end Mine
end

section
open PySem PySem.W PyProof.Rows
set_option Elab.async false
set_option linter.all false
set_option maxRecDepth 100000
set_option maxHeartbeats 4000000
namespace Mine
theorem setReground0 : True := by
  w_top off
  k_with_none
  trivial
open PySem.Calls
/-- a heap's first part -/
noncomputable def cutAt (h : Heap) (L : Nat) : Heap := ⟨h.objs.extract 0 L, h.life⟩
theorem cutAt_get {h : Heap} {L : Nat} {b : Addr} (hb : b < L) : (cutAt h L).get? b = h.get? b := by
  have e : (h.objs.extract 0 L)[b]? = h.objs[b]? := by
    rw [Array.getElem?_extract]
    by_cases z : b < h.objs.size
    · have : b < min L h.objs.size - 0 := by simp only [Nat.sub_zero]; exact Nat.lt_min.mpr ⟨hb, z⟩
      rw [if_pos this, Nat.zero_add]
    · rw [if_neg (by simp only [Nat.sub_zero]; intro q; exact z (Nat.lt_min.mp q).2), Array.getElem?_eq_none (Nat.le_of_not_lt z)]
  unfold cutAt Heap.get?
  simp only [e]
theorem cutAt_size {h : Heap} {L : Nat} : (cutAt h L).objs.size ≤ L := by
  show (h.objs.extract 0 L).size ≤ L
  rw [Array.size_extract, Nat.sub_zero]
  exact Nat.min_le_left ..
theorem of_cutAt {h : Heap} {L : Nat} {b : Addr} {o : Obj} (e : (cutAt h L).get? b = some o) : h.get? b = some o := by
  have lt : b < L := Nat.lt_of_lt_of_le (Heap.lt_size e) cutAt_size
  rwa [cutAt_get lt] at e
theorem funFrames_cut {base h : Heap} {as : List Addr} {L : Nat} : ∀ {l : List Env}, h.FunFrames base l → (∀ env ∈ l, ∀ a ∈ as, env.frame ≠ some a) → (∀ env ∈ l, ∀ b, env.frame = some b → b < L) → (hideAll (cutAt h L) as).FunFrames base l
  | [], _, _, _ => trivial
  | env :: _, ⟨hk, ⟨L', o, hf, hn, ho, hd⟩, hr⟩, hne, hb => ⟨hk, ⟨L', o, hf, hn, hideAll_get _ ((cutAt_get (hb env (.head _) L' hf)).trans ho) fun q => hne env (.head _) L' q hf, hd⟩, funFrames_cut hr (fun e he => hne e (.tail _ he)) fun e he => hb e (.tail _ he)⟩
/-- a new ground for a frame: what stands below it now, less its ledger -/
theorem reground {A₀ : Around} {base h' : Heap} {outer : List Env} {L : Addr} {m : Str → Option Value} {news : List (Addr × Obj)} (hs : base.objs.size ≤ L) (st : base.StaysIn h') (stack : A₀.frames = some outer)
    (fr : h'.FunFrames base outer) (hb : ∀ env ∈ outer, ∀ b, env.frame = some b → b < L) (ns : h'.Ns L m)
    (N : ∀ q ∈ news, h'.get? q.1 = some q.2 ∧ base.get? q.1 = none ∧ q.1 ≠ L ∧ ∀ env ∈ outer, env.frame ≠ some q.1) :
    ∃ G, Fr G L h' m ∧ News G L h' news ∧ Below A₀ base outer G ∧ ∀ b o, h'.get? b = some o → b < L → (∀ q ∈ news, q.1 ≠ b) → G.get? b = some o := by
  refine ⟨hideAll (cutAt h' L) (news.map (·.1)), ⟨ns, fun b o e => of_cutAt (of_hideAll _ e), ?_⟩, fun q hq => ?_, ⟨stack, fun b o e => ?_, ?_⟩, fun b o e lt hn => ?_⟩
  · rw [hideAll_size]; exact cutAt_size
  · obtain ⟨h1, h2, h3, _⟩ := N q hq
    exact ⟨h1, h3, hideAll_none _ (List.mem_map_of_mem hq)⟩
  · refine hideAll_get _ ((cutAt_get (Nat.lt_of_lt_of_le (Heap.lt_size e) hs)).trans (st b o e)) fun hm => ?_
    obtain ⟨q, hq, rfl⟩ := List.mem_map.mp hm
    rw [(N q hq).2.1] at e; cases e
  · refine funFrames_cut fr (fun env he a ha => ?_) hb
    obtain ⟨q, hq, rfl⟩ := List.mem_map.mp ha
    exact (N q hq).2.2.2 env he
  · refine hideAll_get _ ((cutAt_get lt).trans e) fun hm => ?_
    obtain ⟨q, hq, rfl⟩ := List.mem_map.mp hm
    exact hn q hq rfl
theorem below_lt {A₀ : Around} {base g : Heap} {outer : List Env} (B : Below A₀ base outer g) : ∀ env ∈ outer, ∀ b, env.frame = some b → b < g.objs.size := fun env he b hf => by
  obtain ⟨L₁, o₁, hf₁, ho₁⟩ := funFrames_in B.frames env he
  rw [hf₁] at hf
  cases hf
  exact Heap.lt_size ho₁
/-- what a frame that caught an exception goes on with -/
theorem caught_ground {A₀ : Around} {base g g2 h : Heap} {l : List Env} {env : Env} {L e : Addr} {cls a0 fl : Value} {dd : Option Addr} {m : Str → Option Value} {news : List (Addr × Obj)}
    (B : Below A₀ base l g) (F : Fr g L g2 m) (hf : env.frame = some L) (hs : base.objs.size ≤ L) (U : g2.UpToSlots h) (R : Thrown base (env :: l) e cls dd a0 fl news h) (hg : ∀ q ∈ news, g.get? q.1 = none) :
    ∃ vs sl G, Clean vs ∧ Fr G L h m ∧ News G L h ((e, ⟨cls, dd, .fields vs, sl⟩) :: news) ∧ Below A₀ base l G ∧ g.UpToSlots G := by
  obtain ⟨vs, sl, he, _, hc, hbe⟩ := R.exc
  obtain ⟨BB, hbB, hn, x⟩ := R.at_
  have fr := funFrames_base hbB x.frames
  obtain ⟨_, ⟨L', o', hf', hbL, hoL, hdL⟩, fr'⟩ := fr
  obtain rfl : L = L' := Option.some.inj (hf.symm.trans hf')
  have key : ∀ q ∈ (e, (⟨cls, dd, .fields vs, sl⟩ : Obj)) :: news, h.get? q.1 = some q.2 ∧ base.get? q.1 = none ∧ q.1 ≠ L ∧ ∀ env ∈ l, env.frame ≠ some q.1 := by
    intro q hq
    rcases List.mem_cons.mp hq with rfl | hq
    · refine ⟨he, hbe, fun z => ?_, fun env' he' hf' => ?_⟩
      · have z' : e = L := z
        rw [z', hoL] at he; cases he; exact hdL vs rfl
      · obtain ⟨_, o, ho, hd⟩ := fr'.mem (List.mem_filterMap.mpr ⟨env', he', hf'⟩)
        have : h.get? e = some o := ho
        rw [he] at this; cases this; exact hd vs rfl
    · have q2 := R.led q hq
      refine ⟨q2.1, q2.2, R.off hf q hq, fun env' he' hf' => ?_⟩
      have z1 := (x.frames.mem (List.mem_filterMap.mpr ⟨env', .tail _ he', hf'⟩)).1
      rw [(hn q hq).1] at z1; cases z1
  obtain ⟨G, F', N', B', k⟩ := reground hs R.stays B.stack fr' (fun env' he' b hf' => Nat.lt_of_lt_of_le (below_lt B env' he' b hf') F.above) (U.ns F.ns) key
  refine ⟨vs, sl, G, hc, F', N', B', fun b o q hd => ?_⟩
  obtain ⟨sl', q'⟩ := U b o (F.keep b o q) hd
  refine ⟨sl', k b _ q' (Nat.lt_of_lt_of_le (Heap.lt_size q) F.above) fun p hp z => ?_⟩
  rcases List.mem_cons.mp hp with rfl | hp
  · have z' : e = b := z
    rw [← z', he] at q'
    have q2 : Data.fields vs = o.data := congrArg Obj.data (Option.some.inj q')
    exact hd vs q2.symm
  · rw [← z, hg p hp] at q; cases q
/-- what a caller goes on with behind a call that caught one -/
theorem back_ground {A₀ : Around} {base g g2 h : Heap} {l : List Env} {L L' : Addr} {m m' : Str → Option Value} {news : List (Addr × Obj)} {A : Around} {env : Env} {G : Heap}
    (B : Below A₀ base l g) (F : Fr g L g2 m) (hs : base.objs.size ≤ L) (B' : Below A base (env :: l) G) (F' : Fr G L' h m') (N' : News G L' h news) (U : g2.UpToSlots G) :
    ∃ G', Fr G' L h m ∧ News G' L h news ∧ Below A₀ base l G' ∧ g.UpToSlots G' := by
  have fr : h.FunFrames base l := (B'.frames.2.2).of_keeps fun b o e _ => ⟨o, F'.keep b o e, rfl⟩
  have UL := U.ns F.ns
  have key : ∀ q ∈ news, h.get? q.1 = some q.2 ∧ base.get? q.1 = none ∧ q.1 ≠ L ∧ ∀ env ∈ l, env.frame ≠ some q.1 := fun q hq => by
    have n := N' q hq
    refine ⟨n.1, fresh_of_stays B'.stays n.2.2, fun z => ?_, fun env' he' hf' => ?_⟩
    · obtain ⟨o, _, _, ho, _⟩ := UL
      rw [← z, n.2.2] at ho; cases ho
    · obtain ⟨_, o, ho, _⟩ := B'.frames.2.2.mem (List.mem_filterMap.mpr ⟨env', he', hf'⟩)
      have : G.get? q.1 = some o := ho
      rw [n.2.2] at this; cases this
  obtain ⟨G', F₂, N₂, B₂, k⟩ := reground hs (fun b o e => F'.keep b o (B'.stays b o e)) B.stack fr (fun env' he' b hf' => Nat.lt_of_lt_of_le (below_lt B env' he' b hf') F.above) (by
    obtain ⟨o, es, ep, ho, r⟩ := UL
    exact ⟨o, es, ep, F'.keep _ _ ho, r⟩) key
  refine ⟨G', F₂, N₂, B₂, fun b o q hd => ?_⟩
  obtain ⟨sl', q'⟩ := U b o (F.keep b o q) hd
  refine ⟨sl', k b _ (F'.keep _ _ q') (Nat.lt_of_lt_of_le (Heap.lt_size q) F.above) fun p hp z => ?_⟩
  rw [← z, (N' p hp).2.2] at q'; cases q'
section
variable {prog : Program} {w : World} {A A₀ : Around} {E : Value → Shared → Prop} {s : Shared} {base g gt : Heap} {outer : List Env} {L a e : Addr} {m : Str → Option Value} {name : Str} {scope : Scope} {cd : Value} {cls a0 c1 c2 : Value} {dd : Option Addr} {news : List (Addr × Obj)}
  {KF : Frag} {p : Program} {loose : List Str} {mg mb : Str → Option Value} {x1 x2 n : Str} {np1 np2 pos1 pos2 : Pos} {b₀ : Stmt} {suite1 suite2 : List Stmt} {rest : List ExceptHandler} {Q : Flow → Shared → Prop}
/-- a try whose first clause does not take it, its second one does, by name -/
theorem catch_as {b₁ : Stmt} {nm1 : Option Str} (hfr : A.frames = some (envOf name scope L a cd :: outer)) (B : Below A₀ base outer g) (F : Fr g L gt m) (hs : base.objs.size ≤ L) (U : gt.UpToSlots s.heap)
    (R : Thrown base (envOf name scope L a cd :: outer) e cls dd a0 .none news s.heap) (hg : ∀ q ∈ news, g.get? q.1 = none) (X : KF.In base) (T : TopRead p loose mg mb base)
    (ex1 : nsIn KF mainGlobals x1 = some (some c1)) (he1 : exmOne KF cls c1 = some false) (ex2 : nsIn KF mainGlobals x2 = some (some c2)) (he2 : exmOne KF cls c2 = some true)
    (k : ∀ vs sl G h' tk, Clean vs → Fr G L h' (fun y => if y = n then some (.ref e) else m y) → News G L h' ((e, ⟨cls, dd, .fields vs, sl⟩) :: news) → Below A₀ base outer G → g.UpToSlots G →
      wpAny (model prog w) (A.mark (some (.ref e))) (execs (b₀ :: suite2) (envOf name scope L a cd)) (fun f s₄ => wpAny (model prog w) A (do bindName (envOf name scope L a cd) n .none; unbindBehindTheSuite (envOf name scope L a cd) n pos2) (fun _ s₅ => Q f s₅) E s₄) (fun _ _ => False) { s with heap := h', toks := tk })
    (hk : scope.kind = .function := by rfl) (hx1 : (envOf name scope L a cd).kindOf x1 = some .globalImplicit := by rfl) (hx2 : (envOf name scope L a cd).kindOf x2 = some .globalImplicit := by rfl) (hd1 : (x1 == ("__debug__" : Str)) = false := by decide) (hd2 : (x2 == ("__debug__" : Str)) = false := by decide)
    (hl : (envOf name scope L a cd).kindOf n = some .local := by rfl) :
    wpAny (model prog w) A (noteFrame (.ref e) (envOf name scope L a cd)) (fun _ s₂ => wpAny (model prog w) A (setFlight (.ref e) none) (fun _ s₃ =>
      wpAny (model prog w) A (handleBy (.ref e) (envOf name scope L a cd) (.ExceptHandler (some (.Name x1 np1)) nm1 (b₁ :: suite1) pos1 :: .ExceptHandler (some (.Name x2 np2)) (some n) (b₀ :: suite2) pos2 :: rest)) Q E s₃) E s₂) E s := by
  refine throw_looked hfr rfl R fun h₁ R₁ U₁ => ?_
  have U₁ := U.trans U₁
  refine clause_no R₁ (fr_base hs R₁.stays F U₁) X T ex1 he1 ?_ hk hx1 hd1
  refine clause_as R₁ (fr_base hs R₁.stays F U₁) X T ex2 he2 (fun h₂ R₂ U₂ => ?_) hk hx2 hd2
  obtain ⟨vs, sl, G, hc, FG, NG, BG, UG⟩ := caught_ground B F rfl hs (U₁.trans U₂) R₂ hg
  exact stNK (s := { s with heap := h₂ }) FG NG (fun h'' F'' N'' _ _ => k vs sl G h'' _ hc F'' N'' BG UG) hk hl
end
end Mine
end

section
open PySem PySem.W PyProof.Rows
set_option Elab.async false
set_option linter.all false
set_option maxRecDepth 100000
set_option maxHeartbeats 4000000
namespace Mine
theorem setDefR0 : True := by
  w_top off
  k_with_none
  trivial
open PySem.Calls
/-- a call of a plain def, its end handed over as it is -/
theorem code_defR {prog : Program} {w : World} {A A₀ : Around} {s : Shared} {K : Frag} {L : Addr} {h₀ base : Heap} {m mg mb : Str → Option Value} {news : List (Addr × Obj)} {p : Program} {loose : List Str} {mean : ExcName → Option Value}
    {env : Env} {outer : List Env} {R : Result → Shared → Prop} {name qual : Str} {params : Arguments} {body : List Stmt} {scope : Scope} {dV kV doc pm cdv ct oc : Value} {an od : Option Addr} {osl : Array (Option Value)} {f : Addr} {args : Args} {binds : List (Str × Value)}
    (B : Below A₀ base outer h₀) (F : Fr h₀ L s.heap m) (X₀ : K.In h₀) (N : News h₀ L s.heap news) (T : Top p loose mean mg mb h₀) (hA : A.frames = some (env :: outer)) (hf : env.frame = some L) (hke : env.scope.kind = .function)
    (ho : K.lookup f = some ⟨oc, od, .func (fnOf name qual params body scope dV kV doc pm an cdv ct), osl⟩) (hcd : codeIn K cdv qual = true) (hroom : A.depth < recursionLimit)
    (hbind : BindsTo s (fnOf name qual params body scope dV kV doc pm an cdv ct) args binds) (hloc : ∀ y ∈ binds, scope.names.lookup y.1 = some .local)
    (h : ∀ g L' h₁, Fr h₀ L g m → Fr g L' h₁ (fun y => binds.reverse.lookup y) → News g L' h₁ news → Below A base (env :: outer) g → K.In g → Top p loose mean mg mb g → (∀ p ∈ news, p.1 < L') → 
      wpAny (model prog w) (A.deeper (envOf qual scope L' f cdv)) (execs body (envOf qual scope L' f cdv))
        (fun fl s' => R (.ok (.ret (match fl with | .ret v => v | _ => .none))) s')
        (fun e s' => wpAny (model prog w) (A.deeper (envOf qual scope L' f cdv)) (leaving (envOf qual scope L' f cdv) e) (fun _ s'' => R (.error e) s'') (fun e' s'' => R (.error e') s'') s')
        { s with heap := h₁, toks := s.toks + binds.length })
    (hco : scope.isCoroutine = false) (hgen : scope.isGenerator = false) (hk : scope.kind = .function)
    (hcell : ∀ x ∈ scope.names, x.2 ≠ .cell) : codeAny (model prog w) A (.call (.ref f) args) R s := by
  obtain ⟨FG, BG, st, lv⟩ := groundX (R := R) B F N hA hf hke
  refine codeAny_call_def (fd := fnOf name qual params body scope dV kV doc pm an cdv ct) (body := body) (binds := binds) hroom ((X₀.keeps F.keep) _ _ ho) rfl (T.nolimit.keeps F.keep) (codeRec_of (X₀.keeps F.keep) hcd) rfl hbind hcell hloc (fun h₁ hns hk₁ => ?_) hco hgen hk
  exact wpAny_mono (h _ s.heap.objs.size h₁ FG ⟨hns, fun b o e => hk₁ b o (of_hideAll _ e), Nat.le_of_eq (hideAll_size _ _)⟩
    (fun p hp => ⟨hk₁ _ _ (N p hp).1, Nat.ne_of_lt (Heap.lt_size (N p hp).1), hideAll_none _ (List.mem_map_of_mem hp)⟩) BG (X₀.keeps st) (T.keeps st) (fun p hp => Heap.lt_size (N p hp).1)) (fun fl s' hl => hl) fun _ _ y => y
end Mine
end

section
open PySem PySem.W PyProof.Rows
set_option Elab.async false
set_option linter.all false
set_option maxRecDepth 100000
set_option maxHeartbeats 4000000
namespace Mine
theorem setGetX0 : True := by
  w_top off
  k_with_none
  trivial
open PySem.Calls
section
variable {prog : Program} {w : World} {A : Around} {E : Value → Shared → Prop} {s : Shared} {K : Frag} {x C : Addr} {ox : Obj} {od : Option Obj} {name : Str} {expr : Bool} {Q : Value → Shared → Prop}
theorem check_gaX {M : Model} {h : Heap} {g : Array GenState} {d : Drawn} {t : Nat} {os : OsState} {nameV : Value} {Q : Unit → Shared → Prop} (L0 : Looks M h (typeOf (.ref x)) (.ref C)) (L3 : Looks M h (isSubtype (.ref C) (.type "BaseException")) true)
    (hq : Q () ⟨h, g, d, t, os⟩) : wpAny M A (checkBuiltinCall "BaseException.__getattribute__" ⟨[.ref x, nameV], []⟩) Q E ⟨h, g, d, t, os⟩ := by
  have hk : builtinKind "BaseException.__getattribute__" = some .slot := by decide +kernel
  have hsplit : splitId "BaseException.__getattribute__" = some ("BaseException", "__getattribute__") := by decide +kernel
  have ha := F.args_bexc_ga (.ref x) nameV
  simp only [checkBuiltinCall, hk, hsplit]
  refine wpAny_bind ?_
  · unfold isInstance
    repeat (any_goals (first | assumption | with_reducible refine L0.at ?_ | with_reducible refine L3.at ?_ | wp_step))
theorem getX_value {v : Value} (X : K.In s.heap) (I : InstAt s.heap x ox C od) (hga : findIn K (.ref C) "__getattribute__" = some (some (.builtin "BaseException.__getattribute__")))
    (hgt : findIn K (.ref C) "__getattr__" = some none) (hsub : subIn K (.ref C) (.type "BaseException") = some true) (FX : ExcAttrFacts "Exception")
    (hf : findObj K C od name = some (.value v)) (hh : handedIn v = true) (h : Q v { s with toks := s.toks + 1 }) : wpAny (model prog w) A (getAttr (.ref x) name expr) Q E s := by
  obtain ⟨hh', g, d, t, os⟩ := s
  have L0 := I.type (M := model prog w)
  have L1 := looks_findIn (M := model prog w) X hga
  have L2 := looks_find (M := model prog w) X I hf
  have L3 := looks_subIn (M := model prog w) X hsub
  have L4 := looks_findIn (M := model prog w) X hgt
  have f3 := FX.ga.bind (.ref x)
  have hx0 : (expr && onTheHeap (Value.builtin "BaseException.__getattribute__")) = false := by cases expr <;> rfl
  have hx2 : (Value.builtin "BaseException.__getattribute__" == Value.builtin "object.__getattribute__") = false := by decide +kernel
  have hx1 : (onTheHeap (Value.ref C) && Value.builtin "BaseException.__getattribute__" == Value.builtin "object.__getattribute__") = false := by rw [hx2]; rfl
  unfold getAttr getAttrBy
  repeat (any_goals (first | assumption | with_reducible refine L0.at ?_ | with_reducible refine L1.at ?_ | with_reducible refine L4.at ?_ | wp_step))
  refine codeAny_call_builtin FX.ga.plain F.entry_bexc_ga (check_gaX L0 L3 ?_)
  show wpAny _ _ (Builtin.«object.__getattribute__» ⟨[.ref x, .str name t], []⟩) _ _ _
  repeat (any_goals (first | assumption | with_reducible refine L0.at ?_ | with_reducible refine L2.at ?_ | wp_step))
  show wpAny _ _ (handedOut v) _ _ _
  rw [handedOut_of hh]; exact wpAny_pure h
theorem getX_own {h₀ : Heap} {L : Addr} {m : Str → Option Value} {es : List DictEntry} {n : Nat} {attr : Option Value} {v : Value} (F : Fr h₀ L s.heap m) (X₀ : K.In h₀) (I : InstAt s.heap x ox C (some (dictOf es n))) (hga : findIn K (.ref C) "__getattribute__" = some (some (.builtin "BaseException.__getattribute__")))
    (hgt : findIn K (.ref C) "__getattr__" = some none) (hsub : subIn K (.ref C) (.type "BaseException") = some true) (hh : hasDictIn K C = true)
    (ha : findIn K (.ref C) name = some attr) (hn : noGet K attr = true) (hl : getL name es = some (some v)) (hv : handedIn v = true) (h : Q v { s with toks := s.toks + 1 }) :
    wpAny (model prog w) A (getAttr (.ref x) name expr) Q E s :=
  getX_value (X₀.keeps F.keep) I hga hgt hsub PySem.F.attr_Exception (findObj_own hh ha hn hl) hv h
end
theorem str_what : (⟨#[119, 104, 97, 116]⟩ : Str) = Str.ofString "what" := by decide +kernel
theorem str_at : (⟨#[97, 116]⟩ : Str) = Str.ofString "at" := by decide +kernel
theorem inst_exc {h₀ h : Heap} {L x C dx : Addr} {news : List (Addr × Obj)} {od : Obj} {sl : Array (Option Value)} {vs : Array Value} (N : News h₀ L h news) (h1 : (x, (⟨.ref C, some dx, .fields vs, sl⟩ : Obj)) ∈ news) (h2 : (dx, od) ∈ news) :
    InstAt h x ⟨.ref C, some dx, .fields vs, sl⟩ C (some od) := ⟨(N _ h1).1, rfl, rfl, (N _ h2).1⟩
end Mine
end

section
open PySem PySem.W PyProof.Rows
set_option Elab.async false
set_option linter.all false
set_option maxRecDepth 100000
set_option maxHeartbeats 0
set_option pp.maxSteps 20000
namespace Mine
theorem setAnsAll0 : True := by
  w_top off
  k_with_none
  k_with "rest1" => (refine' rest_ne1 ?zh ?zs; (case zh => with_reducible assumption); (case zs => k_extra "sub"))
  k_with "rest2" => (rename (∀ p ∈ (_ : List (Addr × Obj)), p.1 < _) => zzR; first | (refine' rest_ne2 zzR ?zs ?zl; (case zs => k_extra "sub"); (case zl => first | exact Nat.le_refl _ | exact Nat.le_succ _ | ((try dsimp only); omega))) | (clear zzR; k_extra "rest2"))
  k_with "rest" => (first | assumption | k_extra "rest1" | k_extra "rest2")
  k_with "sub" => (first | exact List.forall_mem_nil _ | (refine List.forall_mem_cons.mpr ⟨by k_mem, ?_⟩; k_extra "sub") | (intro p hp; (repeat (first | exact hp | refine List.Mem.tail _ ?_)); done))
  k_with "sub" => (intro p hp; (repeat (first | with_reducible exact hp | refine List.Mem.tail _ ?_)); done)
  k_with "nl" => (first | exact Nat.ne_of_lt zz1.1 | exact Nat.ne_of_gt zz1.1 | (replace zz1 := zz1.2; k_extra "nl"))
  k_with "ne" => (refine neN ?_; (try dsimp only); (repeat (rename (@Ne Nat _ _) => zz; clear zz)); omega)
  k_with "ne" => (refine neN ?_; (try dsimp only); (rename (@LT.lt Nat _ _ _ ∧ _) => zz1); first | k_extra "nl" | (clear zz1; (rename (@LT.lt Nat _ _ _ ∧ _) => zz1); first | k_extra "nl" | (clear zz1; (rename (@LT.lt Nat _ _ _ ∧ _) => zz1); k_extra "nl")))
  k_with "ne" => (refine neN ?_; (try dsimp only); first | assumption | (refine Ne.symm ?_; assumption))
  k_with "all" => (first | assumption | k_extra "rest")
  k_with "ite" => (refine Stop.out ?_)
  k_with "ite" => ((first | (k_closed; first | refine ite_pos (by decide +kernel) ?_ | refine ite_neg (by decide +kernel) ?_) | refine ite_pos (by assumption) ?_ | refine ite_neg (by assumption) ?_))
  k_with "exec Raise some none" => ((refine raise_stmt rfl ?_))
  k_with "call ref" => ((k_here; k_dflt (first | (with_reducible show wpAny _ _ (call (Value.ref 84) [Value.str _ _]) _ _ _) | (with_reducible show wpAny _ _ (call (Value.ref 60) [Value.str _ _]) _ _ _) | (with_reducible show wpAny _ _ (call (Value.ref 60) [Value.str _ _, Value.ref _]) _ _ _)); k_dflt (refine' fault_make ?a1 ?B ?F ?X ?N ?T ?fr ?hf ?hk ?ro ?u ?r ?bi ?_; (case a1 => first | exact cls84 _ | exact cls60 _); (case B => k_asm); (case F => k_asm); (case X => k_asm); (case N => k_asm); (case T => k_asm); (case fr => exact rfl); (case hf => exact rfl); (case hk => exact rfl); (case ro => exact Nat.le_of_ble_eq_true rfl); (case u => exact Nat.le_of_ble_eq_true rfl); (case r => exact Nat.le_of_ble_eq_true rfl); (case bi => first | exact fun x s9 fd oc od osl X e => bind37_1 X e | exact fun x s9 fd oc od osl X e => bind37_2 X e)); intro e' d' n' q1' q2' q3' q4' h' tk' F' N' ne1 ne2; (try k_sweep)))
  k_with "leaving ref" => ((k_here; k_dflt (refine' throw_first ?k1 ?k2 ?k3 ?k4 ?k5 ?k6 ?k7 ?_ ?k8; (case k1 => k_asm); (case k2 => k_asm); (case k3 => k_asm); (case k4 => assumption); (case k5 => rfl); (case k6 => rfl); (case k7 => exact ⟨rfl, rfl⟩); (case k8 => rfl)); intro h' R' U'))
  k_with "call ref" => ((k_here; (with_reducible show wpAny _ _ (call (Value.ref 196) [Value.str _ _]) _ _ _); k_dflt (refine' words_call _ _ _ _ _ _ _ _ _ _ _ _ _ _ _ _ _ _ _ ?x ?ws ?n ?B ?F ?X ?N ?T ?hk ?hf ?_; (case x => assumption); (case ws => assumption); (case n => assumption); (case B => k_asm); (case F => k_asm); (case X => k_asm); (case N => k_asm); (case T => k_asm); (case hk => rfl); (case hf => rfl)); intro D' vs' n' h' tk' sa' F' N' ne'; (replace ne' := off1_of ne'); (try simp only [LCg.Off1, and_true] at ne'); (repeat (obtain ⟨_, ne'⟩ := ne')); (try k_sweep)))
  k_with "compareOp Eq ref ref" => ((k_here; k_dflt (refine' eq_tup_K ?X ?F ?N ?l ?m ?u ?_; (case X => k_asm); (case F => k_asm); (case N => k_asm); (case l => k_is); (case m => k_mem); (case u => k_units))))
  k_with "compareOp Eq ref ref" => ((k_here; (try dsimp only); (rename Kont _ => kS); refine Stop.out ?_))
  k_with "compareOp NotEq ref ref" => ((k_here; (try dsimp only); (rename Kont _ => kS); refine Stop.out ?_))
  k_with "call ref" => ((k_here; (with_reducible show wpAny _ _ (call (Value.ref 215) [Value.ref _]) _ _ _); refine Stop.out ?_))
  k_with "getAttr ref" => ((k_here; k_dflt (refine' getX_own ?k1 ?k2 ?k3 ?g1 ?g2 ?g3 ?k5 ?k6 ?k7 ?k8 ?k9 ?_; (case k1 => k_asm); (case k2 => k_asm); (case k3 => (refine' inst_exc ?N ?h1 ?h2; (case N => k_asm); (case h1 => k_mem); (case h2 => k_mem))); (case g1 => k_is); (case g2 => k_is); (case g3 => k_is); (case k5 => k_is); (case k6 => k_is); (case k7 => k_is); (case k8 => k_get); (case k9 => k_handed); k_whole)))
  k_with "call builtin:len" => ((k_here; k_dflt (refine len_cons (by k_asm) (by k_mem) (by assumption) ?_)))
  trivial
local macro_rules | `(tactic| size_fits) => `(tactic| (rw [sizeLine_eq]; (try simp only [List.size_toArray, List.length_cons]); omega))
theorem ans_all (w : World) (mean : ExcName → Option Value) (mg mb : Str → Option Value) (base : Heap) (env1 : Env)
  (x : Str) (tk : Tok) (ws : List Str) (hx : x.length ≤ 100) (hws : wordsOf x = ws) (hgo : ∀ wr, ws = Str.ofString "good" :: wr → wr.length = 1 ∨ wr.length = 2) (hn : (Txt.split x (Str.ofString " ")).length ≤ 1000)
  (hwl : ∀ w0 wr, ws = w0 :: wr → w0.length ≤ 100 ∧ ((Builtin.Str.occurrences (Str.ofString " source library rows file ") (Str.ofString " " ++ w0 ++ Str.ofString " ") 0 (Str.ofString " source library rows file ").length 1).isEmpty = true ↔ openOf (w0 :: wr) = none))
  (src g1 g2 : Str) (tg1 tg2 t1 t2 t3 t4 t5 t6 tsrc : Tok) (ng nl : Nat) (dk dd al ash ar ag ali : Addr) (vs : List Value) (rest : List (Addr × Obj)) (hg : g1 = Str.ofString "" → g2 = Str.ofString "") (hvs : vs.length ≤ 1000)
  (o1 : ∀ p ∈ rest, p.1 ≠ dd) (o2 : ∀ p ∈ rest, p.1 ≠ ali) (o3 : @Ne Nat dd ali) (z1 : (dk, instObj 182 dd) ∈ rest) (z3 : (ag, tupOf #[.str g1 tg1, .str g2 tg2] ng) ∈ rest)
  (P : Value → List (Addr × Obj) → Prop) (PE : List (Addr × Obj) → Prop)
  (p_app : g1 ≠ Str.ofString "" → ws ≠ [Str.ofString "done"] → ∀ D n, P (.ref D) ((dd, dictOf [ent w.params "source" t1 (.str src tsrc), ent w.params "library" t2 (.ref al), ent w.params "shelf" t3 (.ref ash), ent w.params "rows" t4 (.ref ar), ent w.params "gathering" t5 (.ref ag), ent w.params "lines" t6 (.ref ali)] 6) :: (ali, W.listOf (vs ++ [Value.str x tk]).toArray (nl + 1)) :: (D, W.listOf #[] n) :: rest))
  (p_done : g1 ≠ Str.ofString "" → ws = [Str.ofString "done"] → ∃ PL, EndSpec w mean mg mb base env1 dk ((dd, dictOf [ent w.params "source" t1 (.str src tsrc), ent w.params "library" t2 (.ref al), ent w.params "shelf" t3 (.ref ash), ent w.params "rows" t4 (.ref ar), ent w.params "gathering" t5 (.ref ag), ent w.params "lines" t6 (.ref ali)] 6) :: (ali, W.listOf vs.toArray nl) :: rest) PL PE ∧ ∀ led, PL led → ∀ D n, P (.ref D) ((D, W.listOf #[] n) :: led))
  (p_blank : g1 = Str.ofString "" → ws = [] → ∀ D n, P (.ref D) ((D, W.listOf #[] n) :: (dd, dictOf [ent w.params "source" t1 (.str src tsrc), ent w.params "library" t2 (.ref al), ent w.params "shelf" t3 (.ref ash), ent w.params "rows" t4 (.ref ar), ent w.params "gathering" t5 (.ref ag), ent w.params "lines" t6 (.ref ali)] 6) :: (ali, W.listOf vs.toArray nl) :: rest))
  (p_open : g1 = Str.ofString "" → ∀ w0 r y, ws = w0 :: r → openOf ws = some (some y) → ∀ D n G l u1 u2, (∀ p ∈ rest, p.1 ≠ G) → (∀ p ∈ rest, p.1 ≠ l) → (@Ne Nat dd G) → (@Ne Nat dd l) → (@Ne Nat G l) → (@Ne Nat ali G) → (@Ne Nat ali l) → P (.ref D) ((dd, dictOf [ent w.params "source" t1 (.str src tsrc), ent w.params "library" t2 (.ref al), ent w.params "shelf" t3 (.ref ash), ent w.params "rows" t4 (.ref ar), ent w.params "gathering" t5 (.ref G), ent w.params "lines" t6 (.ref l)] 6) :: (D, W.listOf #[] n) :: (G, tupOf #[.str w0 u1, .str y u2] 0) :: (l, W.listOf #[] 0) :: (ali, W.listOf vs.toArray nl) :: rest))
  (p_bad : g1 = Str.ofString "" → openOf ws = some none → PE ((dd, dictOf [ent w.params "source" t1 (.str src tsrc), ent w.params "library" t2 (.ref al), ent w.params "shelf" t3 (.ref ash), ent w.params "rows" t4 (.ref ar), ent w.params "gathering" t5 (.ref ag), ent w.params "lines" t6 (.ref ali)] 6) :: (ali, W.listOf vs.toArray nl) :: rest))
  (p_good : g1 = Str.ofString "" → ∀ wr, ws = Str.ofString "good" :: wr → ∀ D n us u, StrsAre us wr → P (.ref D) ((D, W.listOf (Value.str (Str.ofString "so") u :: us).toArray n) :: (dd, dictOf [ent w.params "source" t1 (.str src tsrc), ent w.params "library" t2 (.ref al), ent w.params "shelf" t3 (.ref ash), ent w.params "rows" t4 (.ref ar), ent w.params "gathering" t5 (.ref ag), ent w.params "lines" t6 (.ref ali)] 6) :: (ali, W.listOf vs.toArray nl) :: rest))
  (p_odd : g1 = Str.ofString "" → ∀ wr, ws = Str.ofString "odd" :: wr → ∀ D n u, P (.ref D) ((D, W.listOf #[Value.str (Str.ofString "3 9: bad") u] n) :: (dd, dictOf [ent w.params "source" t1 (.str src tsrc), ent w.params "library" t2 (.ref al), ent w.params "shelf" t3 (.ref ash), ent w.params "rows" t4 (.ref ar), ent w.params "gathering" t5 (.ref ag), ent w.params "lines" t6 (.ref ali)] 6) :: (ali, W.listOf vs.toArray nl) :: rest))
  (p_late : g1 = Str.ofString "" → ∀ wr, ws = Str.ofString "late" :: wr → ∀ D n u, P (.ref D) ((D, W.listOf #[Value.str (Str.ofString "bad") u] n) :: (dd, dictOf [ent w.params "source" t1 (.str src tsrc), ent w.params "library" t2 (.ref al), ent w.params "shelf" t3 (.ref ash), ent w.params "rows" t4 (.ref ar), ent w.params "gathering" t5 (.ref ag), ent w.params "lines" t6 (.ref ali)] 6) :: (ali, W.listOf vs.toArray nl) :: rest))
  (p_other : g1 = Str.ofString "" → ∀ w0 wr, ws = w0 :: wr → openOf ws = none → w0 ≠ Str.ofString "good" → w0 ≠ Str.ofString "odd" → w0 ≠ Str.ofString "late" → PE ((dd, dictOf [ent w.params "source" t1 (.str src tsrc), ent w.params "library" t2 (.ref al), ent w.params "shelf" t3 (.ref ash), ent w.params "rows" t4 (.ref ar), ent w.params "gathering" t5 (.ref ag), ent w.params "lines" t6 (.ref ali)] 6) :: (ali, W.listOf vs.toArray nl) :: rest)) :
  AnsAny w mean mg mb base env1 dk x tk ((dd, dictOf [ent w.params "source" t1 (.str src tsrc), ent w.params "library" t2 (.ref al), ent w.params "shelf" t3 (.ref ash), ent w.params "rows" t4 (.ref ar), ent w.params "gathering" t5 (.ref ag), ent w.params "lines" t6 (.ref ali)] 6) :: (ali, W.listOf vs.toArray nl) :: rest) P PE := by
  intro env2 A₀ h₀ L m s Q E B F KX N T hk hf KB TB hLb hret hraise
  have hfresh : ∀ q ∈ (dd, dictOf [ent w.params "source" t1 (.str src tsrc), ent w.params "library" t2 (.ref al), ent w.params "shelf" t3 (.ref ash), ent w.params "rows" t4 (.ref ar), ent w.params "gathering" t5 (.ref ag), ent w.params "lines" t6 (.ref ali)] 6) :: (ali, W.listOf vs.toArray nl) :: rest, h₀.get? q.1 = none := fun q hq => (N q hq).2.2
  have q1 : @Ne Nat dk dd := o1 _ z1
  have q2 : @Ne Nat dk ali := o2 _ z1
  have q3 : @Ne Nat ag dd := o1 _ z3
  have q4 : @Ne Nat ag ali := o2 _ z3
  replace N := news_up (tail_of (tail_of N)) z1 (news_up (tail_of (tail_of N)) z3 N)
  revert KX KB; k_fill; intro KX KB
  refine wpAny_call ?_
  k_dflt (refine' code_defR ?k1 ?k2 ?k3 ?k4 ?k5 ?kA ?kF ?kK ?k6 ?k7 ?k8 ?k9 ?kB ?_ ?c2 ?c3 ?c4 ?c5; (case kA => exact rfl); (case kF => exact hf); (case kK => exact hk); (case k1 => exact B); (case k2 => k_asm); (case k3 => k_asm); (case k4 => k_asm); (case k5 => k_asm); (case k6 => k_is); (case k7 => k_is); (case k8 => k_room); (case k9 => exact BindsTo.of_eq rfl); (case c5 => decide); (case kB => exact locs rfl); (case c2 => exact rfl); (case c3 => exact rfl); (case c4 => exact rfl); k_whole; intro g' L' h' FG' F' N' B' X' T' l0; (try dsimp only); (try k_lift B'); (try k_fold))
  have l9 := lt_of_fr FG' F' hLb
  have kS : Kont True := ⟨trivial⟩
  k_steps
  refine ⟨?_⟩
  refine ne_pair_split (by k_asm) (by k_mem) (by k_mem) hg (by k_units) (fun hg1 => ?_) (fun hg1 => ?_)
  · k_steps
    refine ⟨eq_done_split (by k_asm) (by k_mem) (by k_mem) (by assumption) (by k_units) (fun hd1 => ?_) (fun hd1 => ?_)⟩
    · k_steps
      obtain ⟨PL, hl, hp1⟩ := p_done hg1 hd1
      rename News _ _ _ _ => kN
      refine ⟨hl _ _ _ _ _ _ _ _ _ B' (by k_asm) (by k_asm) (fun p hp => kN p ((by k_extra "sub" : ∀ p ∈ _, p ∈ _) p hp)) (by k_asm) rfl rfl KB TB l9 ?_ ?_⟩
      · intro led1 h' tk' hP F' N'
        clear kN
        k_steps
        rename News _ _ _ _ => kN
        with_reducible rename Fr g' L' _ _ => kF
        (try simp only [List.push_toArray] at kN)
        obtain ⟨G', F3, N3, B3, U3⟩ := back_ground B FG' hLb B' kF kN (Heap.UpToSlots.of_keeps fun _ _ z => z)
        exact hret _ _ G' _ _ (hp1 _ hP _ _) F3 (fun p hp => N3 p ((by k_extra "sub" : ∀ p ∈ _, p ∈ _) p hp)) B3 U3
      · intro e d a0 led1 h' tk' hP hfr R F9 U9
        refine throw_next rfl rfl R fun h7 R7 U7 => ?_
        exact hraise _ _ _ _ h7 _ hP (fun q hq => fresh_of_stays FG'.keep (hfr q hq)) R7 ⟨(U9.trans U7).ns FG'.ns, R7.stays, hLb⟩ ((Heap.UpToSlots.of_keeps FG'.keep).trans (U9.trans U7))
    · k_steps
      rename News _ _ _ _ => kN
      with_reducible rename Fr g' L' _ _ => kF
      (try simp only [List.push_toArray] at kN)
      obtain ⟨G', F3, N3, B3, U3⟩ := back_ground B FG' hLb B' kF kN (Heap.UpToSlots.of_keeps fun _ _ z => z)
      exact hret _ _ G' _ _ (p_app hg1 hd1 _ _) F3 (fun p hp => N3 p ((by k_extra "sub" : ∀ p ∈ _, p ∈ _) p hp)) B3 U3
  · k_steps
    refine ⟨eq_nil_split (by k_asm) (by k_mem) (by k_mem) (by assumption) (by k_units) (fun hw hv => ?_) (fun w0 wr t0 vr hw0 hv sr' => ?_)⟩
    · k_steps
      rename News _ _ _ _ => kN
      with_reducible rename Fr g' L' _ _ => kF
      (try simp only [List.push_toArray] at kN)
      obtain ⟨G', F3, N3, B3, U3⟩ := back_ground B FG' hLb B' kF kN (Heap.UpToSlots.of_keeps fun _ _ z => z)
      exact hret _ _ G' _ _ (p_blank hg1 hw _ _) F3 (fun p hp => N3 p ((by k_extra "sub" : ∀ p ∈ _, p ∈ _) p hp)) B3 U3
    · subst hv
      rename Kont _ => kS
      clear kS
      have hvr : vr.length ≤ 1000 := by
        have : ws.length ≤ 1000 := by rw [← hws]; exact Nat.le_trans (List.length_filter_le _ _) hn
        rw [hw0, List.length_cons] at this
        have := strs_lenS sr'
        omega
      obtain ⟨hw0l, hocc⟩ := hwl _ _ hw0
      k_steps
      refine ⟨ite_split (fun cA => ?_) (fun cA => ?_)⟩
      · have hop : openOf (w0 :: wr) ≠ none := fun e => notnot_no cA (hocc.mpr e)
        k_steps
        refine ⟨ite_split (fun cB => ?_) (fun cB => ?_)⟩
        · k_steps
          refine ⟨ite_split (fun cL => ?_) (fun cL => ?_)⟩
          · k_steps
            rename Thrown _ _ _ _ _ _ _ _ _ => kR; rename Heap.UpToSlots _ _ => kU
            refine' pass_by rfl hLb FG' ?kFa9 kU kR rfl ?k3a9
            case kFa9 => assumption
            intro h' R F9 U9
            exact hraise _ _ _ _ h' _ (p_bad hg1 (hw0 ▸ openL_bad hop (any2.mp cB) (by have := strs_lenS sr'; simp only [bne_iff_ne, ne_eq, Decidable.not_not] at cL; omega))) hfresh (R.sub (by k_extra "sub")) F9 U9
          · obtain ⟨y, ty, rfl, rfl⟩ := strs_one sr' (by simp only [bne_iff_ne, ne_eq, Decidable.not_not] at cL; omega)
            k_steps
            rename News _ _ _ _ => kN
            with_reducible rename Fr g' L' _ _ => kF
            obtain ⟨G', F3, N3, B3, U3⟩ := back_ground B FG' hLb B' kF kN (Heap.UpToSlots.of_keeps fun _ _ z => z)
            refine' hret _ _ G' _ _ (p_open hg1 _ _ _ hw0 (hw0 ▸ openL_ok hop (any2.mp cB)) _ _ _ _ _ _ ?gab9 ?gbb9 ?gcb9 ?gdb9 ?geb9 ?gfb9 ?ggb9) F3 ?gNb9 B3 U3
            case gNb9 => exact (fun p hp => N3 p ((by k_extra "sub" : ∀ p ∈ _, p ∈ _) p hp))
            case gab9 => k_extra "rest"
            case gbb9 => k_extra "rest"
            case gcb9 => k_ne
            case gdb9 => k_ne
            case geb9 => k_ne
            case gfb9 => k_ne
            case ggb9 => k_ne

        · k_steps
          refine ⟨ite_split (fun cL => ?_) (fun cL => ?_)⟩
          · k_steps
            rename Thrown _ _ _ _ _ _ _ _ _ => kR; rename Heap.UpToSlots _ _ => kU
            refine' pass_by rfl hLb FG' ?kFc9 kU kR rfl ?k3c9
            case kFc9 => assumption
            intro h' R F9 U9
            exact hraise _ _ _ _ h' _ (p_bad hg1 (hw0 ▸ openN_bad hop (fun e => cB (any2.mpr e)) (by have := strs_lenS sr'; simp only [bne_iff_ne, ne_eq, Decidable.not_not] at cL; omega))) hfresh (R.sub (by k_extra "sub")) F9 U9
          · obtain ⟨rfl, rfl⟩ := strs_nil sr' (by simp only [bne_iff_ne, ne_eq, Decidable.not_not] at cL; omega)
            k_steps
            rename News _ _ _ _ => kN
            with_reducible rename Fr g' L' _ _ => kF
            obtain ⟨G', F3, N3, B3, U3⟩ := back_ground B FG' hLb B' kF kN (Heap.UpToSlots.of_keeps fun _ _ z => z)
            refine' hret _ _ G' _ _ (p_open hg1 _ _ _ hw0 (hw0 ▸ openN_ok hop (fun e => cB (any2.mpr e))) _ _ _ _ _ _ ?gad9 ?gbd9 ?gcd9 ?gdd9 ?ged9 ?gfd9 ?ggd9) F3 ?gNd9 B3 U3
            case gNd9 => exact (fun p hp => N3 p ((by k_extra "sub" : ∀ p ∈ _, p ∈ _) p hp))
            case gad9 => k_extra "rest"
            case gbd9 => k_extra "rest"
            case gcd9 => k_ne
            case gdd9 => k_ne
            case ged9 => k_ne
            case gfd9 => k_ne
            case ggd9 => k_ne

      · -- not an opening: asked
        have hno := hw0 ▸ hocc.mp (notnot_yes cA)
        k_steps
        refine ⟨ite_split (fun cG => ?_) (fun cG => ?_)⟩
        · have hG : w0 = Str.ofString "good" := by simpa using cG
          rcases hgo wr (hG ▸ hw0) with hz | hz
          · obtain ⟨y, ty, rfl, rfl⟩ := strs_one sr' (by rw [strs_lenS sr']; exact hz)
            k_steps
            rename News _ _ _ _ => kN
            with_reducible rename Fr g' L' _ _ => kF
            (try simp only [List.push_toArray] at kN)
            obtain ⟨G', F3, N3, B3, U3⟩ := back_ground B FG' hLb B' kF kN (Heap.UpToSlots.of_keeps fun _ _ z => z)
            exact hret _ _ G' _ _ (p_good hg1 _ (hG ▸ hw0) _ _ _ _ sr') F3 (fun p hp => N3 p ((by k_extra "sub" : ∀ p ∈ _, p ∈ _) p hp)) B3 U3
          · obtain ⟨y, ty, y2, ty2, rfl, rfl⟩ := strs_two sr' (by rw [strs_lenS sr']; exact hz)
            k_steps
            rename News _ _ _ _ => kN
            with_reducible rename Fr g' L' _ _ => kF
            (try simp only [List.push_toArray] at kN)
            obtain ⟨G', F3, N3, B3, U3⟩ := back_ground B FG' hLb B' kF kN (Heap.UpToSlots.of_keeps fun _ _ z => z)
            exact hret _ _ G' _ _ (p_good hg1 _ (hG ▸ hw0) _ _ _ _ sr') F3 (fun p hp => N3 p ((by k_extra "sub" : ∀ p ∈ _, p ∈ _) p hp)) B3 U3
        · k_steps
          refine ⟨ite_split (fun cO => ?_) (fun cO => ?_)⟩
          · have hO : w0 = Str.ofString "odd" := by simpa using cO
            k_steps
            rename Thrown _ _ _ _ _ _ _ _ _ => kR
            rename Heap.UpToSlots _ _ => kU
            rename News _ _ _ _ => kN
            with_reducible rename Fr g' L' _ _ => kFG
            (refine' catch_as rfl B' kFG (lt_of_fr FG' kFG hLb) kU kR (fun q hq => fresh_of_stays kFG.keep (kN q (.tail _ hq)).2.2) KB (topRead_of TB) ?x1e9 ?y1e9 ?x2e9 ?y2e9 ?ke9; (case x1e9 => k_is); (case y1e9 => kts_exm); (case x2e9 => k_is); (case y2e9 => kts_exm))
            clear kN kU kR
            intro vs9 sl9 G h2 tk2 hc F2 N2 B2 U2
            simp only [str_what, str_at] at N2
            have X2 := KB.keeps B2.stays
            have T2 := TB.keeps B2.stays
            k_steps
            rename News _ _ _ _ => kN2
            rename Fr G _ _ _ => kF2
            obtain ⟨G', F3, N3, B3, U3⟩ := back_ground B FG' hLb B2 kF2 kN2 U2
            exact hret _ _ G' _ _ (p_odd hg1 _ (hO ▸ hw0) _ _ _) F3 (fun p hp => N3 p ((by k_extra "sub" : ∀ p ∈ _, p ∈ _) p hp)) B3 U3
          · k_steps
            refine ⟨ite_split (fun cL => ?_) (fun cL => ?_)⟩
            · have hL : w0 = Str.ofString "late" := by simpa using cL
              k_steps
              rename Thrown _ _ _ _ _ _ _ _ _ => kR
              rename Heap.UpToSlots _ _ => kU
              rename News _ _ _ _ => kN
              with_reducible rename Fr g' L' _ _ => kFG
              (refine' catch_as rfl B' kFG (lt_of_fr FG' kFG hLb) kU kR (fun q hq => fresh_of_stays kFG.keep (kN q (.tail _ hq)).2.2) KB (topRead_of TB) ?x1f9 ?y1f9 ?x2f9 ?y2f9 ?kf9; (case x1f9 => k_is); (case y1f9 => kts_exm); (case x2f9 => k_is); (case y2f9 => kts_exm))
              clear kN kU kR
              intro vs9 sl9 G h2 tk2 hc F2 N2 B2 U2
              simp only [str_what, str_at] at N2
              have X2 := KB.keeps B2.stays
              have T2 := TB.keeps B2.stays
              k_steps
              rename News _ _ _ _ => kN2
              rename Fr G _ _ _ => kF2
              obtain ⟨G', F3, N3, B3, U3⟩ := back_ground B FG' hLb B2 kF2 kN2 U2
              exact hret _ _ G' _ _ (p_late hg1 _ (hL ▸ hw0) _ _ _) F3 (fun p hp => N3 p ((by k_extra "sub" : ∀ p ∈ _, p ∈ _) p hp)) B3 U3
            · k_steps
              rename Thrown _ _ _ _ _ _ _ _ _ => kR; rename Heap.UpToSlots _ _ => kU
              refine' pass_again rfl hLb FG' ?kFg9 kU kR KB (topRead_of TB) ?k1g9 ?k2g9 (fun _ z => z) ?k3g9
              case kFg9 => assumption
              case k1g9 => k_is
              case k2g9 => kts_exm
              intro h' R F9 U9
              exact hraise _ _ _ _ h' _ (p_other hg1 _ _ hw0 hno (fun e => cG (by rw [e]; exact beq_self_eq_true _)) (fun e => cO (by rw [e]; exact beq_self_eq_true _)) (fun e => cL (by rw [e]; exact beq_self_eq_true _))) hfresh (R.sub (by k_extra "sub")) F9 U9
end Mine
end

section
open PySem PySem.W PyProof.Rows
set_option Elab.async false
set_option linter.all false
set_option maxRecDepth 100000
set_option maxHeartbeats 2000000
namespace Mine
theorem setForL0 : True := by
  w_top off
  k_with_none
  trivial
open PySem.Calls
section
variable {prog : Program} {w : World} {A : Around} {E : Value → Shared → Prop} {s : Shared} {env : Env} {h₀ : Heap} {x : Str} {body : List Stmt} {Q : Flow → Shared → Prop}
/-- the end of a loop's turn -/
def ForEnd (h₀ : Heap) (L : Addr) (Jn : (Str → Option Value) → List (Addr × Obj) → Prop) (keep : List (Addr × Obj)) (I : Addr) (oI : Obj) (s₁ : Shared) (Q : Flow → Shared → Prop) (f : Flow) (s₂ : Shared) : Prop :=
  match f with
  | .ret v => Q (.ret v) s₂
  | .brk => Q .next s₂
  | _ => ∃ h' tk m' news', s₂ = { s₁ with heap := h', toks := tk } ∧ Fr h₀ L h' m' ∧ News h₀ L h' ((I, oI) :: news') ∧ (∀ p ∈ news', p.1 ≠ I) ∧ (∀ p ∈ keep, p ∈ news') ∧ Jn m' news'
theorem ForEnd.intro {L I : Addr} {oI : Obj} {Jn : (Str → Option Value) → List (Addr × Obj) → Prop} {keep news' : List (Addr × Obj)} {s₁ : Shared} {h' : Heap} {tk : Nat} {m' : Str → Option Value} (F : Fr h₀ L h' m') (N : News h₀ L h' ((I, oI) :: news')) (off : ∀ p ∈ news', p.1 ≠ I) (hk : ∀ p ∈ keep, p ∈ news') (hj : Jn m' news') :
    ForEnd h₀ L Jn keep I oI s₁ Q .next { s₁ with heap := h', toks := tk } := ⟨h', tk, m', news', rfl, F, N, off, hk, hj⟩
/-- a loop over a list of the ledger, by what holds between its turns -/
theorem for_led {ax : Addr} {vs : List Value} {k : Nat} {m₀ : Str → Option Value} {news : List (Addr × Obj)} (J : Nat → (Str → Option Value) → List (Addr × Obj) → Prop)
    (hh : A.handled = none) (F : Fr h₀ env.locals s.heap m₀) (N : News h₀ env.locals s.heap news) (hm : (ax, W.listOf vs.toArray k) ∈ news) (hj : J 0 m₀ news)
    (turn : ∀ i v m₁ news₁ I oI h tk, vs[i]? = some v → J i m₁ news₁ → (ax, W.listOf vs.toArray k) ∈ news₁ → (∀ p ∈ news₁, p.1 ≠ I) → Fr h₀ env.locals h (fun y => if y = x then some v else m₁ y) → News h₀ env.locals h ((I, oI) :: news₁) →
      wpAny (model prog w) A (execs body env) (ForEnd h₀ env.locals (J (i + 1)) [(ax, W.listOf vs.toArray k)] I oI { s with heap := h, toks := tk } Q) E { s with heap := h, toks := tk })
    (done : ∀ m₁ news₁ h tk, J vs.length m₁ news₁ → Fr h₀ env.locals h m₁ → News h₀ env.locals h news₁ → Q .next { s with heap := h, toks := tk }) :
    wpAny (model prog w) A (pyIter (.ref ax)) (fun it s₂ => LoopAtV prog w A h₀ env x body Q E it s₂) E s := by
  have hls : s.heap.IsList ax vs.toArray := ⟨_, (N _ hm).1, rfl, _, rfl⟩
  have hlt : ax < s.heap.objs.size := Heap.lt_size (N _ hm).1
  have hne : ax ≠ s.heap.objs.size := Nat.ne_of_lt hlt
  refine wpAny_pyIter_list hls ?_
  have WW := Walks.list (prog := prog) (w := w) hh s.heap.objs.size ax hne vs.toArray
  refine ⟨s.heap.objs.size, _, _, vs.toArray.size, _, _, m₀, news, fun i m₁ news₁ => (ax, W.listOf vs.toArray k) ∈ news₁ ∧ J i m₁ news₁, rfl, WW, ?_, ?_, ?_, ⟨⟨_, Heap.get?_push_size _ rfl, rfl, rfl⟩, hls.at fun o e => Heap.get?_push_of_some _ e⟩, F.push _, (fun p hp => ⟨Heap.get?_push_of_some _ (N p hp).1, (N p hp).2⟩), ⟨hm, hj⟩, ?_, ?_⟩
  · intro hmL
    rcases List.mem_cons.mp hmL with e | hmL
    · exact absurd F.ns.lt (e ▸ Nat.lt_irrefl _)
    · exact (N _ hm).2.1 (List.mem_singleton.mp hmL).symm
  · intro b hb
    rw [List.mem_singleton.mp hb]
    exact next_is_new F
  · intro p hp hI
    exact absurd (Heap.lt_size (N p hp).1) ((List.mem_singleton.mp hI) ▸ Nat.lt_irrefl _)
  · rintro i v m₁ news₁ s₁ own ⟨hh', tk', rfl⟩ hin hP ⟨hma, hJ⟩ hoff hown howe hall hst F₁ N₁
    obtain ⟨oI, heI, _⟩ := id hst.1
    have offI : ∀ p ∈ news₁, p.1 ≠ s.heap.objs.size := fun p hp q => hoff p hp (List.mem_singleton.mpr q)
    have hI₀ : h₀.get? s.heap.objs.size = none := next_is_new F
    have N₂ : News h₀ env.locals hh' ((s.heap.objs.size, oI) :: news₁) := fun p hp => by
      rcases List.mem_cons.mp hp with rfl | hp
      · exact ⟨heI, Nat.ne_of_gt F.ns.lt, hI₀⟩
      · exact N₁ p (List.mem_append_right _ hp)
    have hv : vs[i]? = some v := by simpa using hP
    refine wpAny_mono (turn i v m₁ news₁ s.heap.objs.size oI hh' tk' hv hJ hma offI F₁ N₂) (fun f s₂ p => ?_) fun _ _ e => e
    have fin : (∃ h' tk m' news', s₂ = { s with heap := h', toks := tk } ∧ Fr h₀ env.locals h' m' ∧ News h₀ env.locals h' ((s.heap.objs.size, oI) :: news') ∧ (∀ p ∈ news', p.1 ≠ s.heap.objs.size) ∧ (∀ p ∈ [(ax, W.listOf vs.toArray k)], p ∈ news') ∧ J (i + 1) m' news') →
        LoopStepU h₀ env.locals [s.heap.objs.size] own (fun m₁ news₁ => (ax, W.listOf vs.toArray k) ∈ news₁ ∧ J (i + 1) m₁ news₁) { s with heap := hh', toks := tk' } .next s₂ := by
      rintro ⟨h', tk, m', news', rfl, F', N', off', hk', hj'⟩
      have hka := hk' _ (.head _)
      refine ⟨rfl, h', tk, m', news', rfl, F', fun q hq => ?_, fun q hq z => off' q hq (List.mem_singleton.mp z), hka, hj'⟩
      rcases List.mem_append.mp hq with hq | hq
      · have z := howe q hq
        rcases List.mem_cons.mp (hown q hq) with e | e
        · have : q = (s.heap.objs.size, oI) := by
            obtain ⟨a, o⟩ := q
            have e' : a = s.heap.objs.size := e
            subst e'
            have z' : hh'.get? s.heap.objs.size = some o := z
            rw [heI] at z'; cases z'; rfl
          rw [this]; exact N' _ (.head _)
        · have e := List.mem_singleton.mp e
          have za := (N₂ _ (.tail _ hma)).1
          have : q = (ax, W.listOf vs.toArray k) := by
            obtain ⟨a, o⟩ := q
            have e' : a = ax := e
            subst e'
            have z' : hh'.get? a = some o := z
            have za' : hh'.get? a = some (W.listOf vs.toArray k) := za
            rw [za'] at z'; cases z'; rfl
          rw [this]; exact N' _ (.tail _ hka)
      · exact N' q (.tail _ hq)
    cases f with
    | ret v => exact .ret p
    | brk => exact .brk p
    | next => exact .next (fin p)
    | cont => exact .cont (fin p)
  · rintro h' tk m' news' F' N' _ ⟨_, hJ⟩
    exact done m' news' h' tk (by simpa using hJ) F' N'
end
end Mine
end

section
open PySem PySem.W PySem.W.X PyProof.Rows
set_option Elab.async false
set_option maxRecDepth 100000
set_option maxHeartbeats 0
set_option linter.all false
namespace Mine
theorem setBytesX0 : True := by
  w_top off
  k_with_none
  trivial
structure OnlyMore (h h' : Heap) : Prop where
  keep : ∀ b o, h.get? b = some o → h'.get? b = some o
theorem onlyMore_of {h h' : Heap} {l : List (Addr × Obj)} (D : Mem h h' [] l) : OnlyMore h h' := ⟨fun b o q => D.keep b o q (by simp [away])⟩
theorem onlyMore_rfl {h : Heap} : OnlyMore h h := ⟨fun b o q => q⟩
local macro_rules | `(tactic| x_close) => `(tactic| ((rename Kont _ => kR); first | exact kR.out _ _ _ (onlyMore_of (by assumption)) | exact kR.out _ _ _ onlyMore_rfl))
theorem bytes_bytes (w : World) (h : Heap) (g : Array GenState) (d : Drawn) (t : Nat) (os : OsState) (E : Value → Shared → Prop) (Q : Value → Shared → Prop) (dp un : Nat) (fr : Option (List Env)) (gd : Option (List Code)) (b : Array UInt8) (tb : Tok)
  (hret : Kont (∀ h' tk u, OnlyMore h h' → Q (.bytes b u) ⟨h', g, d, tk, os⟩)) :
  wpAny (model PySem.Challenge.rw_pb0238_01.row.prog w) ⟨none, dp, fr, gd, un⟩ (call (.type "bytes") [.bytes b tb]) Q E ⟨h, g, d, t, os⟩ := by
  x_run
theorem bytes_bytesK {w : World} {A : Around} {s : Shared} {h₀ : Heap} {L : Addr} {m : Str → Option Value} {news : List (Addr × Obj)} {b : Array UInt8} {tb : Tok} {Q E : Value → Shared → Prop} (hh : A.handled = none) (F : Fr h₀ L s.heap m) (N : News h₀ L s.heap news)
    (h : ∀ h' tk u, Fr h₀ L h' m → News h₀ L h' news → Q (.bytes b u) { s with heap := h', toks := tk }) : wpAny (model PR w) A (call (.type "bytes") [.bytes b tb]) Q E s := by
  obtain ⟨hp, g, d, t, os⟩ := s
  obtain ⟨hx, dp, fr, gd, un⟩ := A
  obtain rfl : hx = none := hh
  exact bytes_bytes w hp g d t os E Q dp un fr gd b tb ⟨fun h' tk u k => h h' tk u (F.keeps k.keep) (N.grown k.keep)⟩
end Mine
end

section
open PySem PySem.W PyProof.Rows
set_option Elab.async false
set_option linter.all false
set_option maxRecDepth 100000
set_option maxHeartbeats 2000000
namespace Mine
theorem setLayL0 : True := by
  w_top off
  k_with_none
  trivial
open PySem.Calls
theorem rows_at : ∀ {vs : List Value} {ls : List Str} {i : Nat} {v : Value}, RowsAre vs ls → vs[i]? = some v → ∃ y t, v = .bytes (rowOf y) t ∧ ls[i]? = some y
  | _, _, 0, _, .cons y t _, h => ⟨y, t, (Option.some.inj h).symm, rfl⟩
  | _, _, i + 1, _, .cons _ _ r, h => rows_at (i := i) r (by simpa using h)
section
variable {prog : Program} {w : World} {A : Around} {E : Value → Shared → Prop} {s : Shared} {env : Env} {h₀ : Heap} {x : Str} {body : List Stmt} {Q : Flow → Shared → Prop}
def RowEnd (h₀ : Heap) (L : Addr) (m₀ : Str → Option Value) (x : Str) (g : Obj → List (Addr × Obj)) (I : Addr) (oI : Obj) (ls : List Str) (s₁ : Shared) (Q : Flow → Shared → Prop) (f : Flow) (s₂ : Shared) : Prop :=
  match f with
  | .ret v => Q (.ret v) s₂
  | .brk => Q .next s₂
  | _ => ∃ h' tk m' cs n, s₂ = { s₁ with heap := h', toks := tk } ∧ Fr h₀ L h' m' ∧ (∀ z, z ≠ x → m' z = m₀ z) ∧ News h₀ L h' ((I, oI) :: g (W.listOf cs n)) ∧ RowsAre cs.toList ls
theorem RowEnd.intro {L I : Addr} {oI : Obj} {m₀ m' : Str → Option Value} {g : Obj → List (Addr × Obj)} {ls : List Str} {s₁ : Shared} {h' : Heap} {tk n : Nat} {cs : Array Value} (F : Fr h₀ L h' m') (hm : ∀ z, z ≠ x → m' z = m₀ z) (N : News h₀ L h' ((I, oI) :: g (W.listOf cs n))) (hr : RowsAre cs.toList ls) :
    RowEnd h₀ L m₀ x g I oI ls s₁ Q .next { s₁ with heap := h', toks := tk } := ⟨h', tk, m', cs, n, rfl, F, hm, N, hr⟩
/-- a loop that lays each row of a list upon another list -/
theorem rows_loop {ax cA : Addr} {vs : List Value} {k n0 : Nat} {lines : List Str} {m₀ : Str → Option Value} {news : List (Addr × Obj)} {g : Obj → List (Addr × Obj)}
    {yc : Str} (hh : A.handled = none) (F : Fr h₀ env.locals s.heap m₀) (hc : m₀ yc = some (.ref cA)) (N : News h₀ env.locals s.heap news) (hm : (ax, W.listOf vs.toArray k) ∈ news) (hne : ax ≠ cA) (U : UpdF cA (W.listOf #[] n0) news g) (hra : RowsAre vs lines)
    (turn : ∀ i y t (cs : Array Value) n I oI h tk, lines[i]? = some y → RowsAre cs.toList (lines.take i) → (∀ p ∈ g (W.listOf cs n), p.1 ≠ I) → Fr h₀ env.locals h (fun z => if z = x then some (.bytes (rowOf y) t) else m₀ z) → News h₀ env.locals h ((I, oI) :: g (W.listOf cs n)) →
      wpAny (model prog w) A (execs body env) (RowEnd h₀ env.locals m₀ x g I oI (lines.take (i + 1)) { s with heap := h, toks := tk } Q) E { s with heap := h, toks := tk })
    (done : ∀ m₁ (cs : Array Value) n h tk, RowsAre cs.toList lines → (∀ z, z ≠ x → m₁ z = m₀ z) → Fr h₀ env.locals h m₁ → News h₀ env.locals h (g (W.listOf cs n)) → Q .next { s with heap := h, toks := tk }) :
    wpAny (model prog w) A (pyIter (.ref ax)) (fun it s₂ => LoopAtV prog w A h₀ env x body Q E it s₂) E s := by
  obtain ⟨pre, post, rfl, hg, _, _⟩ := U.split
  have keep : ∀ o', (ax, W.listOf vs.toArray k) ∈ g o' := fun o' => by
    rw [hg]
    rcases List.mem_append.mp hm with z | z
    · exact List.mem_append_left _ z
    · rcases List.mem_cons.mp z with z | z
      · exact absurd (Prod.mk.inj z).1 hne
      · exact List.mem_append_right _ (.tail _ z)
  refine for_led (fun i m₁ nw => (∀ z, z ≠ x → m₁ z = m₀ z) ∧ ∃ (cs : Array Value) (n : Nat), nw = g (W.listOf cs n) ∧ RowsAre cs.toList (lines.take i)) hh F N hm ⟨fun _ _ => rfl, #[], n0, (hg _).symm, .nil⟩ ?_ ?_
  · rintro i v m₁ news₁ I oI h tk hv ⟨hm₁, cs, n, rfl, hr⟩ _ off F₁ N₁
    obtain ⟨y, t, rfl, hy⟩ := rows_at hra hv
    have e : (fun z => if z = x then some (Value.bytes (rowOf y) t) else m₁ z) = fun z => if z = x then some (Value.bytes (rowOf y) t) else m₀ z := by
      funext z
      by_cases h1 : z = x
      · simp [h1]
      · simp only [if_neg h1]; exact hm₁ z h1
    rw [e] at F₁
    refine wpAny_mono (turn i y t cs n I oI h tk hy hr off F₁ N₁) (fun f s₂ p => ?_) fun _ _ e => e
    have fin : (∃ h' tk' m' cs' n', s₂ = { s with heap := h', toks := tk' } ∧ Fr h₀ env.locals h' m' ∧ (∀ z, z ≠ x → m' z = m₀ z) ∧ News h₀ env.locals h' ((I, oI) :: g (W.listOf cs' n')) ∧ RowsAre cs'.toList (lines.take (i + 1))) →
        ∃ h' tk' m' news', s₂ = { s with heap := h', toks := tk' } ∧ Fr h₀ env.locals h' m' ∧ News h₀ env.locals h' ((I, oI) :: news') ∧ (∀ p ∈ news', p.1 ≠ I) ∧ (∀ p ∈ [(ax, W.listOf vs.toArray k)], p ∈ news') ∧ ((∀ z, z ≠ x → m' z = m₀ z) ∧ ∃ (cs : Array Value) (n : Nat), news' = g (W.listOf cs n) ∧ RowsAre cs.toList (lines.take (i + 1))) := by
      rintro ⟨h', tk', m', cs', n', e1, F', hm', N', hr'⟩
      refine ⟨h', tk', m', g (W.listOf cs' n'), e1, F', N', fun p hp => ?_, fun p hp => (List.mem_singleton.mp hp) ▸ keep _, hm', cs', n', rfl, hr'⟩
      rw [hg] at hp
      rcases List.mem_append.mp hp with z | z
      · exact off p (by rw [hg]; exact List.mem_append_left _ z)
      · rcases List.mem_cons.mp z with rfl | z
        · exact off (cA, W.listOf cs n) (by rw [hg]; exact List.mem_append_right _ (.head _))
        · exact off p (by rw [hg]; exact List.mem_append_right _ (.tail _ z))
    cases f with
    | ret v => exact p
    | brk => exact p
    | next => exact fin p
    | cont => exact fin p
  · rintro m₁ news₁ h tk ⟨hm₁, cs, n, rfl, hr⟩ F₁ N₁
    have q : lines.take vs.length = lines := by rw [rows_len hra, List.take_length]
    rw [q] at hr
    exact done m₁ cs n h tk hr hm₁ F₁ N₁
end
end Mine
end

section
open PySem PySem.W PyProof.Rows
set_option Elab.async false
set_option linter.all false
set_option maxRecDepth 100000
set_option maxHeartbeats 2000000
namespace Mine
theorem setCompR0 : True := by
  w_top off
  k_with_none
  trivial
open PySem.Calls LCg LCt
section
variable {prog : Program} {w : World} {A : Around} {E : Value → Shared → Prop} {s : Shared} {h₀ : Heap} {L : Addr} {m : Str → Option Value} {env : Env}
/-- a comprehension over a list of the ledger whose element raises at one place -/
structure RestR (prog : Program) (w : World) (A : Around) (E : Value → Shared → Prop) (h₀ : Heap) (L : Addr) (m : Str → Option Value) (env : Env) (elt : Expr) (x : Str) (scope : Scope) (cl : List (Str × Addr)) (Q : Value → Shared → Prop) (vs : List Value) (k : Nat) (v : Value) (news : List (Addr × Obj)) (s : Shared) : Prop where
  at_ : ∃ (G : Nat → List Value → Prop), G 0 [] ∧ (∀ (i : Nat) (ys : List Value), G i ys → ys.length ≤ 1000) ∧
    (∀ (i : Nat) (v : Value) (ys : List Value) (I : Addr) (oI : Obj) (C : Addr) (oC : Obj) (D : Addr) (m₂ : Str → Option Value) (h : Heap) (tk : Nat) (E' : Value → Shared → Prop), i < k → vs[i]? = some v → G i ys → NsObj oC m₂ → m₂ x = some v → Fr h₀ L h m → News h₀ L h ((I, oI) :: (C, oC) :: (D, lst ys) :: news) → Off3 I C D news → ((@Ne Nat I C) ∧ (@Ne Nat I D) ∧ (@Ne Nat C D)) →
      wpAny (model prog w) A (eval elt (compEnvC scope cl C env)) (CompEnd h₀ L m { s with heap := h, toks := tk } I oI C oC D (lst ys) (fun _ => True) (fun y nw => nw = news ∧ G (i + 1) (ys ++ [y]))) E' { s with heap := h, toks := tk }) ∧
    (∀ (ys : List Value) (I : Addr) (oI : Obj) (C : Addr) (oC : Obj) (D : Addr) (m₂ : Str → Option Value) (h : Heap) (tk : Nat), NsObj oC m₂ → m₂ x = some v → Fr h₀ L h m → News h₀ L h ((I, oI) :: (C, oC) :: (D, lst ys) :: news) → Off3 I C D news → ((@Ne Nat I C) ∧ (@Ne Nat I D) ∧ (@Ne Nat C D)) →
      wpAny (model prog w) A (eval elt (compEnvC scope cl C env)) (fun _ _ => False) (notedBy (model prog w) A (compEnvC scope cl C env) fun e s' => compPost (model prog w) A E none Q (.ref D) C (.error e) s') { s with heap := h, toks := tk })
structure SrcR (prog : Program) (w : World) (A : Around) (E : Value → Shared → Prop) (h₀ : Heap) (L : Addr) (m : Str → Option Value) (env : Env) (elt : Expr) (x : Str) (scope : Scope) (cl : List (Str × Addr)) (Q : Value → Shared → Prop) (xv : Value) (s₁ : Shared) : Prop where
  at_ : ∃ ax vs kk news k v, xv = .ref ax ∧ A.handled = none ∧ Fr h₀ L s₁.heap m ∧ News h₀ L s₁.heap news ∧ (ax, ({ cls := .type "list", data := .seq vs.toArray kk } : Obj)) ∈ news ∧ vs[k]? = some v ∧
      ∀ s₂ : Shared, (∃ h, s₂ = { s₁ with heap := h }) → RestR prog w A E h₀ L m env elt x scope cl Q vs k v news s₂
theorem ListComp_R {elt iter : Expr} {x : Str} {px : Pos} {scope : Scope} {cl : List (Str × Addr)} {pos : Pos} {Q : Value → Shared → Prop} (F₀ : Fr h₀ L s.heap m)
    (hclos : closureFor scope env = pure cl) (hcell : ∀ y ∈ scope.names, y.2 ≠ .cell) (hkind : scope.kind = .function)
    (hnames : ∀ y ∈ scope.names, y.2 = .local → scope.names.lookup y.1 = some .local) (hx : scope.names.lookup x = some .local)
    (h : wpAny (model prog w) A (eval iter env) (SrcR prog w A E h₀ L m env elt x scope cl Q) E s)
    (hs : ∀ x, foldedSetIterable iter env x = pure x := by intro _; rfl) :
    wpAny (model prog w) A (eval (.ListComp elt [⟨.Name x px, iter, [], 0⟩] scope pos) env) Q E s := by
  rw [eval_ListComp]
  refine wpAny_comprehension_free (use := none) rfl hs hclos hkind hnames (wpAny_mono h (fun xv s₁ h₁ => ?_) fun _ _ e => e)
  obtain ⟨ax, vs, kk, news, k, v, rfl, hh, F, N, hm, hvk, R⟩ := h₁.at_
  have S : SrcAt h₀ ax vs.toArray news := .inr ⟨_, hm, rfl, _, rfl⟩
  have hl := S.list F.keep N
  have hlt : ax < s₁.heap.objs.size := by obtain ⟨_, e, _⟩ := hl; exact Heap.lt_size e
  refine wpAny_pyIter_list hl ?_
  have up : ∀ b o, s₁.heap.get? b = some o → (s₁.heap.push { cls := .type "list_iterator", data := .fields #[.ref ax, .int 0 0] }).get? b = some o := fun b o e => Heap.get?_push_of_some _ e
  generalize hI : s₁.heap.objs.size = I at *
  have W := Walks.list (prog := prog) (w := w) hh I ax (Nat.ne_of_lt hlt) vs.toArray
  generalize hs2' : ({ s₁ with heap := s₁.heap.push { cls := .type "list_iterator", data := .fields #[.ref ax, .int 0 0] } } : Shared) = s₂
  have hh2 : s₂.heap = s₁.heap.push { cls := .type "list_iterator", data := .fields #[.ref ax, .int 0 0] } := by rw [← hs2']
  have hsz2 : s₂.heap.objs.size = I + 1 := by rw [hh2, Heap.size_push, hI]
  obtain ⟨G, hG0, hlen, good, bad⟩ := (R s₂ ⟨_, hs2'.symm⟩).at_
  have F2 : Fr h₀ L s₂.heap m := by rw [hh2]; exact F.keeps up
  have N2 : News h₀ L s₂.heap news := by rw [hh2]; exact N.grown up
  have hst : s₂.heap.IsListIter I ax 0 ∧ s₂.heap.IsList ax vs.toArray := by rw [hh2]; exact ⟨⟨_, hI ▸ Heap.get?_push_size _ rfl, rfl, rfl⟩, hl.push _⟩
  have hIL : L ≠ I := by rw [← hI]; exact Nat.ne_of_lt F.ns.lt
  have hI₀ : h₀.get? I = none := hI ▸ next_is_new F
  have off : ∀ p ∈ news, p.1 ≠ I := fun p hp => by rw [← hI]; exact Nat.ne_of_lt (Heap.lt_size (N p hp).1)
  clear hs2'
  refine wpAny_newObj_type (wpAny_newFunctionEnv hcell (by intro y hy; simp at hy) (fun h₁ hns₁ hsb₁ => ?_) hkind)
  dsimp only at hns₁ hsb₁ ⊢
  generalize hH2 : s₂.heap.push { cls := .type "list", dict := none, data := .seq ([] : List Value).toArray } = H2 at hns₁ hsb₁ ⊢
  have hC : H2.objs.size = s₂.heap.objs.size + 1 := by rw [← hH2, Heap.size_push]
  have hDC : s₂.heap.objs.size ≠ H2.objs.size := by rw [hC]; exact Nat.ne_of_lt (Nat.lt_succ_self _)
  have below : ∀ b, b < s₂.heap.objs.size → b ≠ H2.objs.size ∧ b ≠ s₂.heap.objs.size := fun b hb => ⟨by rw [hC]; exact Nat.ne_of_lt (Nat.lt_succ_of_lt hb), Nat.ne_of_lt hb⟩
  have hIlt : I < s₂.heap.objs.size := by rw [hsz2]; exact Nat.lt_succ_self _
  have haxlt : ax < s₂.heap.objs.size := Nat.lt_trans hlt hIlt
  have old : ∀ b o, s₂.heap.get? b = some o → h₁.get? b = some o := fun b o e => hsb₁.extBut b o (below b (Heap.lt_size e)).1 (Heap.get?_push_of_some _ (hH2 ▸ Heap.get?_push_of_some _ e))
  have hacc : h₁.get? s₂.heap.objs.size = some (lst []) := hsb₁.extBut _ _ hDC (Heap.get?_push_of_some _ (hH2 ▸ Heap.get?_push_size _ rfl))
  have fresh₀ : ∀ a, s₂.heap.objs.size ≤ a → h₀.get? a = none := fun a ha => by
    cases e : h₀.get? a with
    | none => rfl
    | some o' => exact absurd (Heap.lt_size (F2.keep a o' e)) (Nat.not_lt.mpr ha)
  have hD₀ : h₀.get? s₂.heap.objs.size = none := fresh₀ _ (Nat.le_refl _)
  have hC₀ : h₀.get? H2.objs.size = none := fresh₀ _ (by rw [hC]; exact Nat.le_succ _)
  have hLlt : L < s₂.heap.objs.size := F2.ns.lt
  have hDL : s₂.heap.objs.size ≠ L := Ne.symm (below L hLlt).2
  have hCL : H2.objs.size ≠ L := Ne.symm (below L hLlt).1
  have hCI : I ≠ H2.objs.size := (below I hIlt).1
  have hDI : I ≠ s₂.heap.objs.size := (below I hIlt).2
  have off₀ : Off3 I H2.objs.size s₂.heap.objs.size news := Off3.of fun p hp => ⟨off p hp, (below _ (Heap.lt_size (N2 p hp).1)).1, (below _ (Heap.lt_size (N2 p hp).1)).2⟩
  have off3 := off₀.mem
  have hkl : k < vs.length := by
    obtain ⟨z, _⟩ := List.getElem?_eq_some_iff.mp hvk
    exact z
  have loop : ∀ s₃ : Shared, s₃ = { s₂ with heap := h₁, toks := s₂.toks + ([] : List (Str × Value)).length } →
      codeAny (model prog w) A (.compLoop (.ListComp elt [⟨.Name x px, iter, [], 0⟩] scope pos) 0 (.ref I) (.ref s₂.heap.objs.size) (compEnvC scope cl H2.objs.size env))
        (compPost (model prog w) A E none Q (.ref s₂.heap.objs.size) H2.objs.size) s₃ := by
    rintro s₃ rfl
    refine codeAny_compLoop_list (fun n s' => ∃ h' tk i ys m', s' = { s₂ with heap := h', toks := tk } ∧ i ≤ k ∧ n = k + 1 - i ∧ (h'.IsListIter I ax i ∧ h'.IsList ax vs.toArray) ∧ Fr h₀ L h' m ∧ h'.Ns H2.objs.size m' ∧ News h₀ L h' ((s₂.heap.objs.size, lst ys) :: news) ∧ G i ys) ?_ (k + 1)
      ⟨h₁, _, 0, [], _, rfl, Nat.zero_le _, rfl, W.frame _ _ _ hst fun b _ o e => old b o e, F2.keeps old, hns₁, fun p hp => ?_, hG0⟩ (by intro _; rfl)
    · rintro n s' ⟨h', tk, i, ys, m', rfl, hi, rfl, hst', F', hn', N', hG'⟩
      have hiv : i < vs.toArray.size := by simp; omega
      refine W.item i _ _ _ hiv hst' fun u h₂ tk₂ hPv hst₂ hk₂ => ?_
      have hu : vs[i]? = some u := by simpa using hPv
      refine wpAny_assign_Name (wpAny_storeName_local (lookup_relabel_local hx) (hn'.at' fun o e => hk₂ _ o (by simpa using Ne.symm hCI) e) (fun h₃ hn₃ hs₃ => ?_) (by simp [compEnvC, relabel, hkind]))
      have hst₃ : h₃.IsListIter I ax (i + 1) ∧ h₃.IsList ax vs.toArray := W.frame _ _ _ hst₂ fun b hb o e => hs₃.extBut b o (fun q => by
        rcases List.mem_cons.mp hb with z | z
        · exact hCI (z.symm.trans q)
        · exact (below ax haxlt).1 ((List.mem_singleton.mp z).symm.trans q)) e
      obtain ⟨oI, heI, _⟩ := id hst₃.1
      obtain ⟨oC, heC, hoC⟩ := ns_obj hn₃
      have F₃ : Fr h₀ L h₃ m := (fr_but F' hk₂ hIL hI₀).change hs₃ hCL hC₀
      have N₂ : News h₀ L h₂ ((s₂.heap.objs.size, lst ys) :: news) := news_but N' hk₂ fun p hp => by
        rcases List.mem_cons.mp hp with rfl | hp
        · exact Ne.symm hDI
        · exact (off3 p hp).1
      have N₃ : News h₀ L h₃ ((I, oI) :: (H2.objs.size, oC) :: (s₂.heap.objs.size, lst ys) :: news) := fun p hp => by
        rcases List.mem_cons.mp hp with rfl | hp
        · exact ⟨heI, Ne.symm hIL, hI₀⟩
        · rcases List.mem_cons.mp hp with rfl | hp
          · exact ⟨heC, hCL, hC₀⟩
          · have z := N₂ p hp
            refine ⟨hs₃.extBut _ _ ?_ z.1, z.2⟩
            rcases List.mem_cons.mp hp with rfl | hp
            · exact hDC
            · exact (off3 p hp).2.1
      by_cases hlt : i < k
      · refine wpAny_mono (good i u ys I oI H2.objs.size oC s₂.heap.objs.size _ h₃ _ _ hlt hu hG' hoC (by simp) F₃ N₃ off₀ ⟨hCI, hDI, Ne.symm hDC⟩) (fun y s₄ h₄ => ?_) fun _ _ e => e
        obtain ⟨H₄, tk₄, news₄, rfl, F₄, N₄, off₄, _, rfl, hG₄⟩ := h₄
        have N₄' : News h₀ L H₄ news₄ := fun p hp => N₄ p (.tail _ (.tail _ (.tail _ hp)))
        have hst₄ : H₄.IsListIter I ax (i + 1) ∧ H₄.IsList ax vs.toArray := list_st (h₀ := h₀) (L := L) _ _ _ _ _ hst₃ heI (N₄ _ (.head _)).1 F₄.keep N₄' S
        have zD := (N₄ (s₂.heap.objs.size, lst ys) (.tail _ (.tail _ (.head _)))).1
        refine append_at (hsz := by show ys.toArray.size ≤ sizeLine; rw [List.size_toArray, sizeLine_eq]; have := hlen _ _ hG'; omega) zD fun h₅ hs₅ hD₅ => ?_
        refine ⟨k + 1 - (i + 1), by omega, h₅, tk₄, i + 1, ys ++ [y], _, rfl, hlt, rfl, W.frame _ _ _ hst₄ fun b hb o e => hs₅.extBut b o (fun q => by
          rcases List.mem_cons.mp hb with z | z
          · exact hDI (z.symm.trans q)
          · exact (below ax haxlt).2 ((List.mem_singleton.mp z).symm.trans q)) e, F₄.change hs₅ hDL hD₀, (hoC.ns (N₄ _ (.tail _ (.head _))).1).sameBut hs₅ (Ne.symm hDC), fun p hp => ?_, hG₄⟩
        rcases List.mem_cons.mp hp with rfl | hp
        · exact ⟨hD₅.trans (congrArg some (lst_snoc ys y)), hDL, hD₀⟩
        · exact ⟨hs₅.extBut _ _ (off3 p hp).2.2 (N₄' p hp).1, (N₄' p hp).2⟩
      · obtain rfl : i = k := Nat.le_antisymm hi (Nat.not_lt.mp hlt)
        obtain rfl : u = v := by rw [hvk] at hu; exact (Option.some.inj hu).symm
        exact wpAny_mono (bad ys I oI H2.objs.size oC s₂.heap.objs.size _ h₃ _ hoC (by simp) F₃ N₃ off₀ ⟨hCI, hDI, Ne.symm hDC⟩) (fun _ _ z => z.elim) fun _ _ e => e
    · rcases List.mem_cons.mp hp with rfl | hp
      · exact ⟨hacc, hDL, hD₀⟩
      · exact ⟨old _ _ (N2 p hp).1, (N2 p hp).2⟩
  exact codeAny_compStart_list (loop _ rfl) (W.self 0 _ _ _ (W.frame _ _ _ hst fun b _ o e => old b o e) (loop _ rfl))
theorem SrcR.intro {elt : Expr} {x : Str} {scope : Scope} {cl : List (Str × Addr)} {Q : Value → Shared → Prop} {ax : Addr} {vs : List Value} {kk k : Nat} {v : Value} {news : List (Addr × Obj)} {s₁ : Shared}
    (hh : A.handled = none) (F : Fr h₀ L s₁.heap m) (N : News h₀ L s₁.heap news) (hm : (ax, W.listOf vs.toArray kk) ∈ news) (hk : vs[k]? = some v) (h : ∀ g, RestR prog w A E h₀ L m env elt x scope cl Q vs k v news { s₁ with heap := g }) :
    SrcR prog w A E h₀ L m env elt x scope cl Q (.ref ax) s₁ := ⟨ax, vs, kk, news, k, v, rfl, hh, F, N, hm, hk, fun _ ⟨g, e⟩ => e ▸ h g⟩
end
end Mine
end

section
open PySem PySem.W PyProof.Rows
set_option Elab.async false
set_option linter.all false
set_option maxRecDepth 100000
set_option maxHeartbeats 0
set_option pp.maxSteps 20000
namespace Mine
theorem setRow20 : True := by
  w_top off
  k_with_none
  k_with "rest1" => (refine' rest_ne1 ?zh ?zs; (case zh => with_reducible assumption); (case zs => k_extra "sub"))
  k_with "rest2" => (rename (∀ p ∈ (_ : List (Addr × Obj)), p.1 < _) => zzR; first | (refine' rest_ne2 zzR ?zs ?zl; (case zs => k_extra "sub"); (case zl => first | exact Nat.le_refl _ | exact Nat.le_succ _ | ((try dsimp only); omega))) | (clear zzR; k_extra "rest2"))
  k_with "rest" => (first | assumption | k_extra "rest1" | k_extra "rest2")
  k_with "sub" => (first | exact List.forall_mem_nil _ | (refine List.forall_mem_cons.mpr ⟨by k_mem, ?_⟩; k_extra "sub") | (intro p hp; (repeat (first | exact hp | refine List.Mem.tail _ ?_)); done))
  k_with "sub" => (intro p hp; (repeat (first | with_reducible exact hp | refine List.Mem.tail _ ?_)); done)
  k_with "nl" => (first | exact Nat.ne_of_lt zz1.1 | exact Nat.ne_of_gt zz1.1 | (replace zz1 := zz1.2; k_extra "nl"))
  k_with "ne" => (refine neN ?_; (try dsimp only); (repeat (rename (@Ne Nat _ _) => zz; clear zz)); omega)
  k_with "ne" => (refine neN ?_; (try dsimp only); (rename (@LT.lt Nat _ _ _ ∧ _) => zz1); first | k_extra "nl" | (clear zz1; (rename (@LT.lt Nat _ _ _ ∧ _) => zz1); first | k_extra "nl" | (clear zz1; (rename (@LT.lt Nat _ _ _ ∧ _) => zz1); k_extra "nl")))
  k_with "ne" => (refine neN ?_; (try dsimp only); first | assumption | (refine Ne.symm ?_; assumption))
  k_with "all" => (first | assumption | k_extra "rest")
  k_with "exec Raise some none" => ((refine raise_stmt rfl ?_))
  k_with "call ref" => ((k_here; k_dflt (first | (with_reducible show wpAny _ _ (call (Value.ref 84) [Value.str _ _]) _ _ _) | (with_reducible show wpAny _ _ (call (Value.ref 60) [Value.str _ _]) _ _ _) | (with_reducible show wpAny _ _ (call (Value.ref 60) [Value.str _ _, Value.ref _]) _ _ _)); k_dflt (refine' fault_make ?a1 ?B ?F ?X ?N ?T ?fr ?hf ?hk ?ro ?u ?r ?bi ?_; (case a1 => first | exact cls84 _ | exact cls60 _); (case B => k_asm); (case F => k_asm); (case X => k_asm); (case N => k_asm); (case T => k_asm); (case fr => exact rfl); (case hf => exact rfl); (case hk => exact rfl); (case ro => exact Nat.le_of_ble_eq_true rfl); (case u => exact Nat.le_of_ble_eq_true rfl); (case r => exact Nat.le_of_ble_eq_true rfl); (case bi => first | exact fun x s9 fd oc od osl X e => bind37_1 X e | exact fun x s9 fd oc od osl X e => bind37_2 X e)); intro e' d' n' q1' q2' q3' q4' h' tk' F' N' ne1 ne2; (try k_sweep)))
  k_with "leaving ref" => ((k_here; k_dflt (refine' throw_first ?k1 ?k2 ?k3 ?k4 ?k5 ?k6 ?k7 ?_ ?k8; (case k1 => k_asm); (case k2 => k_asm); (case k3 => k_asm); (case k4 => assumption); (case k5 => rfl); (case k6 => rfl); (case k7 => exact ⟨rfl, rfl⟩); (case k8 => rfl)); intro h' R' U'))
  k_with "eval ListComp" => ((k_here; first
      | ((with_reducible show wpAny _ _ (eval (PySem.Expr.ListComp _ [⟨_, _, [_], _⟩] _ _) _) _ _ _); k_dflt (refine ListComp_ST (F₀ := by k_asm) (by with_unfolding_all rfl) (by decide) (by rfl) (by decide) (by rfl) ?_))
      | ((with_reducible show wpAny _ _ (eval (PySem.Expr.ListComp _ [⟨_, _, [], _⟩] _ _) _) _ _ _); k_dflt (refine ListComp_SU (F₀ := by k_asm) (by with_unfolding_all rfl) (by decide) (by rfl) (by decide) (by rfl) ?_))))
  k_with "SrcST" => ((k_here; k_dflt (refine SrcST.intro (by rfl) (by k_asm) (by k_asm) ?_ ?_)))
  k_with "SrcSU" => ((k_here; k_dflt (refine SrcSU.intro (by rfl) (by k_asm) (by k_asm) ?_ ?_)))
  k_with "call type:bytes" => ((k_here; k_dflt (refine' bytes_K ?F ?N ?l ?i ?r ?z ?h ?_; (case F => k_asm); (case N => k_asm); (case l => exact News.isList (by k_asm) (by k_mem)); (case i => assumption); (case r => assumption); (case z => assumption); (case h => exact rfl)); intro h' t' k' F' N' ab'))
  trivial
theorem row_ok (w : World) (mean : ExcName → Option Value) (mg mb : Str → Option Value)
  (env1 env2 env3 env4 : Env) (A₀ : Around) (base h₀ : Heap) (L : Addr) (m : Str → Option Value) (s : Shared) (Q E : Value → Shared → Prop)
  (y : Str) (tk : Tok) (hy : y.cps.size ≤ 1000) (hok : ∀ c ∈ y.cps, c ≤ 127) (led : List (Addr × Obj))
  (B : Below A₀ base [env3, env2, env1] h₀) (F : Fr h₀ L s.heap m) (KX : (hd.heap_1 w.params).In h₀) (N : News h₀ L s.heap led)
  (T : Top hd.view_39 LO mean mg mb h₀) (hk : env4.scope.kind = .function) (hf : env4.frame = some L)
  (hret : ∀ t h' tk', Fr h₀ L h' m → News h₀ L h' led → Q (.bytes (rowOf y) t) { s with heap := h', toks := tk' }) :
  wpAny (model PySem.Challenge.rw_pb0238_01.row.prog w) ((((callerA.deeper env1).deeper env2).deeper env3).deeper env4) (call (.ref 191) [.str y tk]) Q E s := by
  revert KX; k_fill; intro KX
  refine wpAny_call ?_
  k_dflt (refine' code_def ?k1 ?k2 ?k3 ?k4 ?k5 ?kA ?kF ?kK ?k6 ?k7 ?k8 ?k9 ?kB ?_ ?c2 ?c3 ?c4 ?c5; (case kA => exact rfl); (case kF => exact hf); (case kK => exact hk); (case k1 => exact B); (case k2 => k_asm); (case k3 => k_asm); (case k4 => k_asm); (case k5 => k_asm); (case k6 => k_is); (case k7 => k_is); (case k8 => k_room); (case k9 => exact BindsTo.of_eq rfl); (case c5 => decide); (case kB => exact locs rfl); (case c2 => exact rfl); (case c3 => exact rfl); (case c4 => exact rfl); k_whole; intro g' L' h' FG' F' N' B' X' T'; (try dsimp only); (try k_lift B'); (try k_fold))
  k_steps
  · rw [sizeLine_eq]; omega
  · refine restT_ind (fun i ys => ys = []) ?_ ?_ _ 0 [] (by rw [Nat.zero_add]) (by first | exact rfl | (intro i hi; exact absurd hi (Nat.not_lt_zero i)))
    · intro i v ys I oI C oC D m₂ h tk E' hi hP hG hC hx F N off ne
      obtain ⟨c, u, hc, rfl⟩ := hP
      k_steps
      · exact absurd (hok c (Array.mem_of_getElem? hc)) (by omega)
      · exact LCg.CompEnd.intro (by assumption) N _ (fun _ z => z) off trivial ⟨rfl, hG⟩
    · intro ys hG D h tk F N off
      subst hG
      (try k_sweep)
      k_steps
      · rw [sizeLine_eq]; omega
      · refine rest_ind (fun i ys => IntsAre ys ((y.cps.toList.take i).map fun c : Nat => (c : Int))) ?_ ?_ _ 0 [] (by rw [Nat.zero_add]) .nil
        · intro i v ys I oI C oC D m₂ h tk E' hi hP hG hC hx F N off ne
          obtain ⟨c, u, hc, rfl⟩ := hP
          k_steps
          exact LCg.CompEnd.intro (by assumption) N _ (fun _ z => z) off trivial ⟨rfl, ints_snoc hG hc⟩
        · intro ys hG D h tk F N off
          have hI : IntsAre ys (signsOf y) := by
            have q : IntsAre ys ((y.cps.toList.take y.cps.size).map fun c : Nat => (c : Int)) := hG
            rw [show y.cps.size = y.cps.toList.length from rfl, List.take_length] at q
            exact q
          have hR := signs_small hok
          have hz : ys.length ≤ sizeLine := by rw [hI.length, sizeLine_eq, signsOf, List.length_map]; show y.cps.size ≤ _; omega
          clear hG
          (try k_sweep)
          k_steps
          rename News _ _ _ _ => kN
          rename Fr _ _ _ _ => kF
          exact hret _ _ _ kF (fun p hp => kN p ((by k_extra "sub" : ∀ p ∈ _, p ∈ _) p hp))
theorem setRow21 : True := by
  skip
  k_with "compareOp NotEq ref ref" => ((k_here; (dsimp only); k_dflt (refine ne_cons_nil (by k_asm) (by k_mem) (by k_mem) (by k_units) ?_)))
  trivial
theorem row_bad (w : World) (mean : ExcName → Option Value) (mg mb : Str → Option Value)
  (env1 env2 env3 env4 : Env) (A₀ : Around) (base h₀ : Heap) (L : Addr) (m : Str → Option Value) (s : Shared) (Q E : Value → Shared → Prop)
  (y : Str) (tk : Tok) (hy : y.cps.size ≤ 1000) (hbad : ¬ Clear y) (led : List (Addr × Obj))
  (B : Below A₀ base [env3, env2, env1] h₀) (F : Fr h₀ L s.heap m) (KX : (hd.heap_1 w.params).In h₀) (N : News h₀ L s.heap led)
  (T : Top hd.view_39 LO mean mg mb h₀) (hk : env4.scope.kind = .function) (hf : env4.frame = some L)
  (hraise : ∀ e d a0 h' tk', Thrown base [env4, env3, env2, env1] e (.ref 84) d a0 .none led h' → h₀.UpToSlots h' → E (.ref e) { s with heap := h', toks := tk' }) :
  wpAny (model PySem.Challenge.rw_pb0238_01.row.prog w) ((((callerA.deeper env1).deeper env2).deeper env3).deeper env4) (call (.ref 191) [.str y tk]) Q E s := by
  revert KX; k_fill; intro KX
  refine wpAny_call ?_
  k_dflt (refine' code_def ?k1 ?k2 ?k3 ?k4 ?k5 ?kA ?kF ?kK ?k6 ?k7 ?k8 ?k9 ?kB ?_ ?c2 ?c3 ?c4 ?c5; (case kA => exact rfl); (case kF => exact hf); (case kK => exact hk); (case k1 => exact B); (case k2 => k_asm); (case k3 => k_asm); (case k4 => k_asm); (case k5 => k_asm); (case k6 => k_is); (case k7 => k_is); (case k8 => k_room); (case k9 => exact BindsTo.of_eq rfl); (case c5 => decide); (case kB => exact locs rfl); (case c2 => exact rfl); (case c3 => exact rfl); (case c4 => exact rfl); k_whole; intro g' L' h' FG' F' N' B' X' T'; (try dsimp only); (try k_lift B'); (try k_fold))
  k_steps
  · rw [sizeLine_eq]; omega
  · refine restT_ind (fun i ys => ys = [] → ClearAt y i) ?_ ?_ _ 0 [] (by rw [Nat.zero_add]) (fun _ j c hj => absurd hj (Nat.not_lt_zero _))
    · intro i v ys I oI C oC D m₂ h tk E' hi hP hG hC hx F N off ne
      obtain ⟨c, u, hc, rfl⟩ := hP
      k_steps
      · exact LCg.CompEnd.intro (by assumption) N _ (fun _ z => z) off trivial ⟨rfl, fun e => by simp at e⟩
      · exact LCg.CompEnd.intro (by assumption) N _ (fun _ z => z) off trivial ⟨rfl, fun e => (clearAt_succ hc).mpr ⟨hG e, by omega⟩⟩
    · intro ys hG D h tk F N off
      obtain ⟨v0, r0, rfl⟩ : ∃ v0 r0, ys = v0 :: r0 := by
        cases ys with
        | nil => exact absurd (clearAt_all.mp (hG rfl)) hbad
        | cons a b => exact ⟨a, b, rfl⟩
      have od := off
      (try simp only [LCg.Off1, and_true] at od)
      (repeat (obtain ⟨_, od⟩ := od))
      clear hG
      (try k_sweep)
      k_steps
      rename Thrown _ _ _ _ _ _ _ _ _ => kR
      rename Heap.UpToSlots _ _ => kU
      exact hraise _ _ _ _ _ (kR.sub (by k_extra "sub")) ((Heap.UpToSlots.of_keeps FG'.keep).trans kU)
end Mine
end

section
open PySem PySem.W PyProof.Rows
set_option Elab.async false
set_option linter.all false
set_option maxRecDepth 100000
set_option maxHeartbeats 0
set_option pp.maxSteps 20000
namespace Mine
local macro_rules | `(tactic| size_fits) => `(tactic| (rw [sizeLine_eq]; (try simp only [List.size_toArray, List.length_cons]); omega))
theorem setEndAll0 : True := by
  w_top off
  k_with_none
  k_with "rest1" => (refine' rest_ne1 ?zh ?zs; (case zh => with_reducible assumption); (case zs => k_extra "sub"))
  k_with "rest2" => (rename (∀ p ∈ (_ : List (Addr × Obj)), p.1 < _) => zzR; first | (refine' rest_ne2 zzR ?zs ?zl; (case zs => k_extra "sub"); (case zl => first | exact Nat.le_refl _ | exact Nat.le_succ _ | ((try dsimp only); omega))) | (clear zzR; k_extra "rest2"))
  k_with "rest" => (first | assumption | k_extra "rest1" | k_extra "rest2")
  k_with "sub" => (first | exact List.forall_mem_nil _ | (refine List.forall_mem_cons.mpr ⟨by k_mem, ?_⟩; k_extra "sub") | (intro p hp; (repeat (first | exact hp | refine List.Mem.tail _ ?_)); done))
  k_with "sub" => (intro p hp; (repeat (first | with_reducible exact hp | refine List.Mem.tail _ ?_)); done)
  k_with "nl" => (first | exact Nat.ne_of_lt zz1.1 | exact Nat.ne_of_gt zz1.1 | (replace zz1 := zz1.2; k_extra "nl"))
  k_with "ne" => (refine neN ?_; (try dsimp only); (repeat (rename (@Ne Nat _ _) => zz; clear zz)); omega)
  k_with "ne" => (refine neN ?_; (try dsimp only); (rename (@LT.lt Nat _ _ _ ∧ _) => zz1); first | k_extra "nl" | (clear zz1; (rename (@LT.lt Nat _ _ _ ∧ _) => zz1); first | k_extra "nl" | (clear zz1; (rename (@LT.lt Nat _ _ _ ∧ _) => zz1); k_extra "nl")))
  k_with "ne" => (refine neN ?_; (try dsimp only); first | assumption | (refine Ne.symm ?_; assumption))
  k_with "all" => (first | assumption | k_extra "rest")
  k_with "ite" => (refine Stop.out ?_)
  k_with "ite" => ((first | (k_closed; first | refine ite_pos (by decide +kernel) ?_ | refine ite_neg (by decide +kernel) ?_) | refine ite_pos (by assumption) ?_ | refine ite_neg (by assumption) ?_))
  k_with "setItem ref str" => ((k_here; k_dflt (refine' kda_set (knd := PySem.strKind _ _) ?F ?N ?U ?d (strKind_is _ _ _ _) ?z ?_; (case F => k_asm); (case N => k_asm); (case U => k_updF); (case d => k_asm); (case z => rw [sizeLine_eq]; first | exact Nat.le_of_ble_eq_true (by with_unfolding_all rfl) | omega)); intro h' o' F' N' hd'; (try dsimp only at N')))
  k_with "call builtin:str.join" => ((k_here; k_dflt (refine join_listW (News.isList (by k_asm) (by k_mem)) (show StrsAre _ _ from by assumption) (by decide +kernel) (by assumption) ?_); intro _ _))
  k_with "call builtin:str.upper" => ((k_here; (refine SCL.upper (by omega) ?_); intro _))
  k_with "compareOp NotIn str ref" => ((k_here; k_dflt (refine' notin_tup3 ?X ?F ?l ?b ?_; (case X => k_asm); (case F => k_asm); (case l => k_is); (case b => decide +kernel))))
  k_with "call ref" => ((k_here; k_dflt (show wpAny _ _ (call (Value.ref 191) [Value.str _ _]) _ _ _); k_dflt (first | (refine' row_bad _ _ _ _ _ _ _ _ _ _ _ _ _ _ _ _ _ _ ?y ?ok _ ?B ?F ?X ?N ?T ?hk ?hf ?_; (case y => assumption); (case ok => assumption); (case B => k_asm); (case F => k_asm); (case X => k_asm); (case N => k_asm); (case T => k_asm); (case hk => rfl); (case hf => rfl); intro e' d' a' h' tk' R' U') | (refine' row_ok _ _ _ _ _ _ _ _ _ _ _ _ _ _ _ _ _ _ ?y ?ok _ ?B ?F ?X ?N ?T ?hk ?hf ?_; (case y => assumption); (case ok => assumption); (case B => k_asm); (case F => k_asm); (case X => k_asm); (case N => k_asm); (case T => k_asm); (case hk => rfl); (case hf => rfl); intro t' h' tk' F' N'; (try k_sweep)))))
  k_with "eval ListComp" => ((k_here; refine Stop.out ?_))
  k_with "CompSrc" => ((k_here; k_dflt (refine LCg.CompSrc.ledger (by rfl) (by k_asm) (by k_asm) (by k_mem) ?_ ?_)))
  k_with "call type:bytes" => ((k_here; k_dflt (show wpAny _ _ (call (Value.type _) [Value.bytes _ _]) _ _ _); k_dflt (refine' bytes_bytesK ?h ?F ?N ?_; (case h => rfl); (case F => k_asm); (case N => k_asm)); intro h' tk' u' F' N'; (try k_sweep)))
  trivial
theorem end_all (w : World) (mean : ExcName → Option Value) (mg mb : Str → Option Value) (base : Heap) (env1 : Env)
  (src g1 g2 : Str) (tg1 tg2 t1 t2 t3 t4 t5 t6 t7 tsrc : Tok) (ng nl nd : Nat) (dk dd al ash ds af ar ag ali : Addr) (olib ofs : Obj) (vs : List Value) (lines : List Str) (rest : List (Addr × Obj)) (hvs : StrsAre vs lines) (hlen : lines.length ≤ 900) (hw : (lines.map (·.length)).sum + lines.length ≤ 1048576) (hlong : ∀ y ∈ lines, y.cps.size ≤ 1000) (hg2 : g2.length ≤ 100)
  (kl kf : List (Str × Value)) (hol : olib.IsDictOf (SK w) kl) (loal : (al == sysModules) = false) (hkl : kl.length ≤ 100) (hof : ofs.IsDictOf (SK w) kf) (loaf : (af == sysModules) = false) (hkf : kf.length ≤ 100)
  (o1 : ∀ p ∈ rest, p.1 ≠ dd) (o2 : ∀ p ∈ rest, p.1 ≠ al) (o3 : ∀ p ∈ rest, p.1 ≠ af) (n1 : @Ne Nat dd al) (n2 : @Ne Nat dd af) (n3 : @Ne Nat al af)
  (z1 : (dk, instObj 182 dd) ∈ rest) (z3 : (ag, tupOf #[.str g1 tg1, .str g2 tg2] ng) ∈ rest) (z4 : (ali, W.listOf vs.toArray nl) ∈ rest) (z5 : (ash, instObj 161 ds) ∈ rest) (z6 : (ds, dictOf [ent w.params "files" t7 (.ref af)] nd) ∈ rest)
  (P PE : List (Addr × Obj) → Prop)
  (p_source : g1 = Str.ofString "source" → ∀ G l u u1 u2, (∀ p ∈ rest, p.1 ≠ G) → (∀ p ∈ rest, p.1 ≠ l) → (@Ne Nat dd G) → (@Ne Nat dd l) → (@Ne Nat G l) → (@Ne Nat al G) → (@Ne Nat al l) → (@Ne Nat af G) → (@Ne Nat af l) → P ((dd, dictOf [ent w.params "source" t1 (.str (Txt.join (Str.ofString "\n") lines) u), ent w.params "library" t2 (.ref al), ent w.params "shelf" t3 (.ref ash), ent w.params "rows" t4 (.ref ar), ent w.params "gathering" t5 (.ref G), ent w.params "lines" t6 (.ref l)] 6) :: (G, tupOf #[.str (Str.ofString "") u1, .str (Str.ofString "") u2] 0) :: (l, W.listOf #[] 0) :: (al, olib) :: (af, ofs) :: rest))
  (p_library : g1 = Str.ofString "library" → ∀ olib' G l u u1 u2, olib'.IsDictOf (SK w) (stored kl ⟨placed g2 fun _ c => Unicode.upperOf c⟩ (.str (Txt.join (Str.ofString "\n") lines) u)) → (∀ p ∈ rest, p.1 ≠ G) → (∀ p ∈ rest, p.1 ≠ l) → (@Ne Nat dd G) → (@Ne Nat dd l) → (@Ne Nat G l) → (@Ne Nat al G) → (@Ne Nat al l) → (@Ne Nat af G) → (@Ne Nat af l) → P ((dd, dictOf [ent w.params "source" t1 (.str src tsrc), ent w.params "library" t2 (.ref al), ent w.params "shelf" t3 (.ref ash), ent w.params "rows" t4 (.ref ar), ent w.params "gathering" t5 (.ref G), ent w.params "lines" t6 (.ref l)] 6) :: (G, tupOf #[.str (Str.ofString "") u1, .str (Str.ofString "") u2] 0) :: (l, W.listOf #[] 0) :: (al, olib') :: (af, ofs) :: rest))
  (p_bad : g1 ≠ Str.ofString "source" → g1 ≠ Str.ofString "library" → (¬ ∀ y ∈ lines, Clear y) → ∀ G l u1 u2, (∀ p ∈ rest, p.1 ≠ G) → (∀ p ∈ rest, p.1 ≠ l) → (@Ne Nat dd G) → (@Ne Nat dd l) → (@Ne Nat G l) → (@Ne Nat al G) → (@Ne Nat al l) → (@Ne Nat af G) → (@Ne Nat af l) → PE ((dd, dictOf [ent w.params "source" t1 (.str src tsrc), ent w.params "library" t2 (.ref al), ent w.params "shelf" t3 (.ref ash), ent w.params "rows" t4 (.ref ar), ent w.params "gathering" t5 (.ref G), ent w.params "lines" t6 (.ref l)] 6) :: (G, tupOf #[.str (Str.ofString "") u1, .str (Str.ofString "") u2] 0) :: (l, W.listOf #[] 0) :: (al, olib) :: (af, ofs) :: rest))
  (p_rows : g1 = Str.ofString "rows" → (∀ y ∈ lines, Clear y) → ∀ G l R n rs u1 u2, RowsAre rs lines → (∀ p ∈ rest, p.1 ≠ G) → (∀ p ∈ rest, p.1 ≠ l) → (@Ne Nat dd G) → (@Ne Nat dd l) → (@Ne Nat G l) → (@Ne Nat al G) → (@Ne Nat al l) → (@Ne Nat af G) → (@Ne Nat af l) → (∀ p ∈ rest, p.1 ≠ R) → (@Ne Nat dd R) → (@Ne Nat al R) → (@Ne Nat af R) → (@Ne Nat G R) → (@Ne Nat l R) → P ((dd, dictOf [ent w.params "source" t1 (.str src tsrc), ent w.params "library" t2 (.ref al), ent w.params "shelf" t3 (.ref ash), ent w.params "rows" t4 (.ref R), ent w.params "gathering" t5 (.ref G), ent w.params "lines" t6 (.ref l)] 6) :: (G, tupOf #[.str (Str.ofString "") u1, .str (Str.ofString "") u2] 0) :: (l, W.listOf #[] 0) :: (R, W.listOf rs.toArray n) :: (al, olib) :: (af, ofs) :: rest))
  (p_file : g1 ≠ Str.ofString "source" → g1 ≠ Str.ofString "library" → g1 ≠ Str.ofString "rows" → (∀ y ∈ lines, Clear y) → ∀ ofs' G l R C k0 k rs u1 u2, ofs'.IsDictOf (SK w) (stored kf g2 (.ref R)) → RowsAre rs lines → (∀ p ∈ rest, p.1 ≠ G) → (∀ p ∈ rest, p.1 ≠ l) → (@Ne Nat dd G) → (@Ne Nat dd l) → (@Ne Nat G l) → (@Ne Nat al G) → (@Ne Nat al l) → (@Ne Nat af G) → (@Ne Nat af l) → (∀ p ∈ rest, p.1 ≠ R) → (@Ne Nat dd R) → (@Ne Nat al R) → (@Ne Nat af R) → (@Ne Nat G R) → (@Ne Nat l R) → (∀ p ∈ rest, p.1 ≠ C) → (@Ne Nat dd C) → (@Ne Nat al C) → (@Ne Nat af C) → (@Ne Nat G C) → (@Ne Nat l C) → (@Ne Nat R C) → P ((dd, dictOf [ent w.params "source" t1 (.str src tsrc), ent w.params "library" t2 (.ref al), ent w.params "shelf" t3 (.ref ash), ent w.params "rows" t4 (.ref ar), ent w.params "gathering" t5 (.ref G), ent w.params "lines" t6 (.ref l)] 6) :: (G, tupOf #[.str (Str.ofString "") u1, .str (Str.ofString "") u2] 0) :: (l, W.listOf #[] 0) :: (R, tupOf #[.str (Str.ofString "sequential") k0, .ref C] 0) :: (C, W.listOf rs.toArray k) :: (al, olib) :: (af, ofs') :: rest))
  : EndSpec w mean mg mb base env1 dk ((dd, dictOf [ent w.params "source" t1 (.str src tsrc), ent w.params "library" t2 (.ref al), ent w.params "shelf" t3 (.ref ash), ent w.params "rows" t4 (.ref ar), ent w.params "gathering" t5 (.ref ag), ent w.params "lines" t6 (.ref ali)] 6) :: (al, olib) :: (af, ofs) :: rest) P PE := by
  intro env2 env3 A₀ h₀ L m s Q E B F KX N T hk hf KB TB hLb hret hraise
  have qa1 : @Ne Nat dk dd := o1 _ z1
  have qb1 : @Ne Nat dk al := o2 _ z1
  have qc1 : @Ne Nat dk af := o3 _ z1
  have qa3 : @Ne Nat ag dd := o1 _ z3
  have qb3 : @Ne Nat ag al := o2 _ z3
  have qc3 : @Ne Nat ag af := o3 _ z3
  have qa4 : @Ne Nat ali dd := o1 _ z4
  have qb4 : @Ne Nat ali al := o2 _ z4
  have qc4 : @Ne Nat ali af := o3 _ z4
  have qa5 : @Ne Nat ash dd := o1 _ z5
  have qb5 : @Ne Nat ash al := o2 _ z5
  have qc5 : @Ne Nat ash af := o3 _ z5
  have qa6 : @Ne Nat ds dd := o1 _ z6
  have qb6 : @Ne Nat ds al := o2 _ z6
  have qc6 : @Ne Nat ds af := o3 _ z6
  replace N := news_up (tail_of (tail_of (tail_of N))) z1 (news_up (tail_of (tail_of (tail_of N))) z3 (news_up (tail_of (tail_of (tail_of N))) z4 (news_up (tail_of (tail_of (tail_of N))) z5 (news_up (tail_of (tail_of (tail_of N))) z6 N))))
  revert KX KB; k_fill; intro KX KB
  refine wpAny_call ?_
  k_dflt (refine' code_def ?k1 ?k2 ?k3 ?k4 ?k5 ?kA ?kF ?kK ?k6 ?k7 ?k8 ?k9 ?kB ?_ ?c2 ?c3 ?c4 ?c5; (case kA => exact rfl); (case kF => exact hf); (case kK => exact hk); (case k1 => exact B); (case k2 => k_asm); (case k3 => k_asm); (case k4 => k_asm); (case k5 => k_asm); (case k6 => k_is); (case k7 => k_is); (case k8 => k_room); (case k9 => exact BindsTo.of_eq rfl); (case c5 => decide); (case kB => exact locs rfl); (case c2 => exact rfl); (case c3 => exact rfl); (case c4 => exact rfl); k_whole; intro g' L' h' FG' F' N' B' X' T'; (try dsimp only); (try k_lift B'); (try k_fold))
  k_steps
  refine ⟨ite_split (fun cS => ?_) (fun cS => ?_)⟩
  · k_steps
    rename News _ _ _ _ => kN
    rename Fr _ _ _ _ => kF
    refine' hret _ _ _ (p_source (beq_iff_eq.mp cS) _ _ _ _ _ ?n0z1 ?n1z1 ?n2z1 ?n3z1 ?n4z1 ?n5z1 ?n6z1 ?n7z1 ?n8z1) kF ?gNz1
    case gNz1 => exact (fun p hp => kN p ((by k_extra "sub" : ∀ p ∈ _, p ∈ _) p hp))
    case n0z1 => k_extra "rest"
    case n1z1 => k_extra "rest"
    case n2z1 => k_ne
    case n3z1 => k_ne
    case n4z1 => k_ne
    case n5z1 => k_ne
    case n6z1 => k_ne
    case n7z1 => k_ne
    case n8z1 => k_ne
  · have hS : g1 ≠ Str.ofString "source" := fun e => cS (beq_iff_eq.mpr e)
    k_steps
    refine ⟨ite_split (fun cB => ?_) (fun cB => ?_)⟩
    · k_steps
      rename News _ _ _ _ => kN
      rename Fr _ _ _ _ => kF
      refine' hret _ _ _ (p_library (beq_iff_eq.mp cB) _ _ _ _ _ _ ?i0z2 ?n0z2 ?n1z2 ?n2z2 ?n3z2 ?n4z2 ?n5z2 ?n6z2 ?n7z2 ?n8z2) kF ?gNz2
      case i0z2 => assumption
      case gNz2 => exact (fun p hp => kN p ((by k_extra "sub" : ∀ p ∈ _, p ∈ _) p hp))
      case n0z2 => k_extra "rest"
      case n1z2 => k_extra "rest"
      case n2z2 => k_ne
      case n3z2 => k_ne
      case n4z2 => k_ne
      case n5z2 => k_ne
      case n6z2 => k_ne
      case n7z2 => k_ne
      case n8z2 => k_ne
    · have hB : g1 ≠ Str.ofString "library" := fun e => cB (beq_iff_eq.mpr e)
      k_steps
      refine ⟨ite_split (fun cR => ?_) (fun cR => ?_)⟩
      · k_steps
        by_cases hclear : ∀ y ∈ lines, Clear y
        · skip
          refine ⟨?_⟩
          refine LCg.ListComp_U (F₀ := by k_asm) (by with_unfolding_all rfl) (by decide) (by rfl) (by decide) (by rfl) ?_
          k_steps
          · rw [sizeLine_eq, List.size_toArray, strs_len hvs]; omega
          refine rest_ind (fun i ys => RowsAre ys (lines.take i)) ?_ ?_ _ 0 [] (by rw [Nat.zero_add]) .nil
          · intro i v ys I oI C oC D m₂ h tk E' hi hP hG hC hx F N off ne
            obtain ⟨y, t, rfl, hy⟩ := strs_get hvs (by simpa using hP)
            clear hP
            have hym := List.mem_of_getElem? hy
            have hy1 := hlong _ hym
            have hy2 : ∀ c ∈ y.cps, c ≤ 127 := hclear _ hym
            k_steps
            exact LCg.CompEnd.intro (by assumption) (by assumption) _ (fun _ z => z) off (.inr ⟨_, by k_mem, rfl, _, rfl⟩) ⟨rfl, rows_next hG hy⟩
          intro ys hG D h tk F N off
          have hra : RowsAre ys lines := by
            have q : RowsAre ys (lines.take vs.toArray.size) := hG
            rw [List.size_toArray, strs_len hvs, List.take_length] at q
            exact q
          have hyl := rows_len hra
          have od := off
          (try simp only [LCg.Off1, and_true] at od)
          (repeat (obtain ⟨_, od⟩ := od))
          clear hG
          (try k_sweep)
          k_steps
          rename News _ _ _ _ => kN
          rename Fr _ _ _ _ => kF
          refine' hret _ _ _ (p_rows (beq_iff_eq.mp cR) hclear _ _ _ _ _ _ _ ?i0z3 ?n0z3 ?n1z3 ?n2z3 ?n3z3 ?n4z3 ?n5z3 ?n6z3 ?n7z3 ?n8z3 ?n9z3 ?n10z3 ?n11z3 ?n12z3 ?n13z3 ?n14z3) kF ?gNz3
          case i0z3 => assumption
          case gNz3 => exact (fun p hp => kN p ((by k_extra "sub" : ∀ p ∈ _, p ∈ _) p hp))
          case n0z3 => k_extra "rest"
          case n1z3 => k_extra "rest"
          case n2z3 => k_ne
          case n3z3 => k_ne
          case n4z3 => k_ne
          case n5z3 => k_ne
          case n6z3 => k_ne
          case n7z3 => k_ne
          case n8z3 => k_ne
          case n9z3 => exact fun p hp => off1_mem off p (by repeat (first | exact hp | refine List.Mem.tail _ ?_))
          case n10z3 => k_ne
          case n11z3 => k_ne
          case n12z3 => k_ne
          case n13z3 => k_ne
          case n14z3 => k_ne
        · skip
          obtain ⟨k, y0, hk0, hb0, hg0⟩ := first_bad hclear
          have hkl := (List.getElem?_eq_some_iff.mp hk0).choose
          obtain ⟨y1, t0, hv0, hy1⟩ := strs_at hvs hkl
          obtain rfl : y0 = y1 := by rw [hk0] at hy1; exact Option.some.inj hy1
          refine ⟨?_⟩
          k_here
          k_dflt (refine ListComp_R (F₀ := by k_asm) (by with_unfolding_all rfl) (by decide) (by rfl) (by decide) (by rfl) ?_)
          k_steps
          refine SrcR.intro (by rfl) (by k_asm) (by k_asm) (by k_mem) hv0 fun g => ⟨fun i ys => ys.length = i ∧ i ≤ k, ⟨rfl, Nat.zero_le _⟩, fun i ys hG => by omega, ?_, ?_⟩
          · intro i v ys I oI C oC D m₂ h tk E' hi hP hG hC hx F N off ne
            obtain ⟨y, t, rfl, hy⟩ := strs_get hvs hP
            clear hP
            have hym := List.mem_of_getElem? hy
            have hy1 := hlong _ hym
            have hy2 : ∀ c ∈ y.cps, c ≤ 127 := hg0 _ _ hi hy
            clear hb0
            k_steps
            exact LCg.CompEnd.intro (by assumption) (by assumption) _ (fun _ z => z) off trivial ⟨rfl, by rw [List.length_append, List.length_singleton, hG.1], by omega⟩
          · intro ys I oI C oC D m₂ h tk hC hx F N off ne
            have hy1 := hlong _ (List.mem_of_getElem? hk0)
            k_steps
            rename Thrown _ _ _ _ _ _ _ _ _ => kR
            rename Heap.UpToSlots _ _ => kU
            with_reducible rename Fr g' L' _ _ => kFG
            refine comp_raise (by rfl) (by rfl) (by rfl) hC (fun p hp => (off.mem p hp).2.1) (kR.sub (fun q hq => (List.mem_cons.mp hq).elim (fun e => e ▸ .tail _ (.head _)) fun h => .tail _ (.tail _ (.tail _ h)))) kU (N _ (.tail _ (.head _))).2.2 fun h5 f R5 U5 => ?_
            show wpAny _ _ (leaving _ _) _ _ _
            refine throw_any f (by rfl) (by rfl) R5 fun h6 R6 U6 => ?_
            have UU := U5.trans U6
            have fr : ∀ {p : Addr}, g'.get? p = none → h₀.get? p = none := fun e => fresh_of_stays FG'.keep e
            refine' hraise _ _ _ ((dd, dictOf [ent w.params "source" t1 (.str src tsrc), ent w.params "library" t2 (.ref al), ent w.params "shelf" t3 (.ref ash), ent w.params "rows" t4 (.ref ar), ent w.params "gathering" t5 (.ref _), ent w.params "lines" t6 (.ref _)] 6) :: (_, tupOf #[.str (Str.ofString "") _, .str (Str.ofString "") _] 0) :: (_, W.listOf #[] 0) :: (al, olib) :: (af, ofs) :: rest) _ _ (p_bad hS hB hclear _ _ _ _ ?n0b4 ?n1b4 ?n2b4 ?n3b4 ?n4b4 ?n5b4 ?n6b4 ?n7b4 ?n8b4) ?hfb4 ?hRb4 ⟨UU.ns FG'.ns, R6.stays, hLb⟩ ((Heap.UpToSlots.of_keeps FG'.keep).trans UU)
            case hRb4 =>
              refine Thrown.sub R6 ?_
              k_extra "sub"
            case hfb4 => exact fun q hq => fr (N q ((by k_extra "sub" : ∀ p ∈ _, p ∈ _) q hq)).2.2
            case n0b4 => k_extra "rest"
            case n1b4 => k_extra "rest"
            case n2b4 => k_ne
            case n3b4 => k_ne
            case n4b4 => k_ne
            case n5b4 => k_ne
            case n6b4 => k_ne
            case n7b4 => k_ne
            case n8b4 => k_ne
      · have hR : g1 ≠ Str.ofString "rows" := fun e => cR (beq_iff_eq.mpr e)
        k_steps
        by_cases hclear : ∀ y ∈ lines, Clear y
        · skip
          refine ⟨?_⟩
          refine LCg.ListComp_U (F₀ := by k_asm) (by with_unfolding_all rfl) (by decide) (by rfl) (by decide) (by rfl) ?_
          k_steps
          · rw [sizeLine_eq, List.size_toArray, strs_len hvs]; omega
          refine rest_ind (fun i ys => RowsAre ys (lines.take i)) ?_ ?_ _ 0 [] (by rw [Nat.zero_add]) .nil
          · intro i v ys I oI C oC D m₂ h tk E' hi hP hG hC hx F N off ne
            obtain ⟨y, t, rfl, hy⟩ := strs_get hvs (by simpa using hP)
            clear hP
            have hym := List.mem_of_getElem? hy
            have hy1 := hlong _ hym
            have hy2 : ∀ c ∈ y.cps, c ≤ 127 := hclear _ hym
            k_steps
            exact LCg.CompEnd.intro (by assumption) (by assumption) _ (fun _ z => z) off (.inr ⟨_, by k_mem, rfl, _, rfl⟩) ⟨rfl, rows_next hG hy⟩
          intro ys hG D h tk F N off
          have hra : RowsAre ys lines := by
            have q : RowsAre ys (lines.take vs.toArray.size) := hG
            rw [List.size_toArray, strs_len hvs, List.take_length] at q
            exact q
          have hyl := rows_len hra
          have od := off
          (try simp only [LCg.Off1, and_true] at od)
          (repeat (obtain ⟨_, od⟩ := od))
          clear hG
          (try k_sweep)
          k_steps
          rename Fr _ _ _ _ => kF
          with_unfolding_all refine' For_invVF kF ?k1f ?k2f ?_
          case k1f => exact rfl
          case k2f => exact rfl
          k_steps
          rename Fr _ _ _ _ => kF
          rename News _ _ _ _ => kN
          refine' rows_loop (yc := Str.ofString "content") rfl kF ?hcf kN ?hmf ?hnef ?Uf ?hraf ?turnf ?donef
          case hcf => exact if_pos rfl
          case hmf => k_mem
          case hraf => assumption
          case hnef => k_ne
          case Uf => k_updF
          case turnf =>
            intro i y t cs n I oI h3 tk3 hy hr off3 F3 N3
            (try dsimp only at N3 off3)
            replace off3 := off1_of off3
            (try simp only [LCg.Off1, and_true] at off3)
            (repeat (obtain ⟨_, off3⟩ := off3))
            have hcl := rows_len hr
            rw [List.length_take, Array.length_toList] at hcl
            k_steps
            rename Fr _ _ _ _ => kF2
            rename News _ _ _ _ => kN2
            refine' RowEnd.intro kF2 (fun z hz => if_neg hz) ?hNf ?hRf
            case hNf =>
              (try dsimp only)
              exact fun p hp => kN2 p ((by k_extra "sub" : ∀ p ∈ _, p ∈ _) p hp)
            rw [Array.toList_push]
            exact rows_next hr hy
          case donef =>
            intro m₁ cs n h3 tk3 hr hm3 F3 N3
            obtain ⟨rs, rfl⟩ : ∃ rs : List Value, cs = rs.toArray := ⟨cs.toList, by simp⟩
            rw [List.toList_toArray] at hr
            (try dsimp only at N3)
            k_steps
            rename News _ _ _ _ => kN
            rename Fr _ _ _ _ => kF
            refine' hret _ _ _ (p_file hS hB hR hclear _ _ _ _ _ _ _ _ _ _ ?i0z5 ?i1z5 ?n0z5 ?n1z5 ?n2z5 ?n3z5 ?n4z5 ?n5z5 ?n6z5 ?n7z5 ?n8z5 ?n9z5 ?n10z5 ?n11z5 ?n12z5 ?n13z5 ?n14z5 ?n15z5 ?n16z5 ?n17z5 ?n18z5 ?n19z5 ?n20z5 ?n21z5) kF ?gNz5
            case i0z5 => assumption
            case i1z5 => assumption
            case gNz5 => exact (fun p hp => kN p ((by k_extra "sub" : ∀ p ∈ _, p ∈ _) p hp))
            case n0z5 => k_extra "rest"
            case n1z5 => k_extra "rest"
            case n2z5 => k_ne
            case n3z5 => k_ne
            case n4z5 => k_ne
            case n5z5 => k_ne
            case n6z5 => k_ne
            case n7z5 => k_ne
            case n8z5 => k_ne
            case n9z5 => k_extra "rest"
            case n10z5 => k_ne
            case n11z5 => k_ne
            case n12z5 => k_ne
            case n13z5 => k_ne
            case n14z5 => k_ne
            case n15z5 => k_extra "rest"
            case n16z5 => k_ne
            case n17z5 => k_ne
            case n18z5 => k_ne
            case n19z5 => k_ne
            case n20z5 => k_ne
            case n21z5 => k_ne
        · skip
          obtain ⟨k, y0, hk0, hb0, hg0⟩ := first_bad hclear
          have hkl := (List.getElem?_eq_some_iff.mp hk0).choose
          obtain ⟨y1, t0, hv0, hy1⟩ := strs_at hvs hkl
          obtain rfl : y0 = y1 := by rw [hk0] at hy1; exact Option.some.inj hy1
          refine ⟨?_⟩
          k_here
          k_dflt (refine ListComp_R (F₀ := by k_asm) (by with_unfolding_all rfl) (by decide) (by rfl) (by decide) (by rfl) ?_)
          k_steps
          refine SrcR.intro (by rfl) (by k_asm) (by k_asm) (by k_mem) hv0 fun g => ⟨fun i ys => ys.length = i ∧ i ≤ k, ⟨rfl, Nat.zero_le _⟩, fun i ys hG => by omega, ?_, ?_⟩
          · intro i v ys I oI C oC D m₂ h tk E' hi hP hG hC hx F N off ne
            obtain ⟨y, t, rfl, hy⟩ := strs_get hvs hP
            clear hP
            have hym := List.mem_of_getElem? hy
            have hy1 := hlong _ hym
            have hy2 : ∀ c ∈ y.cps, c ≤ 127 := hg0 _ _ hi hy
            clear hb0
            k_steps
            exact LCg.CompEnd.intro (by assumption) (by assumption) _ (fun _ z => z) off trivial ⟨rfl, by rw [List.length_append, List.length_singleton, hG.1], by omega⟩
          · intro ys I oI C oC D m₂ h tk hC hx F N off ne
            have hy1 := hlong _ (List.mem_of_getElem? hk0)
            k_steps
            rename Thrown _ _ _ _ _ _ _ _ _ => kR
            rename Heap.UpToSlots _ _ => kU
            with_reducible rename Fr g' L' _ _ => kFG
            refine comp_raise (by rfl) (by rfl) (by rfl) hC (fun p hp => (off.mem p hp).2.1) (kR.sub (fun q hq => (List.mem_cons.mp hq).elim (fun e => e ▸ .tail _ (.head _)) fun h => .tail _ (.tail _ (.tail _ h)))) kU (N _ (.tail _ (.head _))).2.2 fun h5 f R5 U5 => ?_
            show wpAny _ _ (leaving _ _) _ _ _
            refine throw_any f (by rfl) (by rfl) R5 fun h6 R6 U6 => ?_
            have UU := U5.trans U6
            have fr : ∀ {p : Addr}, g'.get? p = none → h₀.get? p = none := fun e => fresh_of_stays FG'.keep e
            refine' hraise _ _ _ ((dd, dictOf [ent w.params "source" t1 (.str src tsrc), ent w.params "library" t2 (.ref al), ent w.params "shelf" t3 (.ref ash), ent w.params "rows" t4 (.ref ar), ent w.params "gathering" t5 (.ref _), ent w.params "lines" t6 (.ref _)] 6) :: (_, tupOf #[.str (Str.ofString "") _, .str (Str.ofString "") _] 0) :: (_, W.listOf #[] 0) :: (al, olib) :: (af, ofs) :: rest) _ _ (p_bad hS hB hclear _ _ _ _ ?n0b6 ?n1b6 ?n2b6 ?n3b6 ?n4b6 ?n5b6 ?n6b6 ?n7b6 ?n8b6) ?hfb6 ?hRb6 ⟨UU.ns FG'.ns, R6.stays, hLb⟩ ((Heap.UpToSlots.of_keeps FG'.keep).trans UU)
            case hRb6 =>
              refine Thrown.sub R6 ?_
              k_extra "sub"
            case hfb6 => exact fun q hq => fr (N q ((by k_extra "sub" : ∀ p ∈ _, p ∈ _) q hq)).2.2
            case n0b6 => k_extra "rest"
            case n1b6 => k_extra "rest"
            case n2b6 => k_ne
            case n3b6 => k_ne
            case n4b6 => k_ne
            case n5b6 => k_ne
            case n6b6 => k_ne
            case n7b6 => k_ne
            case n8b6 => k_ne
end Mine
end

section
open PySem PySem.W PyProof.Rows
set_option Elab.async false
set_option linter.all false
set_option maxRecDepth 100000
set_option maxHeartbeats 0
set_option pp.maxSteps 20000
namespace Mine
section
open PySem.Calls LCg LCt
variable {prog : Program} {w : World} {A : Around} {s : Shared} {h₀ : Heap} {L : Addr} {m : Str → Option Value} {env : Env} {elt : Expr} {x : Str} {scope : Scope} {cl : List (Str × Addr)} {S : List (Addr × Obj) → Prop} {P : Nat → Value → Prop}
  {Fin : List Value → List (Addr × Obj) → Prop} {n : Nat}
/-- a comprehension over a source of any length, by what holds of the list and the ledger so far; the ledger only grows -/
theorem rest_indS {news₀ : List (Addr × Obj)} (G : Nat → List Value → List (Addr × Obj) → Prop)
    (step : ∀ i v ys news I oI C oC D m₂ h tk (E' : Value → Shared → Prop), i < n → P i v → (∀ p ∈ news₀, p ∈ news) → G i ys news → NsObj oC m₂ → m₂ x = some v → Fr h₀ L h m → News h₀ L h ((I, oI) :: (C, oC) :: (D, lst ys) :: news) → Off3 I C D news → ((@Ne Nat I C) ∧ (@Ne Nat I D) ∧ (@Ne Nat C D)) →
      wpAny (model prog w) A (eval elt (compEnvC scope cl C env)) (CompEnd h₀ L m { s with heap := h, toks := tk } I oI C oC D (lst ys) S (fun y news' => (∀ p ∈ news₀, p ∈ news') ∧ G (i + 1) (ys ++ [y]) news')) E' { s with heap := h, toks := tk })
    (fin : ∀ ys news, (∀ p ∈ news₀, p ∈ news) → G n ys news → Fin ys news) (g0 : G 0 [] news₀) : CompRest prog w A h₀ L m env elt x scope cl s S P Fin n 0 [] news₀ := by
  have key : ∀ k i ys news, i + k = n → (∀ p ∈ news₀, p ∈ news) → G i ys news → CompRest prog w A h₀ L m env elt x scope cl s S P Fin k i ys news := by
    intro k
    induction k with
    | zero => exact fun i ys news e hs g => CompRest.zero (fin ys news hs (by rw [← e]; exact g))
    | succ k ih =>
      intro i ys news e hs g
      refine CompRest.succ fun v I oI C oC D m₂ h tk E' hP hC hx F N off ne => ?_
      exact wpAny_mono (step i v ys news I oI C oC D m₂ h tk E' (by omega) hP hs g hC hx F N off ne) (fun y s'' q => end_mono q fun nw r => ih (i + 1) _ _ (by omega) r.1 r.2) fun _ _ z => z
  exact key n 0 [] news₀ (Nat.zero_add n) (fun _ h => h) g0
end
theorem compEnd_two {h₀ : Heap} {L I C D T R : Addr} {m : Str → Option Value} {s₁ : Shared} {oI oC oD oT oR : Obj} {S : List (Addr × Obj) → Prop} {rest : Value → List (Addr × Obj) → Prop} {y : Value} {h' : Heap} {tk : Nat} {news more : List (Addr × Obj)}
    (F : Fr h₀ L h' m) (N : News h₀ L h' ((T, oT) :: (R, oR) :: more)) (hI : (I, oI) ∈ more) (hC : (C, oC) ∈ more) (hD : (D, oD) ∈ more) (hn : ∀ p ∈ news, p ∈ more) (off : LCg.Off3 I C D news) (a1 : @Ne Nat T I) (a2 : @Ne Nat T C) (a3 : @Ne Nat T D) (b1 : @Ne Nat R I) (b2 : @Ne Nat R C) (b3 : @Ne Nat R D)
    (hS : S ((T, oT) :: (R, oR) :: news)) (r : rest y ((T, oT) :: (R, oR) :: news)) : LCg.CompEnd h₀ L m s₁ I oI C oC D oD S rest y { s₁ with heap := h', toks := tk } := by
  refine LCg.CompEnd.intro F N ((T, oT) :: (R, oR) :: news) (fun p hp => ?_) ⟨⟨a1, a2, a3⟩, ⟨b1, b2, b3⟩, off⟩ hS r
  rcases List.mem_cons.mp hp with rfl | hp
  · exact .tail _ (.tail _ hI)
  rcases List.mem_cons.mp hp with rfl | hp
  · exact .tail _ (.tail _ hC)
  rcases List.mem_cons.mp hp with rfl | hp
  · exact .tail _ (.tail _ hD)
  rcases List.mem_cons.mp hp with rfl | hp
  · exact .head _
  rcases List.mem_cons.mp hp with rfl | hp
  · exact .tail _ (.head _)
  · exact .tail _ (.tail _ (hn p hp))
/-- the told files of a shelf, on a ledger -/
inductive ToldAre (led : List (Addr × Obj)) : List Value → List (Str × List Value) → Prop
  | nil : ToldAre led [] []
  | cons {T R : Addr} {y : Str} {u v : Tok} {n n2 : Nat} {rs : List Value} {vs : List Value} {l : List (Str × List Value)} : (T, tupOf #[.str y u, .str (Str.ofString "sequential") v, .ref R] n) ∈ led → (R, tupOf rs.toArray n2) ∈ led → ToldAre led vs l → ToldAre led (.ref T :: vs) ((y, rs) :: l)
theorem ToldAre.mono {led led' : List (Addr × Obj)} (h : ∀ p ∈ led, p ∈ led') : ∀ {vs : List Value} {l : List (Str × List Value)}, ToldAre led vs l → ToldAre led' vs l := by
  intro vs l t
  induction t with
  | nil => exact .nil
  | cons a b _ ih => exact .cons (h _ a) (h _ b) ih
theorem ToldAre.len {led : List (Addr × Obj)} {vs : List Value} {l : List (Str × List Value)} (t : ToldAre led vs l) : vs.length = l.length := by
  induction t with
  | nil => rfl
  | cons _ _ _ ih => simp [ih]
theorem ToldAre.snoc {led : List (Addr × Obj)} {T R : Addr} {y : Str} {u v : Tok} {n n2 : Nat} {rs vs : List Value} {l : List (Str × List Value)} (t : ToldAre led vs l) (a : (T, tupOf #[.str y u, .str (Str.ofString "sequential") v, .ref R] n) ∈ led) (b : (R, tupOf rs.toArray n2) ∈ led) : ToldAre led (vs ++ [.ref T]) (l ++ [(y, rs)]) := by
  induction t with
  | nil => exact .cons a b .nil
  | cons c d _ ih => exact .cons c d ih
/-- a file on a ledger -/
def FileAt (kf : List (Str × Value)) (led : List (Addr × Obj)) (p : Str × List Value) : Prop :=
  ∃ (t c : Addr) (u : Tok) (n1 n2 : Nat), valueAt kf p.1 = some (.ref t) ∧ (t, tupOf #[.str (Str.ofString "sequential") u, .ref c] n1) ∈ led ∧ (c, W.listOf p.2.toArray n2) ∈ led ∧ p.2.length ≤ 1000
theorem setTold20 : True := by
  w_top off
  k_with_none
  k_with "rest1" => (refine' rest_ne1 ?zh ?zs; (case zh => with_reducible assumption); (case zs => k_extra "sub"))
  k_with "rest2" => (rename (∀ p ∈ (_ : List (Addr × Obj)), p.1 < _) => zzR; first | (refine' rest_ne2 zzR ?zs ?zl; (case zs => k_extra "sub"); (case zl => first | exact Nat.le_refl _ | exact Nat.le_succ _ | ((try dsimp only); omega))) | (clear zzR; k_extra "rest2"))
  k_with "rest" => (first | assumption | k_extra "rest1" | k_extra "rest2")
  k_with "sub" => (first | exact List.forall_mem_nil _ | (refine List.forall_mem_cons.mpr ⟨by k_mem, ?_⟩; k_extra "sub") | (intro p hp; (repeat (first | exact hp | refine List.Mem.tail _ ?_)); done))
  k_with "sub" => (intro p hp; (repeat (first | with_reducible exact hp | refine List.Mem.tail _ ?_)); done)
  k_with "nl" => (first | exact Nat.ne_of_lt zz1.1 | exact Nat.ne_of_gt zz1.1 | (replace zz1 := zz1.2; k_extra "nl"))
  k_with "ne" => (refine neN ?_; (try dsimp only); (repeat (rename (@Ne Nat _ _) => zz; clear zz)); omega)
  k_with "ne" => (refine neN ?_; (try dsimp only); (rename (@LT.lt Nat _ _ _ ∧ _) => zz1); first | k_extra "nl" | (clear zz1; (rename (@LT.lt Nat _ _ _ ∧ _) => zz1); first | k_extra "nl" | (clear zz1; (rename (@LT.lt Nat _ _ _ ∧ _) => zz1); k_extra "nl")))
  k_with "ne" => (refine neN ?_; (try dsimp only); first | assumption | (refine Ne.symm ?_; assumption))
  k_with "all" => (first | assumption | k_extra "rest")
  k_with "ite" => ((first | refine ite_neg (by simp) ?_ | refine ite_pos (by simp) ?_))
  k_with "call type:tuple" => ((k_here; (with_reducible show wpAny _ _ (call (Value.type _) [Value.ref _]) _ _ _); k_dflt (refine' kde_tupleOf ?k1 ?k2 ?k3 ?k4 ?k5 ?_; (case k1 => k_asm); (case k2 => k_asm); (case k3 => first | exact News.isList (by k_asm) (by k_mem)); (case k4 => first | exact Nat.le_of_ble_eq_true rfl | (simp only [List.size_toArray]; omega)); (case k5 => first | kun_lit | exact rfl); k_whole); intro D' h' F' N' l1; (try k_lt l1); (try k_sweep)))
  k_with "SrcQ" => ((k_here; refine Stop.out ?_))
  k_with "eval ListComp" => ((k_here; k_dflt (refine ListComp_Q (F₀ := by k_asm) (by with_unfolding_all rfl) (by decide) (by rfl) (by decide) (by rfl) ?_)))
  k_with "call builtin:sorted" => ((k_here; k_dflt (refine' sorted_K ?k0 ?k1 ?k2 ?k3 ?k4 ?k5 ?k6 ?_; (case k0 => assumption); (case k1 => k_asm); (case k2 => k_asm); (case k3 => k_mem); (case k4 => assumption); (case k5 => assumption); (case k6 => exact QuietIn.one (by assumption) (by k_mem))); intro D' vs' n' h' tk' sa' F' N' ne'; (try k_sweep)))
  k_with "compareOp In str ref" => ((k_here; k_dflt (refine kda_in (knd := PySem.strKind _ _) (by k_asm) (by k_mem) (by assumption) (by assumption) (strKind_is _ _ _ _) true (by assumption) ?_)))
  k_with "compareOp NotIn str ref" => ((k_here; k_dflt (refine kdg_notin (knd := PySem.strKind _ _) (by k_asm) (by k_mem) (by assumption) (by assumption) (strKind_is _ _ _ _) true (by assumption) ?_)))
  k_with "getItem ref str" => ((k_here; k_dflt (refine kdt_getItem (knd := PySem.strKind _ _) (by k_asm) (by k_mem) (by assumption) (strKind_is _ _ _ _) (by assumption) ?_)))
  k_with "subscriptTail" => ((k_here; (with_reducible show wpAny _ _ (subscriptTail _ _ (Value.ref _) (Value.str _ _)) _ _ _); k_dflt (refine kda_item (knd := PySem.strKind _ _) (by k_asm) (by k_mem) (by assumption) (strKind_is _ _ _ _) (by assumption) ?_)))
  trivial
theorem told_all (w : World) (mean : ExcName → Option Value) (mg mb : Str → Option Value)
  (env1 env2 env3 : Env) (A₀ : Around) (base h₀ : Heap) (L : Addr) (m : Str → Option Value) (s : Shared) (Q E : Value → Shared → Prop) (hx : Option Value)
  (ash ds af : Addr) (ofs : Obj) (t7 : Tok) (nd : Nat) (kf : List (Str × Value)) (fl : List (Str × List Value)) (ex : Addr) (oex : Obj) (led : List (Addr × Obj))
  (hof : ofs.IsDictOf (SK w) kf) (loaf : (af == sysModules) = false) (hfs : FS kf (fl.map (·.1))) (hfl : ∀ p ∈ fl, FileAt kf led p) (hlen : fl.length ≤ 100) (hq : QuietIn (hx.or none) [(ex, oex)])
  (z1 : (ash, instObj 161 ds) ∈ led) (z2 : (ds, dictOf [ent w.params "files" t7 (.ref af)] nd) ∈ led) (z3 : (af, ofs) ∈ led) (z4 : (ex, oex) ∈ led)
  (B : Below A₀ base [env2, env1] h₀) (F : Fr h₀ L s.heap m) (KX : (hd.heap_1 w.params).In h₀) (N : News h₀ L s.heap led)
  (T : Top hd.view_39 LO mean mg mb h₀) (hk : env3.scope.kind = .function) (hf : env3.frame = some L)
  (hret : ∀ T vs n led' h' tk', (∀ p ∈ led, p ∈ led') → ToldAre led' vs fl → (T, tupOf vs.toArray n) ∈ led' → Fr h₀ L h' m → News h₀ L h' led' → Q (.ref T) { s with heap := h', toks := tk' }) :
  wpAny (model PySem.Challenge.rw_pb0238_01.row.prog w) ((((callerA.deeper env1).deeper env2).mark hx).deeper env3) (call (.ref 158) [.ref ash]) Q E s := by
  replace N := news_up N z1 (news_up N z2 (news_up N z3 (news_up N z4 N)))
  revert KX; k_fill; intro KX
  refine wpAny_call ?_
  k_dflt (refine' code_defC ?k1 ?k2 ?k3 ?k4 ?k5 ?kA ?kF ?kK ?k6 ?k7 ?k8 ?k9 ?kB ?kD ?_ ?c2 ?c3 ?c4; (case kA => exact rfl); (case kF => exact hf); (case kK => exact hk); (case k1 => exact B); (case k2 => k_asm); (case k3 => k_asm); (case k4 => k_asm); (case k5 => k_asm); (case k6 => k_is); (case k7 => k_is); (case k8 => k_room); (case k9 => exact BindsTo.of_eq rfl); (case kB => exact rfl); (case kD => decide +kernel); (case c2 => exact rfl); (case c3 => exact rfl); (case c4 => exact rfl); k_whole; intro g' L' h' tk' cells' FG' F' N' Y' B' X' T' l1; (try k_lt l1); k_cells Y'; (try simp only [List.cons_append, List.nil_append] at N'); (try dsimp only); (try k_lift B'); (try k_fold))
  k_steps
  refine ⟨?_⟩
  rename StrsAre _ _ => sa
  have hvl := strs_lenS sa
  rw [List.length_map] at hvl
  k_dflt (refine SrcQ.ledger (by k_asm) (by k_asm) (by k_mem) (QuietIn.one (by assumption) (by k_mem)) (by rw [sizeLine_eq, List.size_toArray]; omega) ?_)
  intro g9
  refine rest_indS (fun i ys nw => ToldAre nw ys (fl.take i)) ?_ ?_ .nil
  · intro i v ys news I oI C oC D m₂ h tk E' hi hP hsu hto hC hx F N off ne
    obtain ⟨y, ty, rfl, hy⟩ := strs_get sa (by simpa using hP)
    clear hP
    rw [List.getElem?_map, Option.map_eq_some_iff] at hy
    obtain ⟨⟨y', rs⟩, hy, rfl⟩ := hy
    obtain ⟨t, c, u, n1, n2, hv, m1, m2, hrl⟩ := hfl _ (List.mem_of_getElem? hy)
    dsimp only at hv m2 hrl ⊢
    have hvs : (valueAt kf y').isSome = true := by rw [hv]; rfl
    have hsu0 := hsu
    have M := N
    (repeat (obtain ⟨hm9, hsu⟩ := List.forall_mem_cons.mp hsu; replace M := news_up N (.tail _ (.tail _ (.tail _ hm9))) M; clear hm9))
    replace M := news_up N (.tail _ (.tail _ (.tail _ (hsu _ m1)))) (news_up N (.tail _ (.tail _ (.tail _ (hsu _ m2)))) M)
    clear N hsu
    k_steps
    rename News _ _ _ _ => kN
    rename Fr _ _ _ _ => kF
    refine compEnd_two kF kN (by k_mem) (by k_mem) (by k_mem) (fun p hp => (by repeat (first | exact hp | refine List.Mem.tail _ ?_))) off (by k_ne) (by k_ne) (by k_ne) (by k_ne) (by k_ne) (by k_ne) ⟨Or.inr ⟨_, .tail _ (.tail _ (hsu0 _ (by k_mem))), rfl, _, rfl⟩, QuietIn.one hq (.tail _ (.tail _ (hsu0 _ (by k_mem))))⟩ ⟨fun p hp => .tail _ (.tail _ (hsu0 p hp)), ?_⟩
    rw [take_snoc hy]
    exact (hto.mono fun p hp => .tail _ (.tail _ hp)).snoc (.head _) (.tail _ (.head _))
  · intro ys news hsu hto
    have hto2 : ToldAre news ys fl := by
      have q := hto
      rw [List.size_toArray, hvl, List.take_length] at q
      exact q
    clear hto
    have hyl := hto2.len
    unfold LCg.FinE
    intro D h tk F N off
    k_steps
    rename News _ _ _ _ => kN
    rename Fr _ _ _ _ => kF
    exact hret _ _ _ _ _ _ (fun p hp => .tail _ (hsu p (by repeat (first | exact hp | refine List.Mem.tail _ ?_)))) (hto2.mono fun p hp => .tail _ hp) (.head _) kF (fun p hp => kN p ((by k_extra "sub" : ∀ p ∈ (_, tupOf ys.toArray _) :: news, p ∈ _) p hp))
end Mine
end

section
open PySem PySem.W PyProof.Rows
set_option Elab.async false
set_option linter.all false
set_option maxRecDepth 100000
set_option maxHeartbeats 0
set_option pp.maxSteps 20000
namespace Mine
section
variable {prog : Program} {w : World} {A : Around} {E : Value → Shared → Prop} {s : Shared} {a b : Addr} {vs us : List Value} {n n1 n2 : Nat} {Q : Value → Shared → Prop} {h₀ : Heap} {L : Addr} {news : List (Addr × Obj)}
theorem ne_dicts_N {oa ob : Obj} {ka kb : List (Str × Value)} (N : News h₀ L s.heap news) (ma : (a, oa) ∈ news) (mb : (b, ob) ∈ news) (da : oa.IsDictOf (PySem.strKind prog w) ka) (db : ob.IsDictOf (PySem.strKind prog w) kb) (la : (a == sysModules) = false) (lb : (b == sysModules) = false)
    (x : ∀ h, SameD h n ka kb) (hu : A.units + n + 1 < cLine) (h : Q (.bool false) s) : wpAny (model prog w) A (compareOp .NotEq (.ref a) (.ref b)) Q E s := ne_dicts_same (N _ ma).1 (N _ mb).1 da db la lb (x _) hu h
theorem ne_lists_N (N : News h₀ L s.heap news) (ma : (a, W.listOf vs.toArray n1) ∈ news) (mb : (b, W.listOf us.toArray n2) ∈ news) (x : ∀ h, SameL h n vs us) (hu : A.units + n + 1 < cLine) (h : Q (.bool false) s) : wpAny (model prog w) A (compareOp .NotEq (.ref a) (.ref b)) Q E s :=
  ne_lists_same ⟨_, (N _ ma).1, rfl, _, rfl⟩ ⟨_, (N _ mb).1, rfl, _, rfl⟩ (x _) hu h
theorem eq_lists_N (N : News h₀ L s.heap news) (ma : (a, W.listOf vs.toArray n1) ∈ news) (mb : (b, W.listOf us.toArray n2) ∈ news) (x : ∀ h, SameL h n vs us) (hu : A.units + n + 1 < cLine) (h : Q (.bool true) s) : wpAny (model prog w) A (compareOp .Eq (.ref a) (.ref b)) Q E s :=
  eq_lists_same ⟨_, (N _ ma).1, rfl, _, rfl⟩ ⟨_, (N _ mb).1, rfl, _, rfl⟩ (x _) hu h
theorem same_tuples_N {hp : Heap} (N : News h₀ L hp news) (ma : (a, tupOf vs.toArray n1) ∈ news) (mb : (b, tupOf us.toArray n2) ∈ news) (x : SameL hp n vs us) : SameV hp (n + 1) (.ref a) (.ref b) :=
  same_tuples ⟨_, (N _ ma).1, rfl, _, rfl⟩ ⟨_, (N _ mb).1, rfl, _, rfl⟩ x
theorem eq_tuples_N (N : News h₀ L s.heap news) (ma : (a, tupOf vs.toArray n1) ∈ news) (mb : (b, tupOf us.toArray n2) ∈ news) (x : SameL s.heap n vs us) (hu : A.units + n + 1 < cLine) (h : Q (.bool true) s) : wpAny (model prog w) A (compareOp .Eq (.ref a) (.ref b)) Q E s :=
  eq_tuples_same ⟨_, (N _ ma).1, rfl, _, rfl⟩ ⟨_, (N _ mb).1, rfl, _, rfl⟩ x hu h
end
theorem eq_pair_N {prog : Program} {w : World} {A : Around} {E : Value → Shared → Prop} {s : Shared} {T D : Addr} {h₀ : Heap} {L : Addr} {news : List (Addr × Obj)} {Q : Value → Shared → Prop} {nT nD : Nat} {x y : Str} {u v u' v' : Tok}
  (N : News h₀ L s.heap news) (mT : (T, tupOf #[.str x u, .str y v] nT) ∈ news) (mD : (D, tupOf #[.str x u', .str y v'] nD) ∈ news)
  (hu : A.units + 2 + 1 < cLine) (h : Q (.bool true) s) : wpAny (model prog w) A (compareOp .Eq (.ref T) (.ref D)) Q E s :=
  eq_tuples_N (n := 2) (vs := [.str x u, .str y v]) (us := [.str x u', .str y v']) N mT mD (SameL.cons (same_str.up (Nat.zero_le 2)) (SameL.cons (same_str.up (Nat.zero_le 2)) SameL.nil)) hu h
inductive FilesSame : List (Str × List Value) → List (Str × List Value) → Prop
  | nil : FilesSame [] []
  | cons {y : Str} {rs rs' : List Value} {l l' : List (Str × List Value)} : (∀ h, SameL h 0 rs rs') → FilesSame l l' → FilesSame ((y, rs) :: l) ((y, rs') :: l')
theorem told_same {led : List (Addr × Obj)} {h₀ h : Heap} {L : Addr} (N : News h₀ L h led) {vs us : List Value} {l l' : List (Str × List Value)} (a : ToldAre led vs l) (b : ToldAre led us l') (c : FilesSame l l') : SameL h 2 vs us := by
  induction c generalizing vs us with
  | nil => cases a; cases b; exact .nil
  | cons e _ ih =>
    cases a with
    | cons a1 a2 a3 =>
      cases b with
      | cons b1 b2 b3 =>
        exact .cons (same_tuples_N N a1 b1 (.cons (same_str.up (Nat.zero_le 1)) (.cons (same_str.up (Nat.zero_le 1)) (.cons (same_tuples_N N a2 b2 (e h)) .nil)))) (ih a3 b3)
theorem eq_told {prog : Program} {w : World} {A : Around} {E : Value → Shared → Prop} {s : Shared} {T D : Addr} {h₀ : Heap} {L : Addr} {news : List (Addr × Obj)} {Q : Value → Shared → Prop} {nT nD : Nat} {vs us : List Value} {l l' : List (Str × List Value)}
  (N : News h₀ L s.heap news) (mT : (T, tupOf vs.toArray nT) ∈ news) (mD : (D, tupOf us.toArray nD) ∈ news) (a : ToldAre news vs l) (b : ToldAre news us l') (c : FilesSame l l')
  (hu : A.units + 2 + 1 < cLine) (h : Q (.bool true) s) : wpAny (model prog w) A (compareOp .Eq (.ref T) (.ref D)) Q E s :=
  eq_tuples_N (n := 2) N mT mD (told_same N a b c) hu h
theorem compEnd_one {h₀ : Heap} {L I C D T : Addr} {m : Str → Option Value} {s₁ : Shared} {oI oC oD oT : Obj} {S : List (Addr × Obj) → Prop} {rest : Value → List (Addr × Obj) → Prop} {y : Value} {h' : Heap} {tk : Nat} {news more : List (Addr × Obj)}
    (F : Fr h₀ L h' m) (N : News h₀ L h' ((T, oT) :: more)) (hI : (I, oI) ∈ more) (hC : (C, oC) ∈ more) (hD : (D, oD) ∈ more) (hn : ∀ p ∈ news, p ∈ more) (off : LCg.Off3 I C D news) (a1 : @Ne Nat T I) (a2 : @Ne Nat T C) (a3 : @Ne Nat T D)
    (hS : S ((T, oT) :: news)) (r : rest y ((T, oT) :: news)) : LCg.CompEnd h₀ L m s₁ I oI C oC D oD S rest y { s₁ with heap := h', toks := tk } := by
  refine LCg.CompEnd.intro F N ((T, oT) :: news) (fun p hp => ?_) ⟨⟨a1, a2, a3⟩, off⟩ hS r
  rcases List.mem_cons.mp hp with rfl | hp
  · exact .tail _ hI
  rcases List.mem_cons.mp hp with rfl | hp
  · exact .tail _ hC
  rcases List.mem_cons.mp hp with rfl | hp
  · exact .tail _ hD
  rcases List.mem_cons.mp hp with rfl | hp
  · exact .head _
  · exact .tail _ (hn p hp)
theorem quiet_some {hx : Option Value} {exl led : List (Addr × Obj)} {p : Addr × Obj} (q : QuietIn hx exl) (hp : p ∈ led) : ∃ ex oex, QuietIn hx [(ex, oex)] ∧ (ex, oex) ∈ exl ++ led := by
  rcases q with q | ⟨e, dd, vs, sl, e1, e2, e4⟩
  · exact ⟨p.1, p.2, .inl q, List.mem_append_right _ hp⟩
  · exact ⟨e, _, .inr ⟨e, dd, vs, sl, e1, .head _, e4⟩, List.mem_append_left _ e2⟩
theorem FileAt.mono {kf : List (Str × Value)} {led led' : List (Addr × Obj)} {p : Str × List Value} (h : ∀ q ∈ led, q ∈ led') (x : FileAt kf led p) : FileAt kf led' p := by
  obtain ⟨t, c, u, n1, n2, a, b, d, e⟩ := x
  exact ⟨t, c, u, n1, n2, a, h _ b, h _ d, e⟩
/-- a file in the law's dict -/
def StFileAt (kf : List (Str × Value)) (led : List (Addr × Obj)) (p : Str × List Value) : Prop :=
  ∃ (t : Addr) (n : Nat), valueAt kf p.1 = some (.ref t) ∧ (t, tupOf p.2.toArray n) ∈ led
theorem setAlike20 : True := by
  w_top off
  k_with_none
  k_with "rest1" => (refine' rest_ne1 ?zh ?zs; (case zh => with_reducible assumption); (case zs => k_extra "sub"))
  k_with "rest2" => (rename (∀ p ∈ (_ : List (Addr × Obj)), p.1 < _) => zzR; first | (refine' rest_ne2 zzR ?zs ?zl; (case zs => k_extra "sub"); (case zl => first | exact Nat.le_refl _ | exact Nat.le_succ _ | ((try dsimp only); omega))) | (clear zzR; k_extra "rest2"))
  k_with "rest" => (first | assumption | k_extra "rest1" | k_extra "rest2")
  k_with "sub" => (first | exact List.forall_mem_nil _ | (refine List.forall_mem_cons.mpr ⟨by k_mem, ?_⟩; k_extra "sub") | (intro p hp; (repeat (first | exact hp | refine List.Mem.tail _ ?_)); done))
  k_with "sub" => (intro p hp; (repeat (first | with_reducible exact hp | refine List.Mem.tail _ ?_)); done)
  k_with "nl" => (first | exact Nat.ne_of_lt zz1.1 | exact Nat.ne_of_gt zz1.1 | (replace zz1 := zz1.2; k_extra "nl"))
  k_with "ne" => (refine neN ?_; (try dsimp only); (repeat (rename (@Ne Nat _ _) => zz; clear zz)); omega)
  k_with "ne" => (refine neN ?_; (try dsimp only); (rename (@LT.lt Nat _ _ _ ∧ _) => zz1); first | k_extra "nl" | (clear zz1; (rename (@LT.lt Nat _ _ _ ∧ _) => zz1); first | k_extra "nl" | (clear zz1; (rename (@LT.lt Nat _ _ _ ∧ _) => zz1); k_extra "nl")))
  k_with "ne" => (refine neN ?_; (try dsimp only); first | assumption | (refine Ne.symm ?_; assumption))
  k_with "all" => (first | assumption | k_extra "rest")
  k_with "ite" => ((first | refine ite_neg (by simp) ?_ | refine ite_pos (by simp) ?_))
  k_with "call type:tuple" => ((k_here; (with_reducible show wpAny _ _ (call (Value.type _) [Value.ref _]) _ _ _); k_dflt (refine' kde_tupleOf ?k1 ?k2 ?k3 ?k4 ?k5 ?_; (case k1 => k_asm); (case k2 => k_asm); (case k3 => first | exact News.isList (by k_asm) (by k_mem)); (case k4 => first | exact Nat.le_of_ble_eq_true rfl | (simp only [List.size_toArray]; omega)); (case k5 => first | kun_lit | exact rfl); k_whole); intro D' h' F' N' l1; (try k_lt l1); (try k_sweep)))
  k_with "SrcQ" => ((k_here; refine Stop.out ?_))
  k_with "eval ListComp" => ((k_here; k_dflt (refine ListComp_Q (F₀ := by k_asm) (by with_unfolding_all rfl) (by decide) (by rfl) (by decide) (by rfl) ?_)))
  k_with "call builtin:sorted" => ((k_here; k_dflt (refine' sorted_K ?k0 ?k1 ?k2 ?k3 ?k4 ?k5 ?k6 ?_; (case k0 => assumption); (case k1 => k_asm); (case k2 => k_asm); (case k3 => k_mem); (case k4 => assumption); (case k5 => assumption); (case k6 => exact QuietIn.one (by assumption) (by k_mem))); intro D' vs' n' h' tk' sa' F' N' ne'; (try k_sweep)))
  k_with "compareOp In str ref" => ((k_here; k_dflt (refine kda_in (knd := PySem.strKind _ _) (by k_asm) (by k_mem) (by assumption) (by assumption) (strKind_is _ _ _ _) true (by assumption) ?_)))
  k_with "compareOp NotIn str ref" => ((k_here; k_dflt (refine kdg_notin (knd := PySem.strKind _ _) (by k_asm) (by k_mem) (by assumption) (by assumption) (strKind_is _ _ _ _) true (by assumption) ?_)))
  k_with "getItem ref str" => ((k_here; k_dflt (refine kdt_getItem (knd := PySem.strKind _ _) (by k_asm) (by k_mem) (by assumption) (strKind_is _ _ _ _) (by assumption) ?_)))
  k_with "subscriptTail" => ((k_here; (with_reducible show wpAny _ _ (subscriptTail _ _ (Value.ref _) (Value.str _ _)) _ _ _); k_dflt (refine kda_item (knd := PySem.strKind _ _) (by k_asm) (by k_mem) (by assumption) (strKind_is _ _ _ _) (by assumption) ?_)))
  k_with "compareOp NotEq ref ref" => ((k_here; (try dsimp only); k_dflt (first
      | refine ne_dicts_N (by k_asm) (by k_mem) (by k_mem) (by assumption) (by assumption) (by assumption) (by assumption) (by assumption) (by k_units) ?_
      | refine ne_lists_N (by k_asm) (by k_mem) (by k_mem) (by assumption) (by k_units) ?_)))
  k_with "compareOp Eq ref ref" => ((k_here; (try dsimp only); k_dflt (first
      | (refine' eq_pair_N ?N ?mT ?mD ?hu ?_; (case N => k_asm); (case mT => k_mem); (case mD => k_mem); (case hu => k_units))
      | refine eq_lists_N (by k_asm) (by k_mem) (by k_mem) (by assumption) (by k_units) ?_)))
  k_with "compareOp Eq ref ref" => ((k_here; (try dsimp only); (rename Kont _ => kS); refine Stop.out ?_))
  k_with "call ref" => ((k_here; k_dflt (show wpAny _ _ (call (Value.ref 158) [Value.ref _]) _ _ _); refine Stop.out ?_))
  trivial
/-- what a call of `_law_alike` does -/
def AlikeSpec (w : World) (mean : ExcName → Option Value) (mg mb : Str → Option Value) (base : Heap) (env1 : Env) (dk st : Addr) (led : List (Addr × Obj)) : Prop :=
  ∀ (env2 : Env) (A₀ : Around) (h₀ : Heap) (L : Addr) (m : Str → Option Value) (s : Shared) (Q E : Value → Shared → Prop) (hx : Option Value) (exl : List (Addr × Obj)), QuietIn (hx.or none) exl → Below A₀ base [env1] h₀ → Fr h₀ L s.heap m → (hd.heap_1 w.params).In h₀ → News h₀ L s.heap (exl ++ led) → Top hd.view_39 LO mean mg mb h₀ → env2.scope.kind = .function → env2.frame = some L →
    (∀ h' tk', Fr h₀ L h' m → News h₀ L h' led → Q (.bool true) { s with heap := h', toks := tk' }) → wpAny (model PySem.Challenge.rw_pb0238_01.row.prog w) (((callerA.deeper env1).deeper env2).mark hx) (call (.ref 263) [.ref dk, .ref st]) Q E s
theorem alike_all (w : World) (mean : ExcName → Option Value) (mg mb : Str → Option Value) (base : Heap) (env1 : Env)
  (dk dd al ash ds af ar ag ali st sl sr sf sg sli : Addr) (ost osl osf olib ofs : Obj) (src g1 g2 : Str) (tsrc tsrc' tg1 tg2 tg3 tg4 t1 t2 t3 t4 t5 t6 t7 : Tok) (srows slines drows dlines : List Value) (nr1 ng1 nl1 nr2 ng2 nl2 nq nd : Nat) (kl kl' kf kf' : List (Str × Value)) (fl fs : List (Str × List Value)) (led : List (Addr × Obj))
  (hst : ost.IsDictOf (SK w) [(Str.ofString "source", .str src tsrc'), (Str.ofString "library", .ref sl), (Str.ofString "rows", .ref sr), (Str.ofString "files", .ref sf), (Str.ofString "gathering", .ref sg), (Str.ofString "lines", .ref sli)])
  (hol : olib.IsDictOf (SK w) kl) (hosl : osl.IsDictOf (SK w) kl') (hof : ofs.IsDictOf (SK w) kf) (hosf : osf.IsDictOf (SK w) kf')
  (losf : (sf == sysModules) = false) (loaf : (af == sysModules) = false) (lost : (st == sysModules) = false) (loal : (al == sysModules) = false) (losl : (sl == sysModules) = false)
  (xlib : ∀ h, SameD h 0 kl kl') (xrows : ∀ h, SameL h 0 drows srows) (xlines : ∀ h, SameL h 0 dlines slines)
  (hfs : FS kf (fl.map (·.1))) (hfl : ∀ p ∈ fl, FileAt kf led p) (hfs' : FS kf' (fs.map (·.1))) (hfl' : ∀ p ∈ fs, StFileAt kf' led p) (hlen : fl.length ≤ 100) (hlen' : fs.length ≤ 100) (hsame : FilesSame fl fs)
  (z_dk : (dk, instObj 182 dd) ∈ led) (z_dd : (dd, dictOf [ent w.params "source" t1 (.str src tsrc), ent w.params "library" t2 (.ref al), ent w.params "shelf" t3 (.ref ash), ent w.params "rows" t4 (.ref ar), ent w.params "gathering" t5 (.ref ag), ent w.params "lines" t6 (.ref ali)] nq) ∈ led) (z_al : (al, olib) ∈ led) (z_ash : (ash, instObj 161 ds) ∈ led) (z_ds : (ds, dictOf [ent w.params "files" t7 (.ref af)] nd) ∈ led) (z_af : (af, ofs) ∈ led) (z_ar : (ar, W.listOf drows.toArray nr1) ∈ led) (z_ag : (ag, tupOf #[.str g1 tg1, .str g2 tg2] ng1) ∈ led) (z_ali : (ali, W.listOf dlines.toArray nl1) ∈ led) (z_st : (st, ost) ∈ led) (z_sl : (sl, osl) ∈ led) (z_sr : (sr, W.listOf srows.toArray nr2) ∈ led) (z_sf : (sf, osf) ∈ led) (z_sg : (sg, tupOf #[.str g1 tg3, .str g2 tg4] ng2) ∈ led) (z_sli : (sli, W.listOf slines.toArray nl2) ∈ led) : AlikeSpec w mean mg mb base env1 dk st led := by
  intro env2 A₀ h₀ L m s Q E hx exl hq0 B F KX N0 T hk hf hret
  obtain ⟨ex, oex, hq, z_ex⟩ := quiet_some (p := (dk, instObj 182 dd)) hq0 z_dk
  have N1 : News h₀ L s.heap led := fun p hp => N0 p (List.mem_append_right _ hp)
  have N : News h₀ L s.heap ((ex, oex) :: led) := news_up N0 z_ex N1
  replace N := news_up N1 z_dk N
  replace N := news_up N1 z_dd N
  replace N := news_up N1 z_al N
  replace N := news_up N1 z_ash N
  replace N := news_up N1 z_ds N
  replace N := news_up N1 z_af N
  replace N := news_up N1 z_ar N
  replace N := news_up N1 z_ag N
  replace N := news_up N1 z_ali N
  replace N := news_up N1 z_st N
  replace N := news_up N1 z_sl N
  replace N := news_up N1 z_sr N
  replace N := news_up N1 z_sf N
  replace N := news_up N1 z_sg N
  replace N := news_up N1 z_sli N
  clear N0 N1
  revert KX; k_fill; intro KX
  refine wpAny_call ?_
  k_dflt (refine' code_defC ?k1 ?k2 ?k3 ?k4 ?k5 ?kA ?kF ?kK ?k6 ?k7 ?k8 ?k9 ?kB ?kD ?_ ?c2 ?c3 ?c4; (case kA => exact rfl); (case kF => exact hf); (case kK => exact hk); (case k1 => exact B); (case k2 => k_asm); (case k3 => k_asm); (case k4 => k_asm); (case k5 => k_asm); (case k6 => k_is); (case k7 => k_is); (case k8 => k_room); (case k9 => exact BindsTo.of_eq rfl); (case kB => exact rfl); (case kD => decide +kernel); (case c2 => exact rfl); (case c3 => exact rfl); (case c4 => exact rfl); k_whole; intro g' L' h' tk' cells' FG' F' N' Y' B' X' T' l1; (try k_lt l1); k_cells Y'; (try simp only [List.cons_append, List.nil_append] at N'); (try dsimp only); (try k_lift B'); (try k_fold))
  k_steps
  refine ⟨?_⟩
  rename StrsAre _ _ => sa
  have hvl := strs_lenS sa
  rw [List.length_map] at hvl
  k_dflt (refine SrcQ.ledger (by k_asm) (by k_asm) (by k_mem) (QuietIn.one (by assumption) (by k_mem)) (by rw [sizeLine_eq, List.size_toArray]; omega) ?_)
  intro g9
  refine rest_indS (fun i ys nw => ToldAre nw ys (fs.take i)) ?_ ?_ .nil
  · intro i v ys news I oI C oC D m₂ h tk E' hi hP hsu hto hC hx F N off ne
    obtain ⟨y, ty, rfl, hy⟩ := strs_get sa (by simpa using hP)
    clear hP
    rw [List.getElem?_map, Option.map_eq_some_iff] at hy
    obtain ⟨⟨y', rs⟩, hy, rfl⟩ := hy
    obtain ⟨t, n1, hv, m1⟩ := hfl' _ (List.mem_of_getElem? hy)
    dsimp only at hv m1 ⊢
    have hsu0 := hsu
    have M := N
    (repeat (obtain ⟨hm9, hsu⟩ := List.forall_mem_cons.mp hsu; replace M := news_up N (.tail _ (.tail _ (.tail _ hm9))) M; clear hm9))
    replace M := news_up N (.tail _ (.tail _ (.tail _ (hsu _ m1)))) M
    clear N
    k_steps
    rename News _ _ _ _ => kN
    rename Fr _ _ _ _ => kF
    refine compEnd_one kF kN (by k_mem) (by k_mem) (by k_mem) (fun p hp => (by repeat (first | exact hp | refine List.Mem.tail _ ?_))) off (by k_ne) (by k_ne) (by k_ne) ⟨Or.inr ⟨_, .tail _ (hsu0 _ (by k_mem)), rfl, _, rfl⟩, QuietIn.one hq (.tail _ (hsu0 _ (by k_mem)))⟩ ⟨fun p hp => .tail _ (hsu0 p hp), ?_⟩
    rw [take_snoc hy]
    exact (hto.mono fun p hp => .tail _ hp).snoc (.head _) (.tail _ (hsu _ m1))
  · intro ys news hsu hto
    have hto2 : ToldAre news ys fs := by
      have q := hto
      rw [List.size_toArray, hvl, List.take_length] at q
      exact q
    clear hto
    have hyl := hto2.len
    unfold LCg.FinE
    intro D h tk F N off
    have M := N
    (repeat (obtain ⟨hm9, hsu⟩ := List.forall_mem_cons.mp hsu; replace M := news_up N (.tail _ hm9) M; clear hm9))
    clear N
    k_steps
    rename News _ _ _ _ => kN
    refine ⟨?_⟩
    refine told_all w mean mg mb _ _ _ _ base _ _ _ _ _ _ hx ash ds af ofs t7 nd kf fl ex oex _ hof loaf hfs (fun p hp => (hfl p hp).mono fun q hq => (by repeat (first | exact hsu q hq | refine List.Mem.tail _ ?_))) hlen hq (by k_mem) (by k_mem) (by k_mem) (by k_mem) (by k_asm) (by k_asm) (by k_asm) kN (by k_asm) rfl rfl ?_
    intro T9 vs9 n9 led9 h9 tk9 hin hto9 hT9 F9 N9
    clear kN
    have hto3 := hto2.mono fun p hp => hin p (by repeat (first | exact hp | refine List.Mem.tail _ ?_))
    have hin0 := fun p hp => hin p (by repeat (first | exact hsu p hp | refine List.Mem.tail _ ?_))
    clear hsu hto2
    have M := N9
    (repeat (obtain ⟨hm9, hin⟩ := List.forall_mem_cons.mp hin; replace M := news_up N9 hm9 M; clear hm9))
    replace M := news_up N9 hT9 M
    clear N9 hin
    have kS : Kont True := ⟨trivial⟩
    k_steps
    rename News _ _ _ _ => kN
    refine ⟨?_⟩
    refine eq_told kN (by k_mem) (by k_mem) (hto9.mono fun p hp => (by repeat (first | exact hp | refine List.Mem.tail _ ?_))) (hto3.mono fun p hp => (by repeat (first | exact hp | refine List.Mem.tail _ ?_))) hsame (by k_units) ?_
    rename Kont _ => kS
    clear kS
    k_steps
    rename News _ _ _ _ => kN
    rename Fr _ _ _ _ => kF
    exact hret _ _ kF (fun p hp => kN p (by repeat (first | exact hin0 p hp | refine List.Mem.tail _ ?_)))
end Mine
end

section
open PySem PySem.W PyProof.Rows
set_option Elab.async false
set_option linter.all false
set_option maxRecDepth 100000
set_option maxHeartbeats 0
set_option pp.maxSteps 20000
namespace Mine
theorem getD_small {ns : List Int} {M : Int} (hM : 0 < M) (h : ∀ n ∈ ns, 0 ≤ n ∧ n < M) (i : Nat) : 0 ≤ ns.getD i 0 ∧ ns.getD i 0 < M := by
  rw [List.getD_eq_getElem?_getD]
  cases e : ns[i]? with
  | none => exact ⟨Int.le_refl _, hM⟩
  | some x => exact h x (List.mem_of_getElem? e)
theorem fmod_small (x : Int) {k : Int} (hk : 0 < k) : 0 ≤ x.fmod k ∧ x.fmod k < k := ⟨Int.fmod_nonneg_of_pos x hk, Int.fmod_lt_of_pos x hk⟩
theorem fdiv_small {x k M : Int} (hk : 0 < k) (h0 : 0 ≤ x) (h1 : x < M) : 0 ≤ x.fdiv k ∧ x.fdiv k < M := by
  have e := Int.fdiv_eq_ediv_of_nonneg x (Int.le_of_lt hk)
  rw [e]
  have a := Int.ediv_nonneg h0 (Int.le_of_lt hk)
  have b := Int.ediv_le_self k h0
  exact ⟨a, Int.lt_of_le_of_lt b h1⟩
theorem pow_small {x : Int} (h0 : 0 ≤ x) (h1 : x ≤ 101) : 0 ≤ x ^ 7 ∧ x ^ 7 ≤ 1000000000000000 := by
  obtain ⟨n, rfl⟩ := Int.eq_ofNat_of_zero_le h0
  have hn : n ≤ 101 := by omega
  have := Nat.pow_le_pow_left hn 7
  have e : ((n : Int)) ^ 7 = ((n ^ 7 : Nat) : Int) := by simp
  rw [e]
  have q : (101 : Nat) ^ 7 ≤ 1000000000000000 := by decide
  omega
theorem set_at {prog : Program} {w : World} {A : Around} {E : Value → Shared → Prop} {s : Shared} {h₀ : Heap} {L D : Addr} {m : Str → Option Value} {news news' : List (Addr × Obj)} {its ws : Array Value} {n : Nat} {k : Int} {t : Tok} {v : Value} {Q : Unit → Shared → Prop}
    (F : Fr h₀ L s.heap m) (N : News h₀ L s.heap news) (hw : its.setIfInBounds k.toNat v = ws) (U : Upd D (W.listOf its n) (W.listOf ws n) news news') (h0 : 0 ≤ k) (h1 : k < its.size) (hfit : k < 2 ^ 63)
    (h : ∀ h', Fr h₀ L h' m → News h₀ L h' news' → Q () { s with heap := h' }) : wpAny (model prog w) A (setItem (.ref D) (.int k t) v) Q E s := by
  obtain ⟨pre, post, rfl, rfl, a, b⟩ := U.split
  have z := N (D, W.listOf its n) (List.mem_append.mpr (.inr (.head _)))
  refine ki_setAt z.1 h0 hfit (by omega) (h _ (F.change (Heap.SameBut.update ..) z.2.1 z.2.2) (ki_turn _ N a b ?_ ?_))
  · exact hw
  · subst hw; simp
theorem set3_1 {prog : Program} {w : World} {A : Around} {E : Value → Shared → Prop} {s : Shared} {h₀ : Heap} {L D : Addr} {m : Str → Option Value} {news news' : List (Addr × Obj)} {x y z : Value} {n : Nat} {t : Tok} {v : Value} {Q : Unit → Shared → Prop}
    (F : Fr h₀ L s.heap m) (N : News h₀ L s.heap news) (U : Upd D (W.listOf #[x, y, z] n) (W.listOf #[x, v, z] n) news news') (h : ∀ h', Fr h₀ L h' m → News h₀ L h' news' → Q () { s with heap := h' }) : wpAny (model prog w) A (setItem (.ref D) (.int 1 t) v) Q E s :=
  set_at F N rfl U (by decide) (by show (1 : Int) < 3; decide) (by decide) h
theorem set3_2 {prog : Program} {w : World} {A : Around} {E : Value → Shared → Prop} {s : Shared} {h₀ : Heap} {L D : Addr} {m : Str → Option Value} {news news' : List (Addr × Obj)} {x y z : Value} {n : Nat} {t : Tok} {v : Value} {Q : Unit → Shared → Prop}
    (F : Fr h₀ L s.heap m) (N : News h₀ L s.heap news) (U : Upd D (W.listOf #[x, y, z] n) (W.listOf #[x, y, v] n) news news') (h : ∀ h', Fr h₀ L h' m → News h₀ L h' news' → Q () { s with heap := h' }) : wpAny (model prog w) A (setItem (.ref D) (.int 2 t) v) Q E s :=
  set_at F N rfl U (by decide) (by show (2 : Int) < 3; decide) (by decide) h
theorem setDraw20 : True := by
  w_top off
  k_with_none
  k_with "rest1" => (refine' rest_ne1 ?zh ?zs; (case zh => with_reducible assumption); (case zs => k_extra "sub"))
  k_with "rest2" => (rename (∀ p ∈ (_ : List (Addr × Obj)), p.1 < _) => zzR; first | (refine' rest_ne2 zzR ?zs ?zl; (case zs => k_extra "sub"); (case zl => first | exact Nat.le_refl _ | exact Nat.le_succ _ | ((try dsimp only); omega))) | (clear zzR; k_extra "rest2"))
  k_with "rest" => (first | assumption | k_extra "rest1" | k_extra "rest2")
  k_with "sub" => (first | exact List.forall_mem_nil _ | (refine List.forall_mem_cons.mpr ⟨by k_mem, ?_⟩; k_extra "sub") | (intro p hp; (repeat (first | exact hp | refine List.Mem.tail _ ?_)); done))
  k_with "sub" => (intro p hp; (repeat (first | with_reducible exact hp | refine List.Mem.tail _ ?_)); done)
  k_with "nl" => (first | exact Nat.ne_of_lt zz1.1 | exact Nat.ne_of_gt zz1.1 | (replace zz1 := zz1.2; k_extra "nl"))
  k_with "ne" => (refine neN ?_; (try dsimp only); (repeat (rename (@Ne Nat _ _) => zz; clear zz)); omega)
  k_with "ne" => (refine neN ?_; (try dsimp only); (rename (@LT.lt Nat _ _ _ ∧ _) => zz1); first | k_extra "nl" | (clear zz1; (rename (@LT.lt Nat _ _ _ ∧ _) => zz1); first | k_extra "nl" | (clear zz1; (rename (@LT.lt Nat _ _ _ ∧ _) => zz1); k_extra "nl")))
  k_with "ne" => (refine neN ?_; (try dsimp only); first | assumption | (refine Ne.symm ?_; assumption))
  k_with "all" => (first | assumption | k_extra "rest")
  k_with "setItem ref int" => ((k_here; first | ((with_reducible show wpAny _ _ (setItem (Value.ref _) (Value.int 1 _) _) _ _ _); (refine' set3_1 ?F ?N ?U ?_; (case F => k_asm); (case N => k_asm); (case U => k_upd))) | ((with_reducible show wpAny _ _ (setItem (Value.ref _) (Value.int 2 _) _) _ _ _); (refine' set3_2 ?F ?N ?U ?_; (case F => k_asm); (case N => k_asm); (case U => k_upd))); intro h' F' N'; (try k_sweep)))
  trivial
theorem draw_all (w : World) (mean : ExcName → Option Value) (mg mb : Str → Option Value)
  (env2 : Env) (outer : List Env) (dep un : Nat) (gs : Option (List Code)) (hdep : dep ≤ 800) (M : Int) (hM0 : 1 ≤ M) (hM1 : M ≤ 16) (A₀ : Around) (base h₀ : Heap) (L : Addr) (m : Str → Option Value) (s : Shared) (Q E : Value → Shared → Prop)
  (pn cA : Addr) (np nc : Nat) (a b : Int) (ta tb tm : Tok) (ys : List Value) (ns : List Int) (rest : List (Addr × Obj)) (hys : IntsAre ys ns) (hln : ns.length ≤ 30) (hns : ∀ n ∈ ns, 0 ≤ n ∧ n < 20000000000000000000000000000000000000000) (ha : 0 ≤ a) (ha2 : a ≤ 40) (hb : 0 ≤ b) (hb2 : b < 20000000000000000000000000000000000000000)
  (B : Below A₀ base outer h₀) (F : Fr h₀ L s.heap m) (KX : (hd.heap_1 w.params).In h₀) (N : News h₀ L s.heap ((pn, W.listOf #[.ref cA, .int a ta, .int b tb] np) :: rest)) (o : ∀ p ∈ rest, p.1 ≠ pn) (z1 : (cA, W.listOf ys.toArray nc) ∈ rest)
  (T : Top hd.view_39 LO mean mg mb h₀) (hk : env2.scope.kind = .function) (hf : env2.frame = some L)
  (hret : ∀ d td a' b' ta' tb' np' h' tk', 0 ≤ d → d < M → 0 ≤ a' → a' ≤ a + 1 → 0 ≤ b' → b' < 20000000000000000000000000000000000000000 → Fr h₀ L h' m → News h₀ L h' ((pn, W.listOf #[.ref cA, .int a' ta', .int b' tb'] np') :: rest) → Q (.int d td) { s with heap := h', toks := tk' }) :
  wpAny (model PySem.Challenge.rw_pb0238_01.row.prog w) ⟨none, dep, some (env2 :: outer), gs, un⟩ (call (.ref 234) [.ref pn, .int M tm]) Q E s := by
  have o1 : @Ne Nat cA pn := o _ z1
  replace N := news_up (tail_of N) z1 N
  have hgd := getD_small (by decide) hns a.toNat
  revert KX; k_fill; intro KX
  refine wpAny_call ?_
  k_dflt (refine' code_def ?k1 ?k2 ?k3 ?k4 ?k5 ?kA ?kF ?kK ?k6 ?k7 ?k8 ?k9 ?kB ?_ ?c2 ?c3 ?c4 ?c5; (case kA => exact rfl); (case kF => exact hf); (case kK => exact hk); (case k1 => exact B); (case k2 => k_asm); (case k3 => k_asm); (case k4 => k_asm); (case k5 => k_asm); (case k6 => k_is); (case k7 => k_is); (case k8 => (show dep < recursionLimit; have : recursionLimit = 1000 := rfl; omega)); (case k9 => exact BindsTo.of_eq rfl); (case c5 => decide); (case kB => exact locs rfl); (case c2 => exact rfl); (case c3 => exact rfl); (case c4 => exact rfl); k_whole; intro g' L' h' FG' F' N' B' X' T'; (try dsimp only); (try k_lift B'); (try k_fold))
  k_steps
  all_goals (rename News _ _ _ _ => kN; rename Fr _ _ _ _ => kF)
  · refine' hret _ _ _ _ _ _ _ _ _ ?p1 ?p2 ?x ?y ?p3 ?p4 kF ?gN
    case gN => exact fun p hp => kN p ((by k_extra "sub" : ∀ p ∈ _, p ∈ _) p hp)
    case p1 => exact (fmod_small _ (by omega)).1
    case p2 => exact (fmod_small _ (by omega)).2
    case p3 => exact (fdiv_small (by omega) hgd.1 hgd.2).1
    case p4 => exact (fdiv_small (by omega) hgd.1 hgd.2).2
    case x => omega
    case y => omega
  · have e1 : 0 ≤ ns.getD a.toNat 0 + 2 * a + 5 ∧ ns.getD a.toNat 0 + 2 * a + 5 ≤ 101 := by omega
    have e2 := pow_small e1.1 e1.2
    have e3 := fmod_small ns.sum (k := 1000003) (by decide)
    have e4 : 0 ≤ (ns.getD a.toNat 0 + 2 * a + 5) ^ Int.toNat 7 + ns.sum.fmod 1000003 ∧ (ns.getD a.toNat 0 + 2 * a + 5) ^ Int.toNat 7 + ns.sum.fmod 1000003 < 20000000000000000000000000000000000000000 := by
      have : Int.toNat 7 = 7 := rfl
      rw [this]; omega
    refine' hret _ _ _ _ _ _ _ _ _ ?p1 ?p2 ?x ?y ?p3 ?p4 kF ?gN
    case gN => exact fun p hp => kN p ((by k_extra "sub" : ∀ p ∈ _, p ∈ _) p hp)
    case p1 => exact (fmod_small _ (by omega)).1
    case p2 => exact (fmod_small _ (by omega)).2
    case p3 => exact (fdiv_small (by omega) e4.1 e4.2).1
    case p4 => exact (fdiv_small (by omega) e4.1 e4.2).2
    case x => omega
    case y => omega
  · have e1 : 0 ≤ 0 + 2 * a + 5 ∧ 0 + 2 * a + 5 ≤ 101 := by omega
    have e2 := pow_small e1.1 e1.2
    have e3 := fmod_small ns.sum (k := 1000003) (by decide)
    have e4 : 0 ≤ (0 + 2 * a + 5) ^ Int.toNat 7 + ns.sum.fmod 1000003 ∧ (0 + 2 * a + 5) ^ Int.toNat 7 + ns.sum.fmod 1000003 < 20000000000000000000000000000000000000000 := by
      have : Int.toNat 7 = 7 := rfl
      rw [this]; omega
    refine' hret _ _ _ _ _ _ _ _ _ ?p1 ?p2 ?x ?y ?p3 ?p4 kF ?gN
    case gN => exact fun p hp => kN p ((by k_extra "sub" : ∀ p ∈ _, p ∈ _) p hp)
    case p1 => exact (fmod_small _ (by omega)).1
    case p2 => exact (fmod_small _ (by omega)).2
    case p3 => exact (fdiv_small (by omega) e4.1 e4.2).1
    case p4 => exact (fdiv_small (by omega) e4.1 e4.2).2
    case x => omega
    case y => omega
  · refine' hret _ _ _ _ _ _ _ _ _ ?p1 ?p2 ?x ?y ?p3 ?p4 kF ?gN
    case gN => exact fun p hp => kN p ((by k_extra "sub" : ∀ p ∈ _, p ∈ _) p hp)
    case p1 => exact (fmod_small _ (by omega)).1
    case p2 => exact (fmod_small _ (by omega)).2
    case p3 => exact (fdiv_small (by omega) hb hb2).1
    case p4 => exact (fdiv_small (by omega) hb hb2).2
    case x => omega
    case y => omega
end Mine
end

section
open PySem PySem.W PyProof.Rows
set_option Elab.async false
set_option linter.all false
set_option maxRecDepth 100000
set_option maxHeartbeats 0
set_option pp.maxSteps 20000
namespace Mine
theorem item_at {prog : Program} {w : World} {A : Around} {E : Value → Shared → Prop} {s : Shared} {value slice : PySem.Expr} {l : Addr} {vs : List Value} {n : Nat} {h₀ : Heap} {L : Addr} {news : List (Addr × Obj)} {k : Int} {u : Tok} {v : Value} {Q : Value → Shared → Prop}
    (N : News h₀ L s.heap news) (hm : (l, W.listOf vs.toArray n) ∈ news) (h0 : 0 ≤ k) (hhi : k < 16) (hx : vs[k.toNat]? = some v) (h : Q v s)
    (hs : subscripted slice false (.ref l) (.int k u) = operate [.ref l, .int k u] (getItem (.ref l) (.int k u)) := by with_unfolding_all rfl) (hg : ∀ r, letTemporaryGo value (.ref l) r = pure () := by intro _; with_unfolding_all rfl) :
    wpAny (model prog w) A (subscriptTail value slice (.ref l) (.int k u)) Q E s :=
  have hl : s.heap.IsList l vs.toArray := ⟨_, (N _ hm).1, rfl, _, rfl⟩
  subscriptTail_builtin hl.typeIs slot_list_getitem.lookup (wpAny_getItem_list hl h0 (by omega) (by simpa using hx) h) hs hg
theorem len16 {prog : Program} {w : World} {A : Around} {E : Value → Shared → Prop} {s : Shared} {l : Addr} {vs : List Value} {n : Nat} {h₀ : Heap} {L : Addr} {news : List (Addr × Obj)} {Q : Value → Shared → Prop}
    (N : News h₀ L s.heap news) (hm : (l, W.listOf vs.toArray n) ∈ news) (hz : vs.length = 16) (h : ∀ t k, Q (.int 16 t) { s with toks := k }) : wpAny (model prog w) A (call (.builtin "len") [.ref l]) Q E s := by
  have hl : s.heap.IsList l vs.toArray := ⟨_, (N _ hm).1, rfl, _, rfl⟩
  have e : ((vs.toArray.size : Nat) : Int) = 16 := by simp [hz]
  refine PySem.Calls.call_len_list hl (by rw [e]; decide) ?_
  rw [e]
  exact h _ _
theorem setPick20 : True := by
  w_top off
  k_with_none
  k_with "call builtin:len" => ((k_here; k_dflt (refine' len16 ?N ?m ?z ?_; (case N => k_asm); (case m => k_mem); (case z => assumption)); intro t' k'))
  k_with "call ref" => ((k_here; k_dflt (show wpAny _ _ (call (Value.ref 234) [Value.ref _, Value.int _ _]) _ _ _); refine Stop.out ?_))
  trivial
theorem pick16 (w : World) (mean : ExcName → Option Value) (mg mb : Str → Option Value)
  (env2 : Env) (A₀ : Around) (base h₀ : Heap) (L : Addr) (m : Str → Option Value) (s : Shared) (Q E : Value → Shared → Prop)
  (pn cA kd : Addr) (np nc nk : Nat) (a b : Int) (ta tb : Tok) (ys ks : List Value) (ns : List Int) (menu : List Str) (rest : List (Addr × Obj)) (hys : IntsAre ys ns) (hln : ns.length ≤ 30) (hns : ∀ n ∈ ns, 0 ≤ n ∧ n < 20000000000000000000000000000000000000000) (ha : 0 ≤ a) (ha2 : a ≤ 40) (hb : 0 ≤ b) (hb2 : b < 20000000000000000000000000000000000000000) (hks : StrsAre ks menu) (hmn : menu.length = 16)
  (B : Below A₀ base [] h₀) (F : Fr h₀ L s.heap m) (KX : (hd.heap_1 w.params).In h₀) (N : News h₀ L s.heap ((pn, W.listOf #[.ref cA, .int a ta, .int b tb] np) :: rest)) (o : ∀ p ∈ rest, p.1 ≠ pn) (z1 : (cA, W.listOf ys.toArray nc) ∈ rest) (z2 : (kd, W.listOf ks.toArray nk) ∈ rest)
  (T : Top hd.view_39 LO mean mg mb h₀) (hk : env2.scope.kind = .function) (hf : env2.frame = some L)
  (hret : ∀ y t a' b' ta' tb' np' h' tk', y ∈ menu → 0 ≤ a' → a' ≤ a + 1 → 0 ≤ b' → b' < 20000000000000000000000000000000000000000 → Fr h₀ L h' m → News h₀ L h' ((pn, W.listOf #[.ref cA, .int a' ta', .int b' tb'] np') :: rest) → Q (.str y t) { s with heap := h', toks := tk' }) :
  wpAny (model PySem.Challenge.rw_pb0238_01.row.prog w) (callerA.deeper env2) (call (.ref 241) [.ref pn, .ref kd]) Q E s := by
  have hkl : ks.length = 16 := (strs_len hks).trans hmn
  replace N : News h₀ L s.heap ((pn, W.listOf #[.ref cA, .int a ta, .int b tb] np) :: (kd, W.listOf ks.toArray nk) :: (cA, W.listOf ys.toArray nc) :: rest) := news_up N (.head _) (news_up (tail_of N) z2 (news_up (tail_of N) z1 (tail_of N)))
  have o' : ∀ p ∈ (kd, W.listOf ks.toArray nk) :: (cA, W.listOf ys.toArray nc) :: rest, p.1 ≠ pn := fun p hp => (List.mem_cons.mp hp).elim (fun e => e ▸ o _ z2) fun hp => (List.mem_cons.mp hp).elim (fun e => e ▸ o _ z1) (o p)
  revert KX; k_fill; intro KX
  refine wpAny_call ?_
  k_dflt (refine' code_def ?k1 ?k2 ?k3 ?k4 ?k5 ?kA ?kF ?kK ?k6 ?k7 ?k8 ?k9 ?kB ?_ ?c2 ?c3 ?c4 ?c5; (case kA => exact rfl); (case kF => exact hf); (case kK => exact hk); (case k1 => exact B); (case k2 => k_asm); (case k3 => k_asm); (case k4 => k_asm); (case k5 => k_asm); (case k6 => k_is); (case k7 => k_is); (case k8 => k_room); (case k9 => exact BindsTo.of_eq rfl); (case c5 => decide); (case kB => exact locs rfl); (case c2 => exact rfl); (case c3 => exact rfl); (case c4 => exact rfl); k_whole; intro g' L' h' FG' F' N' B' X' T'; (try dsimp only); (try k_lift B'); (try k_fold))
  k_steps
  refine Stop.mk ?_
  refine' draw_all w mean mg mb _ _ _ _ _ ?dep _ ?m0 ?m1 _ _ _ _ _ _ _ _ _ _ _ _ _ _ _ _ _ _ _ _ hys hln hns ha ha2 hb hb2 ?B ?F ?X ?N o' ?z ?T ?hk ?hf ?_
  case dep => exact Nat.le_of_ble_eq_true rfl
  case m0 => decide
  case m1 => decide
  case B => k_asm
  case F => k_asm
  case X => k_asm
  case N => k_asm
  case z => k_mem
  case T => k_asm
  case hk => rfl
  case hf => rfl
  intro d td a' b' ta' tb' np' h2 tk2 d1 d2 a1 a2 b1 b2 F2 N2
  obtain ⟨y, t, hv, hy⟩ := strs_at hks (i := d.toNat) (by omega)
  k_steps
  rename News _ _ _ _ => kN
  rename Fr _ _ _ _ => kF
  refine' hret _ _ _ _ _ _ _ _ _ ?p1 a1 a2 b1 b2 kF (fun p hp => kN p ((List.mem_cons.mp hp).elim (fun e => e ▸ .head _) fun hp => .tail _ (.tail _ (.tail _ hp))))
  rw [List.getD_eq_getElem?_getD, hy]
  exact List.mem_of_getElem? hy
end Mine
end

section
open PySem PySem.W PyProof.Rows
set_option Elab.async false
set_option linter.all false
set_option maxRecDepth 100000
set_option maxHeartbeats 4000000
namespace Mine
theorem setReg20 : True := by
  w_top off
  k_with_none
  trivial
open PySem.Calls
/-- what a frame that caught an exception goes on with, where its own names are known behind the raise -/
theorem caught_ground2 {A₀ : Around} {base g h : Heap} {l : List Env} {env : Env} {L e : Addr} {cls a0 fl : Value} {dd : Option Addr} {m : Str → Option Value} {news : List (Addr × Obj)}
    (B : Below A₀ base l g) (ab : g.objs.size ≤ L) (ns : h.Ns L m) (hf : env.frame = some L) (hs : base.objs.size ≤ L) (U : g.UpToSlots h) (R : Thrown base (env :: l) e cls dd a0 fl news h) (hg : ∀ q ∈ news, g.get? q.1 = none) :
    ∃ vs sl G, Clean vs ∧ Fr G L h m ∧ News G L h ((e, ⟨cls, dd, .fields vs, sl⟩) :: news) ∧ Below A₀ base l G ∧ g.UpToSlots G := by
  obtain ⟨vs, sl, he, _, hc, hbe⟩ := R.exc
  obtain ⟨BB, hbB, hn, x⟩ := R.at_
  have fr := funFrames_base hbB x.frames
  obtain ⟨_, ⟨L', o', hf', hbL, hoL, hdL⟩, fr'⟩ := fr
  obtain rfl : L = L' := Option.some.inj (hf.symm.trans hf')
  have key : ∀ q ∈ (e, (⟨cls, dd, .fields vs, sl⟩ : Obj)) :: news, h.get? q.1 = some q.2 ∧ base.get? q.1 = none ∧ q.1 ≠ L ∧ ∀ env ∈ l, env.frame ≠ some q.1 := by
    intro q hq
    rcases List.mem_cons.mp hq with rfl | hq
    · refine ⟨he, hbe, fun z => ?_, fun env' he' hf' => ?_⟩
      · have z' : e = L := z
        rw [z', hoL] at he; cases he; exact hdL vs rfl
      · obtain ⟨_, o, ho, hd⟩ := fr'.mem (List.mem_filterMap.mpr ⟨env', he', hf'⟩)
        have : h.get? e = some o := ho
        rw [he] at this; cases this; exact hd vs rfl
    · have q2 := R.led q hq
      refine ⟨q2.1, q2.2, R.off hf q hq, fun env' he' hf' => ?_⟩
      have z1 := (x.frames.mem (List.mem_filterMap.mpr ⟨env', .tail _ he', hf'⟩)).1
      rw [(hn q hq).1] at z1; cases z1
  obtain ⟨G, F', N', B', k⟩ := reground hs R.stays B.stack fr' (fun env' he' b hf' => Nat.lt_of_lt_of_le (below_lt B env' he' b hf') ab) ns key
  refine ⟨vs, sl, G, hc, F', N', B', fun b o q hd => ?_⟩
  obtain ⟨sl', q'⟩ := U b o q hd
  refine ⟨sl', k b _ q' (Nat.lt_of_lt_of_le (Heap.lt_size q) ab) fun p hp z => ?_⟩
  rcases List.mem_cons.mp hp with rfl | hp
  · have z' : e = b := z
    rw [← z', he] at q'
    have q2 : Data.fields vs = o.data := congrArg Obj.data (Option.some.inj q')
    exact hd vs q2.symm
  · rw [← z, hg p hp] at q; cases q
section
variable {prog : Program} {w : World} {A A₀ : Around} {E : Value → Shared → Prop} {s : Shared} {base g : Heap} {outer : List Env} {L a e : Addr} {m : Str → Option Value} {name : Str} {scope : Scope} {cd : Value} {cls a0 c1 : Value} {dd : Option Addr} {news : List (Addr × Obj)}
  {KF : Frag} {p : Program} {loose : List Str} {mg mb : Str → Option Value} {x1 : Str} {np1 pos1 : Pos} {b₀ : Stmt} {suite1 : List Stmt} {rest : List ExceptHandler} {Q : Flow → Shared → Prop}
theorem catch_yes2 (hfr : A.frames = some (envOf name scope L a cd :: outer)) (B : Below A₀ base outer g) (ab : g.objs.size ≤ L) (F : Fr base L s.heap m) (U : g.UpToSlots s.heap)
    (R : Thrown base (envOf name scope L a cd :: outer) e cls dd a0 .none news s.heap) (hg : ∀ q ∈ news, g.get? q.1 = none) (X : KF.In base) (T : TopRead p loose mg mb base)
    (ex1 : nsIn KF mainGlobals x1 = some (some c1)) (he1 : exmOne KF cls c1 = some true)
    (k : ∀ vs sl G h', Clean vs → Fr G L h' m → News G L h' ((e, ⟨cls, dd, .fields vs, sl⟩) :: news) → Below A₀ base outer G → g.UpToSlots G →
      wpAny (model prog w) (A.mark (some (.ref e))) (execs (b₀ :: suite1) (envOf name scope L a cd)) Q (notedBy (model prog w) (A.mark (some (.ref e))) (envOf name scope L a cd) (cameBackBy (model prog w) A (envOf name scope L a cd) E)) { s with heap := h' })
    (hk : scope.kind = .function := by rfl) (hx1 : (envOf name scope L a cd).kindOf x1 = some .globalImplicit := by rfl) (hd1 : (x1 == ("__debug__" : Str)) = false := by decide) :
    wpAny (model prog w) A (noteFrame (.ref e) (envOf name scope L a cd)) (fun _ s₂ => wpAny (model prog w) A (setFlight (.ref e) none) (fun _ s₃ =>
      wpAny (model prog w) A (handleBy (.ref e) (envOf name scope L a cd) (.ExceptHandler (some (.Name x1 np1)) none (b₀ :: suite1) pos1 :: rest)) Q E s₃) E s₂) E s := by
  refine throw_looked hfr rfl R fun h₁ R₁ U₁ => ?_
  refine clause_yes R₁ ⟨U₁.ns F.ns, R₁.stays, F.above⟩ X T ex1 he1 (fun h₂ R₂ U₂ => ?_) hk hx1 hd1
  obtain ⟨vs, sl, G, hc, FG, NG, BG, UG⟩ := caught_ground2 B ab ((U₁.trans U₂).ns F.ns) rfl F.above (U.trans (U₁.trans U₂)) R₂ hg
  exact k vs sl G h₂ hc FG NG BG UG
end
end Mine
end

section
open PySem PySem.W PyProof.Rows
set_option Elab.async false
set_option linter.all false
set_option maxRecDepth 100000
set_option maxHeartbeats 0
set_option pp.maxSteps 20000
namespace Mine
/-- what the law's own frame has behind a call -/
theorem law_back {A₀ : Around} {base g G h' : Heap} {l : List Env} {L Ll : Addr} {m ml : Str → Option Value} {led : List (Addr × Obj)} (FG : Fr base Ll g ml) (U : g.UpToSlots G) (B : Below A₀ base l G) (F : Fr G L h' m) (N : News G L h' led) : Fr base Ll h' ml ∧ News base Ll h' led := by
  have ns := (U.trans (Heap.UpToSlots.of_keeps F.keep)).ns FG.ns
  refine ⟨⟨ns, fun b o e => F.keep b o (B.stays b o e), FG.above⟩, fun p hp => ⟨(N p hp).1, fun z => ?_, fresh_of_stays B.stays (N p hp).2.2⟩⟩
  obtain ⟨o, _, _, ho, _⟩ := U.ns FG.ns
  rw [← z, (N p hp).2.2] at ho; cases ho
theorem setRight20 : True := by
  w_top off
  k_with_none
  k_with "call ref" => ((k_here; k_dflt (first | show wpAny _ _ (call (Value.ref 258) [Value.ref _, Value.str _ _]) _ _ _ | show wpAny _ _ (call (Value.ref 222) [Value.ref _, Value.str _ _, Value.ref _]) _ _ _ | show wpAny _ _ (call (Value.ref 263) [Value.ref _, Value.ref _]) _ _ _); refine Stop.out ?_))
  k_with "compareOp Eq ref ref" => ((k_here; refine Stop.out ?_))
  trivial
theorem eq_lists_M {prog : Program} {w : World} {A : Around} {E : Value → Shared → Prop} {s : Shared} {a b : Addr} {vs us : List Value} {n1 n2 : Nat} {ws : List Str} {Q : Value → Shared → Prop} {h₀ : Heap} {L : Addr} {news : List (Addr × Obj)}
    (N : News h₀ L s.heap news) (ma : (a, W.listOf vs.toArray n1) ∈ news) (mb : (b, W.listOf us.toArray n2) ∈ news) (sa : StrsAre vs ws) (sb : StrsAre us ws) (hu : A.units + 0 + 1 < cLine) (h : Q (.bool true) s) : wpAny (model prog w) A (compareOp .Eq (.ref a) (.ref b)) Q E s :=
  eq_lists_same ⟨_, (N _ ma).1, rfl, _, rfl⟩ ⟨_, (N _ mb).1, rfl, _, rfl⟩ (strs_same sa sb) hu h
theorem right_any (w : World) (mean : ExcName → Option Value) (mg mb : Str → Option Value)
  (env1 : Env) (A₀ : Around) (base : Heap) (L : Addr) (m : Str → Option Value) (s : Shared) (Q E : Value → Shared → Prop)
  (dk st : Addr) (line : Str) (tt : Tok) (led : List (Addr × Obj)) (P1 : Value → List (Addr × Obj) → Prop) (P3 : List (Addr × Obj) → Prop)
  (hD : DueSpec w mean mg mb base env1 st line tt led P1)
  (hA : ∀ v led1, P1 v led1 → ∃ P2 PE, AnsAny w mean mg mb base env1 dk line tt led1 P2 PE ∧
    (∀ u led2, P2 u led2 → ∃ D n vs D' n' us ws, v = .ref D ∧ u = .ref D' ∧ (D, W.listOf vs.toArray n) ∈ led2 ∧ (D', W.listOf us.toArray n') ∈ led2 ∧ StrsAre vs ws ∧ StrsAre us ws ∧ AlikeSpec w mean mg mb base env1 dk st led2 ∧ P3 led2) ∧
    (∀ led2, PE led2 → v = .none ∧ AlikeSpec w mean mg mb base env1 dk st led2 ∧ P3 led2))
  (B : Below A₀ base [] base) (F : Fr base L s.heap m) (KX : (hd.heap_1 w.params).In base) (N : News base L s.heap led) (T : Top hd.view_39 LO mean mg mb base) (hk : env1.scope.kind = .function) (hf : env1.frame = some L)
  (hret : ∀ led2 h' tk', P3 led2 → Fr base L h' m → News base L h' led2 → Q (.bool true) { s with heap := h', toks := tk' }) :
  wpAny (model PySem.Challenge.rw_pb0238_01.row.prog w) (callerA.deeper env1) (call (.ref 270) [.ref dk, .ref st, .str line tt]) Q E s := by
  have KB := KX
  have TB := T
  have hLb : base.objs.size ≤ L := F.above
  revert KX; k_fill; intro KX
  refine wpAny_call ?_
  k_dflt (refine' code_defR ?k1 ?k2 ?k3 ?k4 ?k5 ?kA ?kF ?kK ?k6 ?k7 ?k8 ?k9 ?kB ?_ ?c2 ?c3 ?c4 ?c5; (case kA => exact rfl); (case kF => exact hf); (case kK => exact hk); (case k1 => exact B); (case k2 => k_asm); (case k3 => k_asm); (case k4 => k_asm); (case k5 => k_asm); (case k6 => k_is); (case k7 => k_is); (case k8 => k_room); (case k9 => exact BindsTo.of_eq rfl); (case c5 => decide); (case kB => exact locs rfl); (case c2 => exact rfl); (case c3 => exact rfl); (case c4 => exact rfl); k_whole; intro g' L' h' FG' F' N' B' X' T' l1; (try dsimp only); (try k_lift B'); (try k_fold))
  k_steps
  refine Stop.mk ?_
  refine' hD _ _ _ _ _ _ _ _ ?B ?F ?X ?N ?T ?hk ?hf ?_
  case B => k_asm
  case F => k_asm
  case X => k_asm
  case N => k_asm
  case T => k_asm
  case hk => rfl
  case hf => rfl
  intro v1 led1 h1 tk1 p1 F1 N1
  clear N'
  obtain ⟨P2, PE, hA1, hP2, hPE⟩ := hA _ _ p1
  k_steps
  refine Stop.mk ?_
  refine' hA1 _ _ _ _ _ _ _ _ ?B2 ?F2 ?X2 ?N2 ?T2 ?hk2 ?hf2 KB TB ?hL2 ?ret2 ?exc2
  case B2 => k_asm
  case F2 => k_asm
  case X2 => k_asm
  case N2 => k_asm
  case T2 => k_asm
  case hk2 => rfl
  case hf2 => rfl
  case hL2 => exact lt_of_fr FG' (by assumption : Fr g' L' _ _) hLb
  case ret2 =>
    intro v2 led2 G h2 tk2 p2 F2 N2 B2 U2
    have X2 := KB.keeps B2.stays
    have T2 := TB.keeps B2.stays
    obtain ⟨D, n, vs, D', n', us, ws, rfl, rfl, mD, mD', sD, sD', hL2, p3⟩ := hP2 _ _ p2
    k_steps
    refine Stop.mk ?_
    refine' eq_lists_M ?Nr mD' mD sD' sD ?ur ?_
    case Nr => k_asm
    case ur => k_units
    k_steps
    refine Stop.mk ?_
    refine' (show wpAny _ (((callerA.deeper env1).deeper _).mark none) _ _ _ _ from hL2 _ _ _ _ _ _ _ _ none [] (.inl rfl) ?Br ?Fr ?Xr ?Nr ?Tr ?hkr ?hfr ?_)
    case Br => k_asm
    case Fr => k_asm
    case Xr => k_asm
    case Nr => k_asm
    case Tr => k_asm
    case hkr => rfl
    case hfr => rfl
    intro h4 tk4 F4 N4
    k_steps
    obtain ⟨F5, N5⟩ := law_back FG' U2 B2 F4 N4
    exact hret _ _ _ p3 F5 N5
  case exc2 =>
    intro e d a0 led2 h2 tk2 p2 hg2 R2 F2 U2
    obtain ⟨rfl, hL2, p3⟩ := hPE _ p2
    have ab := (by assumption : Fr g' L' _ _).above
    k_steps
    (refine' catch_yes2 rfl B' ab F2 U2 R2 hg2 KB (topRead_of TB) ?x1e ?y1e ?ke; (case x1e => k_is); (case y1e => kts_exm))
    intro vs sl G h3 hc F3 N3 B3 U3
    have X3 := KB.keeps B3.stays
    have T3 := TB.keeps B3.stays
    k_steps
    refine Stop.mk ?_
    refine' hL2 _ _ _ _ _ _ _ _ (some (.ref e)) [(e, ⟨.ref 84, d, .fields vs, sl⟩)] (.inr ⟨e, d, vs, sl, rfl, .head _, hc⟩) ?Be ?Fe ?Xe ?Ne ?Te ?hke ?hfe ?_
    case Be => k_asm
    case Fe => k_asm
    case Xe => k_asm
    case Ne => k_asm
    case Te => k_asm
    case hke => rfl
    case hfe => rfl
    intro h4 tk4 F4 N4
    k_steps
    obtain ⟨F5, N5⟩ := law_back FG' U3 B3 F4 N4
    exact hret _ _ _ p3 F5 N5
end Mine
end

section
open PySem PySem.W PyProof.Rows
set_option Elab.async false
set_option linter.all false
set_option maxRecDepth 100000
set_option maxHeartbeats 2000000
namespace Mine
theorem setForR0 : True := by
  w_top off
  k_with_none
  trivial
open PySem.Calls LCg
section
variable {prog : Program} {w : World} {A : Around} {E : Value → Shared → Prop} {s : Shared} {env : Env} {h₀ : Heap} {x : Str} {body : List Stmt} {Q : Flow → Shared → Prop}
/-- a loop over a range, by what holds between its turns -/
theorem for_range {r : Addr} {a b : Int} {t u v : Tok} {n : Nat} {m₀ : Str → Option Value} {news : List (Addr × Obj)} (J : Nat → (Str → Option Value) → List (Addr × Obj) → Prop)
    (hh : A.handled = none) (hr : IsRange s.heap r a b 1 t u v) (hsm : Builtin.Range.small a b 1 = true) (hn : Builtin.Range.rangeSize a b 1 = ((n : Nat) : Int)) (F : Fr h₀ env.locals s.heap m₀) (N : News h₀ env.locals s.heap news) (hj : J 0 m₀ news)
    (turn : ∀ i tv m₁ news₁ I oI h tk, i < n → J i m₁ news₁ → (∀ p ∈ news₁, p.1 ≠ I) → Fr h₀ env.locals h (fun y => if y = x then some (.int (a + (i : Int)) tv) else m₁ y) → News h₀ env.locals h ((I, oI) :: news₁) →
      wpAny (model prog w) A (execs body env) (ForEnd h₀ env.locals (J (i + 1)) [] I oI { s with heap := h, toks := tk } Q) E { s with heap := h, toks := tk })
    (done : ∀ m₁ news₁ h tk, J n m₁ news₁ → Fr h₀ env.locals h m₁ → News h₀ env.locals h news₁ → Q .next { s with heap := h, toks := tk }) :
    wpAny (model prog w) A (pyIter (.ref r)) (fun it s₂ => LoopAtV prog w A h₀ env x body Q E it s₂) E s := by
  refine wpAny_pyIter_range hr hsm ?_
  have WW := range_walks (prog := prog) (w := w) (I := s.heap.objs.size) hh a n
  refine ⟨s.heap.objs.size, _, _, n, _, _, m₀, news, J, rfl, WW, ?_, ?_, ?_, (by show IsRangeIter _ _ _ _ _; rw [hn]; simpa using Heap.get?_push_size _ rfl), F.push _, (fun p hp => ⟨Heap.get?_push_of_some _ (N p hp).1, (N p hp).2⟩), hj, ?_, ?_⟩
  · intro hmL
    exact absurd F.ns.lt ((List.mem_singleton.mp hmL) ▸ Nat.lt_irrefl _)
  · intro b hb
    rw [List.mem_singleton.mp hb]
    exact next_is_new F
  · intro p hp hI
    exact absurd (Heap.lt_size (N p hp).1) ((List.mem_singleton.mp hI) ▸ Nat.lt_irrefl _)
  · rintro i vv m₁ news₁ s₁ own ⟨hh', tk', rfl⟩ hin hP hJ hoff hown howe hall hst F₁ N₁
    obtain ⟨tv, rfl⟩ := hP
    obtain ⟨oI, heI⟩ : ∃ oI, hh'.get? s.heap.objs.size = some oI := ⟨_, hst⟩
    have offI : ∀ p ∈ news₁, p.1 ≠ s.heap.objs.size := fun p hp q => hoff p hp (List.mem_singleton.mpr q)
    have hI₀ : h₀.get? s.heap.objs.size = none := next_is_new F
    refine wpAny_mono (turn i tv m₁ news₁ s.heap.objs.size oI hh' tk' hin hJ offI F₁ (fun p hp => ?_)) (fun f s₂ p => ?_) fun _ _ e => e
    · rcases List.mem_cons.mp hp with rfl | hp
      · exact ⟨heI, Nat.ne_of_gt F.ns.lt, hI₀⟩
      · exact N₁ p (List.mem_append_right _ hp)
    have fin : ForEnd h₀ env.locals (J (i + 1)) [] s.heap.objs.size oI { s with heap := hh', toks := tk' } Q .next s₂ → LoopStepU h₀ env.locals [s.heap.objs.size] own (J (i + 1)) { s with heap := hh', toks := tk' } .next s₂ := by
      rintro ⟨h', tk, m', news', rfl, F', N', off', _, hj'⟩
      refine ⟨rfl, h', tk, m', news', rfl, F', fun q hq => ?_, fun q hq z => off' q hq (List.mem_singleton.mp z), hj'⟩
      rcases List.mem_append.mp hq with hq | hq
      · have z := howe q hq
        have e := List.mem_singleton.mp (hown q hq)
        obtain ⟨aa, o⟩ := q
        have e' : aa = s.heap.objs.size := e
        subst e'
        have z' : hh'.get? s.heap.objs.size = some o := z
        rw [heI] at z'; cases z'
        exact N' _ (.head _)
      · exact N' q (.tail _ hq)
    cases f with
    | ret v => exact .ret p
    | brk => exact .brk p
    | next => exact .next (fin p)
    | cont => exact .cont (fin p)
  · rintro h' tk m' news' F' N' _ hJ
    exact done m' news' h' tk hJ F' N'
end
end Mine
end

section
open PySem PySem.W PyProof.Rows
set_option Elab.async false
set_option linter.all false
set_option maxRecDepth 100000
set_option maxHeartbeats 0
namespace Mine
theorem setGlue10 : True := by
  w_top off
  k_with_none
  trivial
/-- a dict's put -/
noncomputable def put {α : Type} (l : List (Str × α)) (k : Str) (v : α) : List (Str × α) := if l.any (fun p => p.1 = k) then l.map (fun p => if p.1 = k then (p.1, v) else p) else l ++ [(k, v)]
/-- a dict's entries, related to plain ones -/
inductive Ents {α : Type} (R : Value → α → Prop) : List (Str × Value) → List (Str × α) → Prop
  | nil : Ents R [] []
  | cons {k : Str} {v : Value} {a : α} {kvs : List (Str × Value)} {l : List (Str × α)} : R v a → Ents R kvs l → Ents R ((k, v) :: kvs) ((k, a) :: l)
section
variable {α : Type} {R R' : Value → α → Prop} {kvs : List (Str × Value)} {l : List (Str × α)}
theorem Ents.len (h : Ents R kvs l) : kvs.length = l.length := by
  induction h with
  | nil => rfl
  | cons _ _ ih => simp [ih]
theorem Ents.mono (x : ∀ v a, R v a → R' v a) (h : Ents R kvs l) : Ents R' kvs l := by
  induction h with
  | nil => exact .nil
  | cons a _ ih => exact .cons (x _ _ a) ih
theorem Ents.any (h : Ents R kvs l) (k : Str) : kvs.any (fun p => p.1 = k) = l.any (fun p => p.1 = k) := by
  induction h with
  | nil => rfl
  | cons _ _ ih => simp only [List.any_cons, ih]
theorem Ents.mapAt (h : Ents R kvs l) {k : Str} {v : Value} {a : α} (r : R v a) : Ents R (kvs.map fun p => if p.1 = k then (p.1, v) else p) (l.map fun p => if p.1 = k then (p.1, a) else p) := by
  induction h with
  | nil => exact .nil
  | @cons k' _ _ _ _ x _ ih =>
    simp only [List.map_cons]
    by_cases e : k' = k
    · rw [if_pos e, if_pos e]; exact .cons r ih
    · rw [if_neg e, if_neg e]; exact .cons x ih
theorem Ents.snoc (h : Ents R kvs l) {k : Str} {v : Value} {a : α} (r : R v a) : Ents R (kvs ++ [(k, v)]) (l ++ [(k, a)]) := by
  induction h with
  | nil => exact .cons r .nil
  | cons x _ ih => exact .cons x ih
theorem Ents.put (h : Ents R kvs l) {k : Str} {v : Value} {a : α} (r : R v a) : Ents R (stored kvs k v) (Mine.put l k a) := by
  show Ents R (if kvs.any (fun p => p.1 = k) = true then _ else _) (if l.any (fun p => p.1 = k) = true then _ else _)
  rw [h.any k]
  split
  · exact h.mapAt r
  · exact h.snoc r
end
/-- what lies on a desk -/
structure DS where
  src : Str
  lib : List (Str × Str)
  rows : List Str
  files : List (Str × List Str)
  g1 : Str
  g2 : Str
  lines : List Str
noncomputable abbrev e0 : Str := Str.ofString ""
noncomputable abbrev joinL (l : List Str) : Str := Txt.join (Str.ofString "\n") l
noncomputable abbrev upS (x : Str) : Str := ⟨placed x fun _ c => Unicode.upperOf c⟩
open Classical in
/-- one line at the desk: what lies on it then, and the answer (none: a fault) -/
noncomputable def step (σ : DS) (ws : List Str) (line : Str) : DS × Option (List Str) :=
  if σ.g1 ≠ e0 then
    if ws = [Str.ofString "done"] then
      if σ.g1 = Str.ofString "source" then (⟨joinL σ.lines, σ.lib, σ.rows, σ.files, e0, e0, []⟩, some [])
      else if σ.g1 = Str.ofString "library" then (⟨σ.src, put σ.lib (upS σ.g2) (joinL σ.lines), σ.rows, σ.files, e0, e0, []⟩, some [])
      else if ∀ y ∈ σ.lines, Clear y then
        if σ.g1 = Str.ofString "rows" then (⟨σ.src, σ.lib, σ.lines, σ.files, e0, e0, []⟩, some [])
        else (⟨σ.src, σ.lib, σ.rows, put σ.files σ.g2 σ.lines, e0, e0, []⟩, some [])
      else (⟨σ.src, σ.lib, σ.rows, σ.files, e0, e0, []⟩, none)
    else (⟨σ.src, σ.lib, σ.rows, σ.files, σ.g1, σ.g2, σ.lines ++ [line]⟩, some [])
  else match ws with
    | [] => (σ, some [])
    | w0 :: wr => match openOf (w0 :: wr) with
      | some (some y) => (⟨σ.src, σ.lib, σ.rows, σ.files, w0, y, []⟩, some [])
      | some none => (σ, none)
      | none => if w0 = Str.ofString "good" then (σ, some (Str.ofString "so" :: wr)) else if w0 = Str.ofString "odd" then (σ, some [Str.ofString "3 9: bad"]) else if w0 = Str.ofString "late" then (σ, some [Str.ofString "bad"]) else (σ, none)
section
variable {σ : DS} {ws : List Str} {line : Str}
theorem step_app (h1 : σ.g1 ≠ e0) (h2 : ws ≠ [Str.ofString "done"]) : step σ ws line = (⟨σ.src, σ.lib, σ.rows, σ.files, σ.g1, σ.g2, σ.lines ++ [line]⟩, some []) := by
  unfold step; rw [if_pos h1, if_neg h2]
theorem step_source (h1 : σ.g1 ≠ e0) (h2 : ws = [Str.ofString "done"]) (h3 : σ.g1 = Str.ofString "source") : step σ ws line = (⟨joinL σ.lines, σ.lib, σ.rows, σ.files, e0, e0, []⟩, some []) := by
  unfold step; rw [if_pos h1, if_pos h2, if_pos h3]
theorem source_library : Str.ofString "library" ≠ Str.ofString "source" := by decide +kernel
theorem rows_source : Str.ofString "rows" ≠ Str.ofString "source" := by decide +kernel
theorem rows_library : Str.ofString "rows" ≠ Str.ofString "library" := by decide +kernel
theorem step_library (h1 : σ.g1 ≠ e0) (h2 : ws = [Str.ofString "done"]) (h3 : σ.g1 = Str.ofString "library") : step σ ws line = (⟨σ.src, put σ.lib (upS σ.g2) (joinL σ.lines), σ.rows, σ.files, e0, e0, []⟩, some []) := by
  unfold step; rw [if_pos h1, if_pos h2, if_neg (h3 ▸ source_library), if_pos h3]
theorem step_bad (h1 : σ.g1 ≠ e0) (h2 : ws = [Str.ofString "done"]) (h3 : σ.g1 ≠ Str.ofString "source") (h4 : σ.g1 ≠ Str.ofString "library") (h5 : ¬ ∀ y ∈ σ.lines, Clear y) : step σ ws line = (⟨σ.src, σ.lib, σ.rows, σ.files, e0, e0, []⟩, none) := by
  unfold step; rw [if_pos h1, if_pos h2, if_neg h3, if_neg h4, if_neg h5]
theorem step_rows (h1 : σ.g1 ≠ e0) (h2 : ws = [Str.ofString "done"]) (h3 : σ.g1 = Str.ofString "rows") (h5 : ∀ y ∈ σ.lines, Clear y) : step σ ws line = (⟨σ.src, σ.lib, σ.lines, σ.files, e0, e0, []⟩, some []) := by
  unfold step; rw [if_pos h1, if_pos h2, if_neg (h3 ▸ rows_source), if_neg (h3 ▸ rows_library), if_pos h5, if_pos h3]
theorem step_file (h1 : σ.g1 ≠ e0) (h2 : ws = [Str.ofString "done"]) (h3 : σ.g1 ≠ Str.ofString "source") (h4 : σ.g1 ≠ Str.ofString "library") (h6 : σ.g1 ≠ Str.ofString "rows") (h5 : ∀ y ∈ σ.lines, Clear y) : step σ ws line = (⟨σ.src, σ.lib, σ.rows, put σ.files σ.g2 σ.lines, e0, e0, []⟩, some []) := by
  unfold step; rw [if_pos h1, if_pos h2, if_neg h3, if_neg h4, if_pos h5, if_neg h6]
theorem step_blank (h1 : σ.g1 = e0) (h2 : ws = []) : step σ ws line = (σ, some []) := by
  subst h2; unfold step; rw [if_neg (fun h => h h1)]
theorem step_open {w0 y : Str} {r : List Str} (h1 : σ.g1 = e0) (h2 : ws = w0 :: r) (h3 : openOf ws = some (some y)) : step σ ws line = (⟨σ.src, σ.lib, σ.rows, σ.files, w0, y, []⟩, some []) := by
  subst h2; unfold step; rw [if_neg (fun h => h h1)]; dsimp only; rw [h3]
theorem step_openBad (h1 : σ.g1 = e0) (h3 : openOf ws = some none) : step σ ws line = (σ, none) := by
  cases ws with
  | nil => cases h3
  | cons w0 r => unfold step; rw [if_neg (fun h => h h1)]; dsimp only; rw [h3]
theorem good_no : ∀ wr : List Str, openOf (Str.ofString "good" :: wr) = none := fun wr => openOf_no (by decide +kernel)
theorem odd_no : ∀ wr : List Str, openOf (Str.ofString "odd" :: wr) = none := fun wr => openOf_no (by decide +kernel)
theorem late_no : ∀ wr : List Str, openOf (Str.ofString "late" :: wr) = none := fun wr => openOf_no (by decide +kernel)
theorem step_good {wr : List Str} (h1 : σ.g1 = e0) (h2 : ws = Str.ofString "good" :: wr) : step σ ws line = (σ, some (Str.ofString "so" :: wr)) := by
  subst h2; unfold step; rw [if_neg (fun h => h h1)]; dsimp only; rw [good_no]; dsimp only; rw [if_pos rfl]
theorem step_odd {wr : List Str} (h1 : σ.g1 = e0) (h2 : ws = Str.ofString "odd" :: wr) : step σ ws line = (σ, some [Str.ofString "3 9: bad"]) := by
  subst h2; unfold step; rw [if_neg (fun h => h h1)]; dsimp only; rw [odd_no]; dsimp only; rw [if_neg (by decide +kernel), if_pos rfl]
theorem step_late {wr : List Str} (h1 : σ.g1 = e0) (h2 : ws = Str.ofString "late" :: wr) : step σ ws line = (σ, some [Str.ofString "bad"]) := by
  subst h2; unfold step; rw [if_neg (fun h => h h1)]; dsimp only; rw [late_no]; dsimp only; rw [if_neg (by decide +kernel), if_neg (by decide +kernel), if_pos rfl]
theorem step_other {w0 : Str} {wr : List Str} (h1 : σ.g1 = e0) (h2 : ws = w0 :: wr) (h3 : openOf ws = none) (a : w0 ≠ Str.ofString "good") (b : w0 ≠ Str.ofString "odd") (c : w0 ≠ Str.ofString "late") : step σ ws line = (σ, none) := by
  subst h2; unfold step; rw [if_neg (fun h => h h1)]; dsimp only; rw [h3]; dsimp only; rw [if_neg a, if_neg b, if_neg c]
end
/-! what a relation's entries say of `==` -/
def RLib (v : Value) (x : Str) : Prop := ∃ t, v = .str x t
theorem lib_same {h : Heap} {kl kl' : List (Str × Value)} {lib : List (Str × Str)} (a : Ents RLib kl lib) (b : Ents RLib kl' lib) : SameD h 0 kl kl' := by
  induction a generalizing kl' with
  | nil => cases b; exact .nil
  | cons x _ ih =>
    cases b with
    | cons y b =>
      obtain ⟨t, rfl⟩ := x
      obtain ⟨u, rfl⟩ := y
      exact .cons same_str (ih b)
/-- a file of the desk, a file of the law -/
def RDesk (fix : List (Addr × Obj)) (v : Value) (ls : List Str) : Prop := ∃ (t c : Addr) (u : Tok) (n1 n2 : Nat) (rs : List Value), v = .ref t ∧ (t, tupOf #[.str (Str.ofString "sequential") u, .ref c] n1) ∈ fix ∧ (c, W.listOf rs.toArray n2) ∈ fix ∧ RowsAre rs ls ∧ ls.length ≤ 900
def RStat (fix : List (Addr × Obj)) (v : Value) (ls : List Str) : Prop := ∃ (t : Addr) (n : Nat) (rs : List Value), v = .ref t ∧ (t, tupOf rs.toArray n) ∈ fix ∧ RowsAre rs ls
theorem RDesk.mono {fix fix' : List (Addr × Obj)} (h : ∀ p ∈ fix, p ∈ fix') (v : Value) (ls : List Str) (x : RDesk fix v ls) : RDesk fix' v ls := by
  obtain ⟨t, c, u, n1, n2, rs, a, b, d, e⟩ := x
  exact ⟨t, c, u, n1, n2, rs, a, h _ b, h _ d, e⟩
theorem RStat.mono {fix fix' : List (Addr × Obj)} (h : ∀ p ∈ fix, p ∈ fix') (v : Value) (ls : List Str) (x : RStat fix v ls) : RStat fix' v ls := by
  obtain ⟨t, n, rs, a, b, e⟩ := x
  exact ⟨t, n, rs, a, h _ b, e⟩
/-- the files' names, as they may lie -/
def Shaped (fs : List (Str × List Str)) : Prop := fs = [] ∨ (∃ a, fs = [(Str.ofString "p", a)]) ∨ ∃ a b, fs = [(Str.ofString "p", a), (Str.ofString "a/b", b)]
theorem p_ab : Str.ofString "p" ≠ Str.ofString "a/b" := by decide +kernel
theorem ab_p : Str.ofString "a/b" ≠ Str.ofString "p" := by decide +kernel
theorem Shaped.put_p {fs : List (Str × List Str)} (h : Shaped fs) (a : List Str) : Shaped (put fs (Str.ofString "p") a) ∧ put fs (Str.ofString "p") a ≠ [] := by
  rcases h with rfl | ⟨x, rfl⟩ | ⟨x, y, rfl⟩
  · exact ⟨.inr (.inl ⟨a, rfl⟩), by simp [put]⟩
  · refine ⟨.inr (.inl ⟨a, ?_⟩), ?_⟩ <;> simp [put]
  · refine ⟨.inr (.inr ⟨a, y, ?_⟩), ?_⟩ <;> simp [put, ab_p]
theorem Shaped.put_ab {fs : List (Str × List Str)} (h : Shaped fs) (hn : fs ≠ []) (a : List Str) : Shaped (put fs (Str.ofString "a/b") a) ∧ put fs (Str.ofString "a/b") a ≠ [] := by
  rcases h with rfl | ⟨x, rfl⟩ | ⟨x, y, rfl⟩
  · exact absurd rfl hn
  · refine ⟨.inr (.inr ⟨x, a, ?_⟩), ?_⟩ <;> simp [put, p_ab]
  · refine ⟨.inr (.inr ⟨x, a, ?_⟩), ?_⟩ <;> simp [put, p_ab]
end Mine
end

section
open PySem PySem.W PyProof.Rows
set_option Elab.async false
set_option linter.all false
set_option maxRecDepth 100000
set_option maxHeartbeats 0
namespace Mine
theorem setGlue20 : True := by
  w_top off
  k_with_none
  trivial
/-- the addresses that stay -/
structure CA where
  dk : Addr
  dd : Addr
  al : Addr
  af : Addr
  st : Addr
  sl : Addr
  sf : Addr
/-- apart from what is written upon -/
structure Off (c : CA) (x : Addr) : Prop where
  dd : @Ne Nat x c.dd
  al : @Ne Nat x c.al
  af : @Ne Nat x c.af
  st : @Ne Nat x c.st
  sl : @Ne Nat x c.sl
  sf : @Ne Nat x c.sf
structure Core (c : CA) : Prop where
  a1 : @Ne Nat c.dd c.al
  a2 : @Ne Nat c.dd c.af
  a3 : @Ne Nat c.al c.af
  b1 : @Ne Nat c.st c.sl
  b2 : @Ne Nat c.st c.sf
  b3 : @Ne Nat c.sl c.sf
  d1 : @Ne Nat c.dd c.st
  d2 : @Ne Nat c.dd c.sl
  d3 : @Ne Nat c.dd c.sf
  e1 : @Ne Nat c.al c.st
  e2 : @Ne Nat c.al c.sl
  e3 : @Ne Nat c.al c.sf
  f1 : @Ne Nat c.af c.st
  f2 : @Ne Nat c.af c.sl
  f3 : @Ne Nat c.af c.sf
  loal : (c.al == sysModules) = false
  loaf : (c.af == sysModules) = false
  lost : (c.st == sysModules) = false
  losl : (c.sl == sysModules) = false
  losf : (c.sf == sysModules) = false
/-- the desk's own objects -/
inductive DeskIs (w : World) (c : CA) (σ : DS) (fix : List (Addr × Obj)) (oD ol of oL : Obj) (ali : Addr) : Prop
  | mk (t1 t2 t3 t4 t5 t6 t7 tsrc tg1 tg2 : Tok) (ash ds ar ag : Addr) (kl kf : List (Str × Value)) (vs rs : List Value) (nr ng nl nd : Nat)
    (p1 : oD = dictOf [ent w.params "source" t1 (.str σ.src tsrc), ent w.params "library" t2 (.ref c.al), ent w.params "shelf" t3 (.ref ash), ent w.params "rows" t4 (.ref ar), ent w.params "gathering" t5 (.ref ag), ent w.params "lines" t6 (.ref ali)] 6) (p2 : oL = W.listOf vs.toArray nl)
    (p3 : ol.IsDictOf (SK w) kl) (p4 : Ents RLib kl σ.lib) (p5 : of.IsDictOf (SK w) kf) (p6 : Ents (RDesk fix) kf σ.files) (p7 : StrsAre vs σ.lines) (p8 : RowsAre rs σ.rows)
    (p9 : (c.dk, instObj 182 c.dd) ∈ fix) (q1 : (ash, instObj 161 ds) ∈ fix) (q2 : (ds, dictOf [ent w.params "files" t7 (.ref c.af)] nd) ∈ fix) (q3 : (ar, W.listOf rs.toArray nr) ∈ fix) (q4 : (ag, tupOf #[.str σ.g1 tg1, .str σ.g2 tg2] ng) ∈ fix)
/-- the law's own objects -/
inductive StatIs (w : World) (c : CA) (σ : DS) (fix : List (Addr × Obj)) (ost osl osf oM : Obj) (sli : Addr) : Prop
  | mk (tsrc tg1 tg2 : Tok) (sr sg : Addr) (kl kf : List (Str × Value)) (vs rs : List Value) (nr ng nl : Nat)
    (p1 : ost.IsDictOf (SK w) [(Str.ofString "source", .str σ.src tsrc), (Str.ofString "library", .ref c.sl), (Str.ofString "rows", .ref sr), (Str.ofString "files", .ref c.sf), (Str.ofString "gathering", .ref sg), (Str.ofString "lines", .ref sli)]) (p2 : oM = W.listOf vs.toArray nl)
    (p3 : osl.IsDictOf (SK w) kl) (p4 : Ents RLib kl σ.lib) (p5 : osf.IsDictOf (SK w) kf) (p6 : Ents (RStat fix) kf σ.files) (p7 : StrsAre vs σ.lines) (p8 : RowsAre rs σ.rows)
    (q3 : (sr, W.listOf rs.toArray nr) ∈ fix) (q4 : (sg, tupOf #[.str σ.g1 tg1, .str σ.g2 tg2] ng) ∈ fix)
theorem DeskIs.mono {w : World} {c : CA} {σ : DS} {fix fix' : List (Addr × Obj)} {oD ol of oL : Obj} {ali : Addr} (h : ∀ p ∈ fix, p ∈ fix') (x : DeskIs w c σ fix oD ol of oL ali) : DeskIs w c σ fix' oD ol of oL ali := by
  obtain ⟨t1, t2, t3, t4, t5, t6, t7, tsrc, tg1, tg2, ash, ds, ar, ag, kl, kf, vs, rs, nr, ng, nl, nd, a, b, d, e, f, g, i, j, k, l, m, n, o⟩ := x
  exact ⟨t1, t2, t3, t4, t5, t6, t7, tsrc, tg1, tg2, ash, ds, ar, ag, kl, kf, vs, rs, nr, ng, nl, nd, a, b, d, e, f, g.mono (RDesk.mono h), i, j, h _ k, h _ l, h _ m, h _ n, h _ o⟩
theorem StatIs.mono {w : World} {c : CA} {σ : DS} {fix fix' : List (Addr × Obj)} {ost osl osf oM : Obj} {sli : Addr} (h : ∀ p ∈ fix, p ∈ fix') (x : StatIs w c σ fix ost osl osf oM sli) : StatIs w c σ fix' ost osl osf oM sli := by
  obtain ⟨tsrc, tg1, tg2, sr, sg, kl, kf, vs, rs, nr, ng, nl, a, b, d, e, f, g, i, j, k, l⟩ := x
  exact ⟨tsrc, tg1, tg2, sr, sg, kl, kf, vs, rs, nr, ng, nl, a, b, d, e, f, g.mono (RStat.mono h), i, j, h _ k, h _ l⟩
inductive Objs (w : World) (c : CA) (σ τ : DS) (ali sli : Addr) (fix kp led : List (Addr × Obj)) : Prop
  | mk (oD ol of oL ost osl osf oM : Obj) (hD : DeskIs w c σ fix oD ol of oL ali) (hS : StatIs w c τ fix ost osl osf oM sli)
    (hs : ∀ p ∈ (c.dd, oD) :: (c.al, ol) :: (c.af, of) :: (ali, oL) :: (c.st, ost) :: (c.sl, osl) :: (c.sf, osf) :: (sli, oM) :: (fix ++ kp), p ∈ led)
/-- both sides on a ledger -/
structure Lay (w : World) (c : CA) (σ τ : DS) (ali sli : Addr) (fix kp led : List (Addr × Obj)) : Prop where
  offA : Off c ali
  offS : Off c sli
  ne : @Ne Nat ali sli
  fx : ∀ p ∈ fix ++ kp, Off c p.1 ∧ (@Ne Nat p.1 ali) ∧ (@Ne Nat p.1 sli)
  ap : ∀ p ∈ fix, ∀ k ∈ kp, p.1 ≠ k.1
  obj : Objs w c σ τ ali sli fix kp led
theorem offs {c : CA} {ali sli D : Addr} {led fix : List (Addr × Obj)} (h : ∀ p ∈ led, p.1 ≠ D) {oD ol of oL ost osl osf oM : Obj} (m : ∀ p ∈ (c.dd, oD) :: (c.al, ol) :: (c.af, of) :: (ali, oL) :: (c.st, ost) :: (c.sl, osl) :: (c.sf, osf) :: (sli, oM) :: fix, p ∈ led) :
    Off c D ∧ (@Ne Nat D ali) ∧ (@Ne Nat D sli) := by
  have g := fun p hp => (h p (m p hp)).symm
  exact ⟨⟨g (_, _) (.head _), g (_, _) (.tail _ (.head _)), g (_, _) (.tail _ (.tail _ (.head _))), g (_, _) (.tail _ (.tail _ (.tail _ (.tail _ (.head _))))), g (_, _) (.tail _ (.tail _ (.tail _ (.tail _ (.tail _ (.head _)))))), g (_, _) (.tail _ (.tail _ (.tail _ (.tail _ (.tail _ (.tail _ (.head _))))))) ⟩,
    g (_, _) (.tail _ (.tail _ (.tail _ (.head _)))), g (_, _) (.tail _ (.tail _ (.tail _ (.tail _ (.tail _ (.tail _ (.tail _ (.head _)))))))) ⟩
/-- a line that both sides know how to read -/
structure LineOk (x : Str) (ws : List Str) : Prop where
  words : wordsOf x = ws
  len : x.length ≤ 100
  parts : (Txt.split x (Str.ofString " ")).length ≤ 1000
  good : ∀ wr, ws = Str.ofString "good" :: wr → wr.length = 1 ∨ wr.length = 2
  head : ∀ w0 wr, ws = w0 :: wr → w0.length ≤ 100 ∧ ((Builtin.Str.occurrences (Str.ofString " source library rows file ") (Str.ofString " " ++ w0 ++ Str.ofString " ") 0 (Str.ofString " source library rows file ").length 1).isEmpty = true ↔ openOf (w0 :: wr) = none)
/-- what a state may be -/
structure Ok (σ : DS) : Prop where
  lines : σ.lines.length ≤ 60
  lib : σ.lib.length ≤ 90
  long : ∀ y ∈ σ.lines, y.length ≤ 100
  shaped : Shaped σ.files
  g2 : σ.g2.length ≤ 100
  idle : σ.g1 = e0 → σ.g2 = e0 ∧ σ.lines = []
theorem Ok.weight {σ : DS} (h : Ok σ) : (σ.lines.map (·.length)).sum + σ.lines.length ≤ 1048576 := by
  have key : ∀ l : List Str, (∀ y ∈ l, y.length ≤ 100) → (l.map (·.length)).sum ≤ 100 * l.length := by
    intro l
    induction l with
    | nil => intro _; exact Nat.le_refl _
    | cons y r ih =>
      intro hl
      have h1 := hl y (.head _)
      have h2 := ih fun z hz => hl z (.tail _ hz)
      simp only [List.map_cons, List.sum_cons, List.length_cons]
      omega
  have := key _ h.long
  have := h.lines
  omega
theorem Ok.files {σ : DS} (h : Ok σ) : σ.files.length ≤ 2 := by
  rcases h.shaped with e | ⟨a, e⟩ | ⟨a, b, e⟩ <;> simp [e]
/-- the answer's value -/
def DueVal (v : Value) (led : List (Addr × Obj)) : Option (List Str) → Prop
  | some ws => ∃ D n vs, v = .ref D ∧ (D, W.listOf vs.toArray n) ∈ led ∧ StrsAre vs ws
  | none => v = .none
section
variable {w : World} {mean : ExcName → Option Value} {mg mb : Str → Option Value} {base : Heap} {env1 : Env}
theorem DueSpec.sub {st : Addr} {line : Str} {tt : Tok} {led led' : List (Addr × Obj)} {P P' : Value → List (Addr × Obj) → Prop} (h : ∀ p ∈ led, p ∈ led') (hP : ∀ v l, P v l → P' v l) (x : DueSpec w mean mg mb base env1 st line tt led P) : DueSpec w mean mg mb base env1 st line tt led' P' :=
  fun env2 A₀ h₀ L m s Q E B F K N T hk hf hret => x env2 A₀ h₀ L m s Q E B F K (fun p hp => N p (h p hp)) T hk hf fun v l h' tk' p => hret v l h' tk' (hP v l p)
theorem LaidSpec.sub {st : Addr} {led led' : List (Addr × Obj)} {P : Bool → List (Addr × Obj) → Prop} (h : ∀ p ∈ led, p ∈ led') (x : LaidSpec w mean mg mb base env1 st led P) : LaidSpec w mean mg mb base env1 st led' P :=
  fun env2 env3 A₀ h₀ L m s Q E B F K N T hk hf hret => x env2 env3 A₀ h₀ L m s Q E B F K (fun p hp => N p (h p hp)) T hk hf hret
theorem EndSpec.sub {dk : Addr} {led led' : List (Addr × Obj)} {P PE : List (Addr × Obj) → Prop} (h : ∀ p ∈ led, p ∈ led') (x : EndSpec w mean mg mb base env1 dk led P PE) : EndSpec w mean mg mb base env1 dk led' P PE :=
  fun env2 env3 A₀ h₀ L m s Q E B F K N T hk hf KB TB hL hret hraise => x env2 env3 A₀ h₀ L m s Q E B F K (fun p hp => N p (h p hp)) T hk hf KB TB hL hret hraise
theorem AnsAny.sub {dk : Addr} {line : Str} {tt : Tok} {led led' : List (Addr × Obj)} {P : Value → List (Addr × Obj) → Prop} {PE : List (Addr × Obj) → Prop} (h : ∀ p ∈ led, p ∈ led') (x : AnsAny w mean mg mb base env1 dk line tt led P PE) : AnsAny w mean mg mb base env1 dk line tt led' P PE :=
  fun env2 A₀ h₀ L m s Q E B F K N T hk hf KB TB hL hret hraise => x env2 A₀ h₀ L m s Q E B F K (fun p hp => N p (h p hp)) T hk hf KB TB hL hret hraise
end
end Mine
end

section
open PySem PySem.W PyProof.Rows
set_option Elab.async false
set_option linter.all false
set_option maxRecDepth 100000
set_option maxHeartbeats 0
namespace Mine
theorem setGlue30 : True := by
  w_top off
  k_with_none
  k_with "rest1" => (refine' rest_ne1 ?zh ?zs; (case zh => with_reducible assumption); (case zs => k_extra "sub"))
  k_with "rest2" => (rename (∀ p ∈ (_ : List (Addr × Obj)), p.1 < _) => zzR; first | (refine' rest_ne2 zzR ?zs ?zl; (case zs => k_extra "sub"); (case zl => first | exact Nat.le_refl _ | exact Nat.le_succ _ | ((try dsimp only); omega))) | (clear zzR; k_extra "rest2"))
  k_with "rest" => (first | assumption | k_extra "rest1" | k_extra "rest2")
  k_with "sub" => (first | exact List.forall_mem_nil _ | (refine List.forall_mem_cons.mpr ⟨by k_mem, ?_⟩; k_extra "sub") | (intro p hp; (repeat (first | exact hp | refine List.Mem.tail _ ?_)); done))
  k_with "sub" => (intro p hp; (repeat (first | with_reducible exact hp | refine List.Mem.tail _ ?_)); done)
  k_with "nl" => (first | exact Nat.ne_of_lt zz1.1 | exact Nat.ne_of_gt zz1.1 | (replace zz1 := zz1.2; k_extra "nl"))
  k_with "ne" => (refine neN ?_; (try dsimp only); (repeat (rename (@Ne Nat _ _) => zz; clear zz)); omega)
  k_with "ne" => (refine neN ?_; (try dsimp only); (rename (@LT.lt Nat _ _ _ ∧ _) => zz1); first | k_extra "nl" | (clear zz1; (rename (@LT.lt Nat _ _ _ ∧ _) => zz1); first | k_extra "nl" | (clear zz1; (rename (@LT.lt Nat _ _ _ ∧ _) => zz1); k_extra "nl")))
  k_with "ne" => (refine neN ?_; (try dsimp only); first | assumption | (refine Ne.symm ?_; assumption))
  k_with "all" => (first | assumption | k_extra "rest")
  trivial
section
variable {w : World} {c : CA} {σ τ : DS} {ali sli : Addr} {fix kp led : List (Addr × Obj)}
theorem Lay.mono {led1 : List (Addr × Obj)} (L : Lay w c σ τ ali sli fix kp led) (h : ∀ p ∈ led, p ∈ led1) : Lay w c σ τ ali sli fix kp led1 := by
  obtain ⟨a, b, d, e, ap, oD, ol, of, oL, ost, osl, osf, oM, hD, hS, hsub⟩ := L
  exact ⟨a, b, d, e, ap, oD, ol, of, oL, ost, osl, osf, oM, hD, hS, fun p hp => h p (hsub p hp)⟩
/-- a new object beside -/
theorem Lay.add {D : Addr} {o : Obj} (L : Lay w c σ τ ali sli fix kp led) (h : ∀ p ∈ led, p.1 ≠ D) : Lay w c σ τ ali sli ((D, o) :: fix) kp ((D, o) :: led) := by
  obtain ⟨a, b, d, e, ap, oD, ol, of, oL, ost, osl, osf, oM, hD, hS, hsub⟩ := L
  refine ⟨a, b, d, List.forall_mem_cons.mpr ⟨offs h hsub, e⟩, List.forall_mem_cons.mpr ⟨fun k hk => Ne.symm (h k (hsub k (.tail _ (.tail _ (.tail _ (.tail _ (.tail _ (.tail _ (.tail _ (.tail _ (List.mem_append_right _ hk))))))))))), ap⟩, oD, ol, of, oL, ost, osl, osf, oM, hD.mono fun p hp => .tail _ hp, hS.mono fun p hp => .tail _ hp, ?_⟩
  simp only [List.forall_mem_cons] at hsub ⊢
  obtain ⟨h1, h2, h3, h4, h5, h6, h7, h8, h9⟩ := hsub
  exact ⟨.tail _ h1, .tail _ h2, .tail _ h3, .tail _ h4, .tail _ h5, .tail _ h6, .tail _ h7, .tail _ h8, List.forall_mem_cons.mpr ⟨.head _, fun p hp => .tail _ (h9 p hp)⟩⟩
theorem lay_of {oD ol of oL ost osl osf oM : Obj} (offA : Off c ali) (offS : Off c sli) (ne : @Ne Nat ali sli) (fx : ∀ p ∈ fix ++ kp, Off c p.1 ∧ (@Ne Nat p.1 ali) ∧ (@Ne Nat p.1 sli)) (ap : ∀ p ∈ fix, ∀ k ∈ kp, p.1 ≠ k.1) (hD : DeskIs w c σ fix oD ol of oL ali) (hS : StatIs w c τ fix ost osl osf oM sli)
    (hsub : ∀ p ∈ (c.dd, oD) :: (c.al, ol) :: (c.af, of) :: (ali, oL) :: (c.st, ost) :: (c.sl, osl) :: (c.sf, osf) :: (sli, oM) :: (fix ++ kp), p ∈ led) : Lay w c σ τ ali sli fix kp led :=
  ⟨offA, offS, ne, fx, ap, oD, ol, of, oL, ost, osl, osf, oM, hD, hS, hsub⟩
theorem off_new {G : Addr} {oD ol of oL oM : Obj} (r : ∀ p ∈ (c.dd, oD) :: (c.al, ol) :: (c.af, of) :: (ali, oL) :: (sli, oM) :: fix, p.1 ≠ G) (s1 : @Ne Nat c.st G) (s2 : @Ne Nat c.sl G) (s3 : @Ne Nat c.sf G) :
    Off c G ∧ (@Ne Nat G ali) ∧ ∀ p ∈ fix, p.1 ≠ G := by
  simp only [List.forall_mem_cons] at r
  obtain ⟨h1, h2, h3, h4, h5, h6⟩ := r
  exact ⟨⟨Ne.symm h1, Ne.symm h2, Ne.symm h3, Ne.symm s1, Ne.symm s2, Ne.symm s3⟩, Ne.symm h4, h6⟩
end
section
variable {w : World} {mean : ExcName → Option Value} {mg mb : Str → Option Value} {base : Heap} {env1 : Env} {c : CA} {σ : DS} {ali sli : Addr} {fix kp led : List (Addr × Obj)} {line : Str} {ws : List Str} {tt : Tok}
theorem laid_lay (hc : Core c) (hok : Ok σ) (h1 : σ.g1 ≠ e0) (h2 : ws = [Str.ofString "done"]) (L : Lay w c σ σ ali sli fix kp led) :
    LaidSpec w mean mg mb base env1 c.st led (fun b led1 => ∃ sli' fix', Lay w c σ (step σ ws line).1 ali sli' fix' kp led1 ∧ (step σ ws line).2 = (if b = true then some [] else none)) := by
  obtain ⟨offA, offS, ne, fx, ap, oD, ol, of, oL, ost, osl, osf, oM, hD, hS, hsub⟩ := L
  obtain ⟨tsrc, tg1, tg2, sr, sg, kl, kf, vs, rs, nr, ng, nl, hst, rfl, hosl, hkl, hosf, hkf, hvs, hrs, m_sr, m_sg⟩ := hS
  have key : ∀ {G l : Addr}, (∀ p ∈ (c.dd, oD) :: (c.al, ol) :: (c.af, of) :: (ali, oL) :: (sli, W.listOf vs.toArray nl) :: (fix ++ kp), p.1 ≠ G) → (∀ p ∈ (c.dd, oD) :: (c.al, ol) :: (c.af, of) :: (ali, oL) :: (sli, W.listOf vs.toArray nl) :: (fix ++ kp), p.1 ≠ l) → (@Ne Nat c.st G) → (@Ne Nat c.st l) → (@Ne Nat G l) → (@Ne Nat c.sl G) → (@Ne Nat c.sl l) → (@Ne Nat c.sf G) → (@Ne Nat c.sf l) →
      Off c l ∧ (@Ne Nat ali l) ∧ (Off c G ∧ (@Ne Nat G ali) ∧ (@Ne Nat G l)) ∧ (∀ p ∈ fix ++ kp, Off c p.1 ∧ (@Ne Nat p.1 ali) ∧ (@Ne Nat p.1 l)) ∧ ∀ k ∈ kp, G ≠ k.1 := by
    intro G l a b s1 s2 s3 s4 s5 s6 s7
    obtain ⟨g1, g2, g3⟩ := off_new a s1 s4 s6
    obtain ⟨k1, k2, k3⟩ := off_new b s2 s5 s7
    exact ⟨k1, Ne.symm k2, ⟨g1, g2, s3⟩, fun p hp => ⟨(fx p hp).1, (fx p hp).2.1, k3 p hp⟩, fun k hk => Ne.symm (g3 k (List.mem_append_right _ hk))⟩
  refine LaidSpec.sub ?_ (laid_all w mean mg mb base env1 c.st c.sl sr c.sf sg sli ost osl osf σ.src σ.g1 σ.g2 tsrc tg1 tg2 ng nl vs σ.lines ((c.dd, oD) :: (c.al, ol) :: (c.af, of) :: (ali, oL) :: (sli, W.listOf vs.toArray nl) :: (fix ++ kp)) hvs (by have := hok.lines; omega) hok.weight (fun y hy => Nat.le_trans (hok.long y hy) (by decide)) hok.g2 kl kf hosl hc.losl (by rw [hkl.len]; have := hok.lib; omega) hosf hc.losf (by rw [hkf.len]; have := hok.files; omega) hst ?_ ?_ ?_ hc.b1 hc.b2 hc.b3 (.tail _ (.tail _ (.tail _ (.tail _ (.tail _ (List.mem_append_left _ m_sg)))))) (.tail _ (.tail _ (.tail _ (.tail _ (.head _))))) hc.lost _ ?_ ?_ ?_ ?_ ?_)
  · simp only [List.forall_mem_cons] at hsub ⊢
    exact ⟨hsub.2.2.2.2.1, hsub.2.2.2.2.2.1, hsub.2.2.2.2.2.2.1, hsub.1, hsub.2.1, hsub.2.2.1, hsub.2.2.2.1, hsub.2.2.2.2.2.2.2.1, hsub.2.2.2.2.2.2.2.2⟩
  · simp only [List.forall_mem_cons]
    exact ⟨hc.d1, hc.e1, hc.f1, offA.st, offS.st, fun p hp => (fx p hp).1.st⟩
  · simp only [List.forall_mem_cons]
    exact ⟨hc.d2, hc.e2, hc.f2, offA.sl, offS.sl, fun p hp => (fx p hp).1.sl⟩
  · simp only [List.forall_mem_cons]
    exact ⟨hc.d3, hc.e3, hc.f3, offA.sf, offS.sf, fun p hp => (fx p hp).1.sf⟩
  · intro h3 ost' G l u u1 u2 hst' a b s1 s2 s3 s4 s5 s6 s7
    obtain ⟨k1, k2, k3, k4, k5⟩ := key a b s1 s2 s3 s4 s5 s6 s7
    rw [step_source h1 h2 h3]
    refine ⟨l, (G, tupOf #[.str e0 u1, .str e0 u2] 0) :: fix, lay_of offA k1 k2 (List.forall_mem_cons.mpr ⟨k3, k4⟩) (List.forall_mem_cons.mpr ⟨k5, ap⟩) (hD.mono fun p hp => .tail _ hp) ⟨u, u1, u2, sr, G, kl, kf, [], rs, nr, 0, 0, hst', rfl, hosl, hkl, hosf, hkf.mono (RStat.mono fun p hp => .tail _ hp), .nil, hrs, .tail _ m_sr, .head _⟩ ?_, rfl⟩
    k_extra "sub"
  · intro h3 ost' osl' G l u u1 u2 hst' hosl' a b s1 s2 s3 s4 s5 s6 s7
    obtain ⟨k1, k2, k3, k4, k5⟩ := key a b s1 s2 s3 s4 s5 s6 s7
    rw [step_library h1 h2 h3]
    refine ⟨l, (G, tupOf #[.str e0 u1, .str e0 u2] 0) :: fix, lay_of offA k1 k2 (List.forall_mem_cons.mpr ⟨k3, k4⟩) (List.forall_mem_cons.mpr ⟨k5, ap⟩) (hD.mono fun p hp => .tail _ hp) ⟨tsrc, u1, u2, sr, G, _, kf, [], rs, nr, 0, 0, hst', rfl, hosl', hkl.put ⟨u, rfl⟩, hosf, hkf.mono (RStat.mono fun p hp => .tail _ hp), .nil, hrs, .tail _ m_sr, .head _⟩ ?_, rfl⟩
    k_extra "sub"
  · intro h3 h4 h5 ost' G l u1 u2 hst' a b s1 s2 s3 s4 s5 s6 s7
    obtain ⟨k1, k2, k3, k4, k5⟩ := key a b s1 s2 s3 s4 s5 s6 s7
    rw [step_bad h1 h2 h3 h4 h5]
    refine ⟨l, (G, tupOf #[.str e0 u1, .str e0 u2] 0) :: fix, lay_of offA k1 k2 (List.forall_mem_cons.mpr ⟨k3, k4⟩) (List.forall_mem_cons.mpr ⟨k5, ap⟩) (hD.mono fun p hp => .tail _ hp) ⟨tsrc, u1, u2, sr, G, kl, kf, [], rs, nr, 0, 0, hst', rfl, hosl, hkl, hosf, hkf.mono (RStat.mono fun p hp => .tail _ hp), .nil, hrs, .tail _ m_sr, .head _⟩ ?_, rfl⟩
    k_extra "sub"
  · intro h3 h5 ost' G l R n rs' u1 u2 hst' hra a b s1 s2 s3 s4 s5 s6 s7 r1 r2 r3 r4 r5 r6
    obtain ⟨k1, k2, k3, k4, k5⟩ := key a b s1 s2 s3 s4 s5 s6 s7
    obtain ⟨q1, q2, q3⟩ := off_new r1 r2 r3 r4
    rw [step_rows h1 h2 h3 h5]
    refine ⟨l, (R, W.listOf rs'.toArray n) :: (G, tupOf #[.str e0 u1, .str e0 u2] 0) :: fix, lay_of offA k1 k2 (List.forall_mem_cons.mpr ⟨⟨q1, q2, Ne.symm r6⟩, List.forall_mem_cons.mpr ⟨k3, k4⟩⟩) (List.forall_mem_cons.mpr ⟨fun k hk => Ne.symm (q3 k (List.mem_append_right _ hk)), List.forall_mem_cons.mpr ⟨k5, ap⟩⟩) (hD.mono fun p hp => .tail _ (.tail _ hp)) ⟨tsrc, u1, u2, R, G, kl, kf, [], rs', n, 0, 0, hst', rfl, hosl, hkl, hosf, hkf.mono (RStat.mono fun p hp => .tail _ (.tail _ hp)), .nil, hra, .head _, .tail _ (.head _)⟩ ?_, rfl⟩
    k_extra "sub"
  · intro h3 h4 h6 h5 ost' osf' G l R rs' u1 u2 hst' hosf' hra a b s1 s2 s3 s4 s5 s6 s7 r1 r2 r3 r4 r5 r6
    obtain ⟨k1, k2, k3, k4, k5⟩ := key a b s1 s2 s3 s4 s5 s6 s7
    obtain ⟨q1, q2, q3⟩ := off_new r1 r2 r3 r4
    rw [step_file h1 h2 h3 h4 h6 h5]
    refine ⟨l, (R, tupOf rs'.toArray 0) :: (G, tupOf #[.str e0 u1, .str e0 u2] 0) :: fix, lay_of offA k1 k2 (List.forall_mem_cons.mpr ⟨⟨q1, q2, Ne.symm r6⟩, List.forall_mem_cons.mpr ⟨k3, k4⟩⟩) (List.forall_mem_cons.mpr ⟨fun k hk => Ne.symm (q3 k (List.mem_append_right _ hk)), List.forall_mem_cons.mpr ⟨k5, ap⟩⟩) (hD.mono fun p hp => .tail _ (.tail _ hp)) ⟨tsrc, u1, u2, sr, G, kl, _, [], rs, nr, 0, 0, hst', rfl, hosl, hkl, hosf', (hkf.mono (RStat.mono fun p hp => .tail _ (.tail _ hp))).put ⟨R, 0, rs', rfl, .head _, hra⟩, .nil, hrs, .tail _ (.tail _ m_sr), .tail _ (.head _)⟩ ?_, rfl⟩
    k_extra "sub"
/-- `_law_due` from both sides laid alike -/
theorem due_lay (hc : Core c) (hok : Ok σ) (hl : LineOk line ws) (L : Lay w c σ σ ali sli fix kp led) :
    DueSpec w mean mg mb base env1 c.st line tt led (fun v led1 => ∃ sli' fix', Lay w c σ (step σ ws line).1 ali sli' fix' kp led1 ∧ DueVal v fix' (step σ ws line).2) := by
  have L0 := L
  obtain ⟨offA, offS, ne, fx, ap, oD, ol, of, oL, ost, osl, osf, oM, hD, hS, hsub⟩ := L
  have hS0 := hS
  obtain ⟨tsrc, tg1, tg2, sr, sg, kl, kf, vs, rs, nr, ng, nl, hst, rfl, hosl, hkl, hosf, hkf, hvs, hrs, m_sr, m_sg⟩ := hS
  have LL : Lay w c σ σ ali sli fix kp ((c.st, ost) :: (sli, W.listOf vs.toArray nl) :: (c.dd, oD) :: (c.al, ol) :: (c.af, of) :: (ali, oL) :: (c.sl, osl) :: (c.sf, osf) :: (fix ++ kp)) := lay_of offA offS ne fx ap hD hS0 (by k_extra "sub")
  refine DueSpec.sub (led := (c.st, ost) :: (sli, W.listOf vs.toArray nl) :: (c.dd, oD) :: (c.al, ol) :: (c.af, of) :: (ali, oL) :: (c.sl, osl) :: (c.sf, osf) :: (fix ++ kp)) ?_ (fun _ _ h => h) (due_all w mean mg mb base env1 line tt ws hl.len hl.words hl.good hl.parts c.st c.sl sr c.sf sg sli ost σ.src σ.g1 σ.g2 tsrc tg1 tg2 ng nl vs ((c.dd, oD) :: (c.al, ol) :: (c.af, of) :: (ali, oL) :: (c.sl, osl) :: (c.sf, osf) :: (fix ++ kp)) (fun h => (hok.idle h).1) (by rw [strs_lenS hvs]; have := hok.lines; omega) hst ?_ ?_ (Ne.symm offS.st) (.tail _ (.tail _ (.tail _ (.tail _ (.tail _ (.tail _ (List.mem_append_left _ m_sg))))))) hc.lost _ ?_ ?_ ?_ ?_ ?_ ?_ ?_ ?_ ?_)
  · simp only [List.forall_mem_cons] at hsub ⊢
    exact ⟨hsub.2.2.2.2.1, hsub.2.2.2.2.2.2.2.1, hsub.1, hsub.2.1, hsub.2.2.1, hsub.2.2.2.1, hsub.2.2.2.2.2.1, hsub.2.2.2.2.2.2.1, hsub.2.2.2.2.2.2.2.2⟩
  · simp only [List.forall_mem_cons]
    exact ⟨hc.d1, hc.e1, hc.f1, offA.st, Ne.symm hc.b1, Ne.symm hc.b2, fun p hp => (fx p hp).1.st⟩
  · simp only [List.forall_mem_cons]
    exact ⟨Ne.symm offS.dd, Ne.symm offS.al, Ne.symm offS.af, ne, Ne.symm offS.sl, Ne.symm offS.sf, fun p hp => (fx p hp).2.2⟩
  · intro h1 h2 D n hDn
    rw [step_app h1 h2]
    have L1 : Lay w c σ ⟨σ.src, σ.lib, σ.rows, σ.files, σ.g1, σ.g2, σ.lines ++ [line]⟩ ali sli fix kp ((c.st, ost) :: (sli, W.listOf (vs ++ [Value.str line tt]).toArray (nl + 1)) :: (c.dd, oD) :: (c.al, ol) :: (c.af, of) :: (ali, oL) :: (c.sl, osl) :: (c.sf, osf) :: (fix ++ kp)) :=
      lay_of offA offS ne fx ap hD ⟨tsrc, tg1, tg2, sr, sg, kl, kf, _, rs, nr, ng, nl + 1, hst, rfl, hosl, hkl, hosf, hkf, strs_snoc hvs, hrs, m_sr, m_sg⟩ (by k_extra "sub")
    refine ⟨sli, _, (L1.add (D := D) (o := W.listOf #[] n) ?_).mono ?_, D, n, [], rfl, .head _, .nil⟩
    · simp only [List.forall_mem_cons] at hDn ⊢
      exact hDn
    · k_extra "sub"
  · intro h1 h2
    refine ⟨_, laid_lay (line := line) hc hok h1 h2 LL, fun led1 p D n hDn => ?_, fun led1 p => ?_⟩
    · obtain ⟨sli', fix', L1, e⟩ := p
      rw [e]
      exact ⟨sli', _, L1.add hDn, D, n, [], rfl, .head _, .nil⟩
    · obtain ⟨sli', fix', L1, e⟩ := p
      rw [e]
      exact ⟨sli', fix', L1, rfl⟩
  · intro h1 h2 D n hDn
    rw [step_blank h1 h2]
    exact ⟨sli, _, LL.add hDn, D, n, [], rfl, .head _, .nil⟩
  · intro h1 w0 r y h2 h3 ost' D n G u1 u2 hst' a s1 s2 s3 hDn
    rw [step_open h1 h2 h3]
    have hG : ∀ p ∈ (c.st, ost') :: (sli, W.listOf vs.toArray nl) :: (c.dd, oD) :: (c.al, ol) :: (c.af, of) :: (ali, oL) :: (c.sl, osl) :: (c.sf, osf) :: (fix ++ kp), p.1 ≠ G := by
      simp only [List.forall_mem_cons] at a ⊢
      exact ⟨s1, s2, a⟩
    have hvs0 := (hok.idle h1).2
    have hGk : ∀ k ∈ kp, k.1 ≠ G := fun k hk => hG k (.tail _ (.tail _ (.tail _ (.tail _ (.tail _ (.tail _ (.tail _ (.tail _ (List.mem_append_right _ hk)))))))))
    have L0 := LL
    obtain ⟨gA, gB, gC⟩ := offs (c := c) (ali := ali) (sli := sli) (oD := oD) (ol := ol) (of := of) (oL := oL) (ost := ost') (osl := osl) (osf := osf) (oM := W.listOf vs.toArray nl) (fix := fix ++ kp) hG (by k_extra "sub")
    have L1 : Lay w c σ ⟨σ.src, σ.lib, σ.rows, σ.files, w0, y, []⟩ ali sli ((G, tupOf #[.str w0 u1, .str y u2] 0) :: fix) kp ((c.st, ost') :: (G, tupOf #[.str w0 u1, .str y u2] 0) :: (sli, W.listOf vs.toArray nl) :: (c.dd, oD) :: (c.al, ol) :: (c.af, of) :: (ali, oL) :: (c.sl, osl) :: (c.sf, osf) :: (fix ++ kp)) :=
      lay_of offA offS ne (List.forall_mem_cons.mpr ⟨⟨gA, gB, gC⟩, fx⟩) (List.forall_mem_cons.mpr ⟨fun k hk => Ne.symm (hGk k hk), ap⟩) (hD.mono fun p hp => .tail _ hp) ⟨tsrc, u1, u2, sr, G, kl, kf, vs, rs, nr, 0, nl, hst', rfl, hosl, hkl, hosf, hkf.mono (RStat.mono fun p hp => .tail _ hp), hvs0 ▸ hvs, hrs, .tail _ m_sr, .head _⟩ (by k_extra "sub")
    refine ⟨sli, _, (L1.add (D := D) (o := W.listOf #[] n) ?_).mono ?_, D, n, [], rfl, .head _, .nil⟩
    · simp only [List.forall_mem_cons] at hDn ⊢
      exact ⟨hDn.1, s3, hDn.2⟩
    · k_extra "sub"
  · intro h1 h2
    rw [step_openBad h1 h2]
    exact ⟨sli, fix, LL, rfl⟩
  · intro h1 wr h2 D n us u hu hDn
    rw [step_good h1 h2]
    exact ⟨sli, _, LL.add hDn, D, n, _, rfl, .head _, .cons _ u hu⟩
  · intro h1 wr h2 D n u hDn
    rw [step_odd h1 h2]
    exact ⟨sli, _, LL.add hDn, D, n, [_], rfl, .head _, .cons _ u .nil⟩
  · intro h1 wr h2 D n u hDn
    rw [step_late h1 h2]
    exact ⟨sli, _, LL.add hDn, D, n, [_], rfl, .head _, .cons _ u .nil⟩
  · intro h1 w0 wr h2 h3 h4 h5 h6
    rw [step_other h1 h2 h3 h4 h5 h6]
    exact ⟨sli, fix, LL, rfl⟩
end
end Mine
end

section
open PySem PySem.W PyProof.Rows
set_option Elab.async false
set_option linter.all false
set_option maxRecDepth 100000
set_option maxHeartbeats 0
namespace Mine
theorem setGlue40 : True := by
  w_top off
  k_with_none
  k_with "rest1" => (refine' rest_ne1 ?zh ?zs; (case zh => with_reducible assumption); (case zs => k_extra "sub"))
  k_with "rest2" => (rename (∀ p ∈ (_ : List (Addr × Obj)), p.1 < _) => zzR; first | (refine' rest_ne2 zzR ?zs ?zl; (case zs => k_extra "sub"); (case zl => first | exact Nat.le_refl _ | exact Nat.le_succ _ | ((try dsimp only); omega))) | (clear zzR; k_extra "rest2"))
  k_with "rest" => (first | assumption | k_extra "rest1" | k_extra "rest2")
  k_with "sub" => (first | exact List.forall_mem_nil _ | (refine List.forall_mem_cons.mpr ⟨by k_mem, ?_⟩; k_extra "sub") | (intro p hp; (repeat (first | exact hp | refine List.Mem.tail _ ?_)); done))
  k_with "sub" => (intro p hp; (repeat (first | with_reducible exact hp | refine List.Mem.tail _ ?_)); done)
  k_with "nl" => (first | exact Nat.ne_of_lt zz1.1 | exact Nat.ne_of_gt zz1.1 | (replace zz1 := zz1.2; k_extra "nl"))
  k_with "ne" => (refine neN ?_; (try dsimp only); (repeat (rename (@Ne Nat _ _) => zz; clear zz)); omega)
  k_with "ne" => (refine neN ?_; (try dsimp only); (rename (@LT.lt Nat _ _ _ ∧ _) => zz1); first | k_extra "nl" | (clear zz1; (rename (@LT.lt Nat _ _ _ ∧ _) => zz1); first | k_extra "nl" | (clear zz1; (rename (@LT.lt Nat _ _ _ ∧ _) => zz1); k_extra "nl")))
  k_with "ne" => (refine neN ?_; (try dsimp only); first | assumption | (refine Ne.symm ?_; assumption))
  k_with "all" => (first | assumption | k_extra "rest")
  trivial
section
variable {w : World} {mean : ExcName → Option Value} {mg mb : Str → Option Value} {base : Heap} {env1 : Env} {c : CA} {σ τ : DS} {d : Option (List Str)} {ali sli : Addr} {fix kp led : List (Addr × Obj)} {line : Str} {ws : List Str} {tt : Tok}
theorem off_newD {G : Addr} {ost osl osf oL oM : Obj} (r : ∀ p ∈ (ali, oL) :: (c.st, ost) :: (c.sl, osl) :: (c.sf, osf) :: (sli, oM) :: fix, p.1 ≠ G) (s1 : @Ne Nat c.dd G) (s2 : @Ne Nat c.al G) (s3 : @Ne Nat c.af G) :
    Off c G ∧ (@Ne Nat G sli) ∧ ∀ p ∈ fix, p.1 ≠ G := by
  simp only [List.forall_mem_cons] at r
  obtain ⟨h1, h2, h3, h4, h5, h6⟩ := r
  exact ⟨⟨Ne.symm s1, Ne.symm s2, Ne.symm s3, Ne.symm h2, Ne.symm h3, Ne.symm h4⟩, Ne.symm h5, h6⟩
/-- both sides laid alike again -/
def Again (w : World) (c : CA) (τ : DS) (sli : Addr) (fix kp led : List (Addr × Obj)) : Prop := ∃ ali' fix', Lay w c τ τ ali' sli fix' kp led ∧ ∀ p ∈ fix, p ∈ fix'
theorem end_lay (hc : Core c) (hok : Ok σ) (h1 : σ.g1 ≠ e0) (h2 : ws = [Str.ofString "done"]) (hs : step σ ws line = (τ, d)) (L : Lay w c σ τ ali sli fix kp led) :
    EndSpec w mean mg mb base env1 c.dk led (fun led1 => d = some [] ∧ Again w c τ sli fix kp led1) (fun led1 => d = none ∧ Again w c τ sli fix kp led1) := by
  obtain ⟨offA, offS, ne, fx, ap, oD, ol, of, oL, ost, osl, osf, oM, hD, hS, hsub⟩ := L
  obtain ⟨t1, t2, t3, t4, t5, t6, t7, tsrc, tg1, tg2, ash, ds, ar, ag, kl, kf, vs, rs, nr, ng, nl, nd, rfl, rfl, hol, hkl, hof, hkf, hvs, hrs, m_dk, m_ash, m_ds, m_ar, m_ag⟩ := hD
  have key : ∀ {G l : Addr}, (∀ p ∈ (ali, W.listOf vs.toArray nl) :: (c.st, ost) :: (c.sl, osl) :: (c.sf, osf) :: (sli, oM) :: (fix ++ kp), p.1 ≠ G) → (∀ p ∈ (ali, W.listOf vs.toArray nl) :: (c.st, ost) :: (c.sl, osl) :: (c.sf, osf) :: (sli, oM) :: (fix ++ kp), p.1 ≠ l) → (@Ne Nat c.dd G) → (@Ne Nat c.dd l) → (@Ne Nat G l) → (@Ne Nat c.al G) → (@Ne Nat c.al l) → (@Ne Nat c.af G) → (@Ne Nat c.af l) →
      Off c l ∧ (@Ne Nat l sli) ∧ (Off c G ∧ (@Ne Nat G l) ∧ (@Ne Nat G sli)) ∧ (∀ p ∈ fix ++ kp, Off c p.1 ∧ (@Ne Nat p.1 l) ∧ (@Ne Nat p.1 sli)) ∧ ∀ k ∈ kp, G ≠ k.1 := by
    intro G l a b s1 s2 s3 s4 s5 s6 s7
    obtain ⟨g1, g2, g3⟩ := off_newD a s1 s4 s6
    obtain ⟨k1, k2, k3⟩ := off_newD b s2 s5 s7
    exact ⟨k1, k2, ⟨g1, s3, g2⟩, fun p hp => ⟨(fx p hp).1, k3 p hp, (fx p hp).2.2⟩, fun k hk => Ne.symm (g3 k (List.mem_append_right _ hk))⟩
  refine EndSpec.sub ?_ (end_all w mean mg mb base env1 σ.src σ.g1 σ.g2 tg1 tg2 t1 t2 t3 t4 t5 t6 t7 tsrc ng nl nd c.dk c.dd c.al ash ds c.af ar ag ali ol of vs σ.lines ((ali, W.listOf vs.toArray nl) :: (c.st, ost) :: (c.sl, osl) :: (c.sf, osf) :: (sli, oM) :: (fix ++ kp)) hvs (by have := hok.lines; omega) hok.weight (fun y hy => Nat.le_trans (hok.long y hy) (by decide)) hok.g2 kl kf hol hc.loal (by rw [hkl.len]; have := hok.lib; omega) hof hc.loaf (by rw [hkf.len]; have := hok.files; omega) ?_ ?_ ?_ hc.a1 hc.a2 hc.a3 (.tail _ (.tail _ (.tail _ (.tail _ (.tail _ (List.mem_append_left _ m_dk)))))) (.tail _ (.tail _ (.tail _ (.tail _ (.tail _ (List.mem_append_left _ m_ag)))))) (.head _) (.tail _ (.tail _ (.tail _ (.tail _ (.tail _ (List.mem_append_left _ m_ash)))))) (.tail _ (.tail _ (.tail _ (.tail _ (.tail _ (List.mem_append_left _ m_ds)))))) _ _ ?_ ?_ ?_ ?_ ?_)
  · simp only [List.forall_mem_cons] at hsub ⊢
    exact ⟨hsub.1, hsub.2.1, hsub.2.2.1, hsub.2.2.2⟩
  · simp only [List.forall_mem_cons]
    exact ⟨offA.dd, Ne.symm hc.d1, Ne.symm hc.d2, Ne.symm hc.d3, offS.dd, fun p hp => (fx p hp).1.dd⟩
  · simp only [List.forall_mem_cons]
    exact ⟨offA.al, Ne.symm hc.e1, Ne.symm hc.e2, Ne.symm hc.e3, offS.al, fun p hp => (fx p hp).1.al⟩
  · simp only [List.forall_mem_cons]
    exact ⟨offA.af, Ne.symm hc.f1, Ne.symm hc.f2, Ne.symm hc.f3, offS.af, fun p hp => (fx p hp).1.af⟩
  · intro h3 G l u u1 u2 a b s1 s2 s3 s4 s5 s6 s7
    obtain ⟨k1, k2, k3, k4, k5⟩ := key a b s1 s2 s3 s4 s5 s6 s7
    obtain ⟨rfl, rfl⟩ := Prod.mk.inj ((step_source h1 h2 h3).symm.trans hs)
    refine ⟨rfl, l, (G, tupOf #[.str e0 u1, .str e0 u2] 0) :: fix, lay_of k1 offS k2 (List.forall_mem_cons.mpr ⟨k3, k4⟩) (List.forall_mem_cons.mpr ⟨k5, ap⟩) ⟨t1, t2, t3, t4, t5, t6, t7, u, u1, u2, ash, ds, ar, G, kl, kf, [], rs, nr, 0, 0, nd, rfl, rfl, hol, hkl, hof, hkf.mono (RDesk.mono fun p hp => .tail _ hp), .nil, hrs, .tail _ m_dk, .tail _ m_ash, .tail _ m_ds, .tail _ m_ar, .head _⟩ (hS.mono fun p hp => .tail _ hp) ?_, fun p hp => .tail _ hp⟩
    k_extra "sub"
  · intro h3 ol' G l u u1 u2 hol' a b s1 s2 s3 s4 s5 s6 s7
    obtain ⟨k1, k2, k3, k4, k5⟩ := key a b s1 s2 s3 s4 s5 s6 s7
    obtain ⟨rfl, rfl⟩ := Prod.mk.inj ((step_library h1 h2 h3).symm.trans hs)
    refine ⟨rfl, l, (G, tupOf #[.str e0 u1, .str e0 u2] 0) :: fix, lay_of k1 offS k2 (List.forall_mem_cons.mpr ⟨k3, k4⟩) (List.forall_mem_cons.mpr ⟨k5, ap⟩) ⟨t1, t2, t3, t4, t5, t6, t7, tsrc, u1, u2, ash, ds, ar, G, _, kf, [], rs, nr, 0, 0, nd, rfl, rfl, hol', hkl.put ⟨u, rfl⟩, hof, hkf.mono (RDesk.mono fun p hp => .tail _ hp), .nil, hrs, .tail _ m_dk, .tail _ m_ash, .tail _ m_ds, .tail _ m_ar, .head _⟩ (hS.mono fun p hp => .tail _ hp) ?_, fun p hp => .tail _ hp⟩
    k_extra "sub"
  · intro h3 h4 h5 G l u1 u2 a b s1 s2 s3 s4 s5 s6 s7
    obtain ⟨k1, k2, k3, k4, k5⟩ := key a b s1 s2 s3 s4 s5 s6 s7
    obtain ⟨rfl, rfl⟩ := Prod.mk.inj ((step_bad h1 h2 h3 h4 h5).symm.trans hs)
    refine ⟨rfl, l, (G, tupOf #[.str e0 u1, .str e0 u2] 0) :: fix, lay_of k1 offS k2 (List.forall_mem_cons.mpr ⟨k3, k4⟩) (List.forall_mem_cons.mpr ⟨k5, ap⟩) ⟨t1, t2, t3, t4, t5, t6, t7, tsrc, u1, u2, ash, ds, ar, G, kl, kf, [], rs, nr, 0, 0, nd, rfl, rfl, hol, hkl, hof, hkf.mono (RDesk.mono fun p hp => .tail _ hp), .nil, hrs, .tail _ m_dk, .tail _ m_ash, .tail _ m_ds, .tail _ m_ar, .head _⟩ (hS.mono fun p hp => .tail _ hp) ?_, fun p hp => .tail _ hp⟩
    k_extra "sub"
  · intro h3 h5 G l R n rs' u1 u2 hra a b s1 s2 s3 s4 s5 s6 s7 r1 r2 r3 r4 r5 r6
    obtain ⟨k1, k2, k3, k4, k5⟩ := key a b s1 s2 s3 s4 s5 s6 s7
    obtain ⟨q1, q2, q3⟩ := off_newD r1 r2 r3 r4
    obtain ⟨rfl, rfl⟩ := Prod.mk.inj ((step_rows h1 h2 h3 h5).symm.trans hs)
    refine ⟨rfl, l, (R, W.listOf rs'.toArray n) :: (G, tupOf #[.str e0 u1, .str e0 u2] 0) :: fix, lay_of k1 offS k2 (List.forall_mem_cons.mpr ⟨⟨q1, Ne.symm r6, q2⟩, List.forall_mem_cons.mpr ⟨k3, k4⟩⟩) (List.forall_mem_cons.mpr ⟨fun k hk => Ne.symm (q3 k (List.mem_append_right _ hk)), List.forall_mem_cons.mpr ⟨k5, ap⟩⟩) ⟨t1, t2, t3, t4, t5, t6, t7, tsrc, u1, u2, ash, ds, R, G, kl, kf, [], rs', n, 0, 0, nd, rfl, rfl, hol, hkl, hof, hkf.mono (RDesk.mono fun p hp => .tail _ (.tail _ hp)), .nil, hra, .tail _ (.tail _ m_dk), .tail _ (.tail _ m_ash), .tail _ (.tail _ m_ds), .head _, .tail _ (.head _)⟩ (hS.mono fun p hp => .tail _ (.tail _ hp)) ?_, fun p hp => .tail _ (.tail _ hp)⟩
    k_extra "sub"
  · intro h3 h4 h6 h5 of' G l R C k0 k rs' u1 u2 hof' hra a b s1 s2 s3 s4 s5 s6 s7 r1 r2 r3 r4 r5 r6 c1 c2 c3 c4 c5 c6 c7
    obtain ⟨k1, k2, k3, k4, k5⟩ := key a b s1 s2 s3 s4 s5 s6 s7
    obtain ⟨q1, q2, q3⟩ := off_newD r1 r2 r3 r4
    obtain ⟨x1, x2, x3⟩ := off_newD c1 c2 c3 c4
    obtain ⟨rfl, rfl⟩ := Prod.mk.inj ((step_file h1 h2 h3 h4 h6 h5).symm.trans hs)
    have hl9 : σ.lines.length ≤ 900 := by have := hok.lines; omega
    refine ⟨rfl, l, (R, tupOf #[.str (Str.ofString "sequential") k0, .ref C] 0) :: (C, W.listOf rs'.toArray k) :: (G, tupOf #[.str e0 u1, .str e0 u2] 0) :: fix, lay_of k1 offS k2 (List.forall_mem_cons.mpr ⟨⟨q1, Ne.symm r6, q2⟩, List.forall_mem_cons.mpr ⟨⟨x1, Ne.symm c6, x2⟩, List.forall_mem_cons.mpr ⟨k3, k4⟩⟩⟩) (List.forall_mem_cons.mpr ⟨fun k hk => Ne.symm (q3 k (List.mem_append_right _ hk)), List.forall_mem_cons.mpr ⟨fun k hk => Ne.symm (x3 k (List.mem_append_right _ hk)), List.forall_mem_cons.mpr ⟨k5, ap⟩⟩⟩) ⟨t1, t2, t3, t4, t5, t6, t7, tsrc, u1, u2, ash, ds, ar, G, kl, _, [], rs, nr, 0, 0, nd, rfl, rfl, hol, hkl, hof', (hkf.mono (RDesk.mono fun p hp => .tail _ (.tail _ (.tail _ hp)))).put ⟨R, C, k0, 0, k, rs', rfl, .head _, .tail _ (.head _), hra, hl9⟩, .nil, hrs, .tail _ (.tail _ (.tail _ m_dk)), .tail _ (.tail _ (.tail _ m_ash)), .tail _ (.tail _ (.tail _ m_ds)), .tail _ (.tail _ (.tail _ m_ar)), .tail _ (.tail _ (.head _))⟩ (hS.mono fun p hp => .tail _ (.tail _ (.tail _ hp))) ?_, fun p hp => .tail _ (.tail _ (.tail _ hp))⟩
    k_extra "sub"
/-- answer_with behind `_law_due` -/
theorem ans_lay (hc : Core c) (hok : Ok σ) (hl : LineOk line ws) (hs : step σ ws line = (τ, d)) (L : Lay w c σ τ ali sli fix kp led) :
    AnsAny w mean mg mb base env1 c.dk line tt led (fun u led2 => (∃ ws' D n us, d = some ws' ∧ u = .ref D ∧ (D, W.listOf us.toArray n) ∈ led2 ∧ StrsAre us ws') ∧ Again w c τ sli fix kp led2) (fun led2 => d = none ∧ Again w c τ sli fix kp led2) := by
  have L0 := L
  obtain ⟨offA, offS, ne, fx, ap, oD, ol, of, oL, ost, osl, osf, oM, hD, hS, hsub⟩ := L
  have hD0 := hD
  obtain ⟨t1, t2, t3, t4, t5, t6, t7, tsrc, tg1, tg2, ash, ds, ar, ag, kl, kf, vs, rs, nr, ng, nl, nd, rfl, rfl, hol, hkl, hof, hkf, hvs, hrs, m_dk, m_ash, m_ds, m_ar, m_ag⟩ := hD
  have LL : ∀ {x : Addr × Obj}, σ = τ → Again w c τ sli fix kp (x :: (c.dd, dictOf [ent w.params "source" t1 (.str σ.src tsrc), ent w.params "library" t2 (.ref c.al), ent w.params "shelf" t3 (.ref ash), ent w.params "rows" t4 (.ref ar), ent w.params "gathering" t5 (.ref ag), ent w.params "lines" t6 (.ref ali)] 6) :: (ali, W.listOf vs.toArray nl) :: (c.al, ol) :: (c.af, of) :: (c.st, ost) :: (c.sl, osl) :: (c.sf, osf) :: (sli, oM) :: (fix ++ kp)) := by
    intro x e
    subst e
    exact ⟨ali, fix, (lay_of (led := (c.dd, _) :: (ali, W.listOf vs.toArray nl) :: (c.al, ol) :: (c.af, of) :: (c.st, ost) :: (c.sl, osl) :: (c.sf, osf) :: (sli, oM) :: (fix ++ kp)) offA offS ne fx ap hD0 hS (by k_extra "sub")).mono fun p hp => .tail _ hp, fun _ h => h⟩
  refine AnsAny.sub ?_ (ans_all w mean mg mb base env1 line tt ws hl.len hl.words hl.good hl.parts hl.head σ.src σ.g1 σ.g2 tg1 tg2 t1 t2 t3 t4 t5 t6 tsrc ng nl c.dk c.dd c.al ash ar ag ali vs ((c.al, ol) :: (c.af, of) :: (c.st, ost) :: (c.sl, osl) :: (c.sf, osf) :: (sli, oM) :: (fix ++ kp)) (fun h => (hok.idle h).1) (by rw [strs_lenS hvs]; have := hok.lines; omega) ?_ ?_ (Ne.symm offA.dd) (.tail _ (.tail _ (.tail _ (.tail _ (.tail _ (.tail _ (List.mem_append_left _ m_dk))))))) (.tail _ (.tail _ (.tail _ (.tail _ (.tail _ (.tail _ (List.mem_append_left _ m_ag))))))) _ _ ?_ ?_ ?_ ?_ ?_ ?_ ?_ ?_ ?_)
  · simp only [List.forall_mem_cons] at hsub ⊢
    exact ⟨hsub.1, hsub.2.2.2.1, hsub.2.1, hsub.2.2.1, hsub.2.2.2.2⟩
  · simp only [List.forall_mem_cons]
    exact ⟨Ne.symm hc.a1, Ne.symm hc.a2, Ne.symm hc.d1, Ne.symm hc.d2, Ne.symm hc.d3, offS.dd, fun p hp => (fx p hp).1.dd⟩
  · simp only [List.forall_mem_cons]
    exact ⟨Ne.symm offA.al, Ne.symm offA.af, Ne.symm offA.st, Ne.symm offA.sl, Ne.symm offA.sf, Ne.symm ne, fun p hp => (fx p hp).2.1⟩
  · intro h1 h2 D n
    obtain ⟨rfl, rfl⟩ := Prod.mk.inj ((step_app h1 h2).symm.trans hs)
    refine ⟨⟨[], D, n, [], rfl, rfl, .tail _ (.tail _ (.head _)), .nil⟩, ali, fix, lay_of offA offS ne fx ap ⟨t1, t2, t3, t4, t5, t6, t7, tsrc, tg1, tg2, ash, ds, ar, ag, kl, kf, vs ++ [Value.str line tt], rs, nr, ng, nl + 1, nd, rfl, rfl, hol, hkl, hof, hkf, strs_snoc hvs, hrs, m_dk, m_ash, m_ds, m_ar, m_ag⟩ hS ?_, fun _ h => h⟩
    k_extra "sub"
  · intro h1 h2
    have L1 : Lay w c σ τ ali sli fix kp ((c.dd, dictOf [ent w.params "source" t1 (.str σ.src tsrc), ent w.params "library" t2 (.ref c.al), ent w.params "shelf" t3 (.ref ash), ent w.params "rows" t4 (.ref ar), ent w.params "gathering" t5 (.ref ag), ent w.params "lines" t6 (.ref ali)] 6) :: (ali, W.listOf vs.toArray nl) :: (c.al, ol) :: (c.af, of) :: (c.st, ost) :: (c.sl, osl) :: (c.sf, osf) :: (sli, oM) :: (fix ++ kp)) := lay_of offA offS ne fx ap hD0 hS (by k_extra "sub")
    refine ⟨_, end_lay (line := line) hc hok h1 h2 hs L1, fun led1 p D n => ?_⟩
    obtain ⟨rfl, ali', fix', L2, hf⟩ := p
    exact ⟨⟨[], D, n, [], rfl, rfl, .head _, .nil⟩, ali', fix', L2.mono fun p hp => .tail _ hp, hf⟩
  · intro h1 h2 D n
    obtain ⟨e, rfl⟩ := Prod.mk.inj ((step_blank h1 h2).symm.trans hs)
    exact ⟨⟨[], D, n, [], rfl, rfl, .head _, .nil⟩, LL e⟩
  · intro h1 w0 r y h2 h3 D n G l u1 u2 a b s1 s2 s3 s4 s5
    obtain ⟨rfl, rfl⟩ := Prod.mk.inj ((step_open h1 h2 h3).symm.trans hs)
    simp only [List.forall_mem_cons] at a b
    obtain ⟨a1, a2, a3, a4, a5, a6, a7⟩ := a
    obtain ⟨b1, b2, b3, b4, b5, b6, b7⟩ := b
    refine ⟨⟨[], D, n, [], rfl, rfl, .tail _ (.head _), .nil⟩, l, (G, tupOf #[.str w0 u1, .str y u2] 0) :: fix, lay_of ⟨Ne.symm s2, Ne.symm b1, Ne.symm b2, Ne.symm b3, Ne.symm b4, Ne.symm b5⟩ offS (Ne.symm b6) (List.forall_mem_cons.mpr ⟨⟨⟨Ne.symm s1, Ne.symm a1, Ne.symm a2, Ne.symm a3, Ne.symm a4, Ne.symm a5⟩, s3, Ne.symm a6⟩, fun p hp => ⟨(fx p hp).1, b7 p hp, (fx p hp).2.2⟩⟩) (List.forall_mem_cons.mpr ⟨fun k hk => Ne.symm (a7 k (List.mem_append_right _ hk)), ap⟩)
      ⟨t1, t2, t3, t4, t5, t6, t7, tsrc, u1, u2, ash, ds, ar, G, kl, kf, [], rs, nr, 0, 0, nd, rfl, rfl, hol, hkl, hof, hkf.mono (RDesk.mono fun p hp => .tail _ hp), .nil, hrs, .tail _ m_dk, .tail _ m_ash, .tail _ m_ds, .tail _ m_ar, .head _⟩ (hS.mono fun p hp => .tail _ hp) ?_, fun p hp => .tail _ hp⟩
    k_extra "sub"
  · intro h1 h2
    obtain ⟨e, rfl⟩ := Prod.mk.inj ((step_openBad h1 h2).symm.trans hs)
    subst e
    exact ⟨rfl, ali, fix, lay_of offA offS ne fx ap hD0 hS (by k_extra "sub"), fun _ h => h⟩
  · intro h1 wr h2 D n us u hu
    obtain ⟨e, rfl⟩ := Prod.mk.inj ((step_good h1 h2).symm.trans hs)
    exact ⟨⟨_, D, n, _, rfl, rfl, .head _, .cons _ u hu⟩, LL e⟩
  · intro h1 wr h2 D n u
    obtain ⟨e, rfl⟩ := Prod.mk.inj ((step_odd h1 h2).symm.trans hs)
    exact ⟨⟨_, D, n, [_], rfl, rfl, .head _, .cons _ u .nil⟩, LL e⟩
  · intro h1 wr h2 D n u
    obtain ⟨e, rfl⟩ := Prod.mk.inj ((step_late h1 h2).symm.trans hs)
    exact ⟨⟨_, D, n, [_], rfl, rfl, .head _, .cons _ u .nil⟩, LL e⟩
  · intro h1 w0 wr h2 h3 h4 h5 h6
    obtain ⟨e, rfl⟩ := Prod.mk.inj ((step_other h1 h2 h3 h4 h5 h6).symm.trans hs)
    subst e
    exact ⟨rfl, ali, fix, lay_of offA offS ne fx ap hD0 hS (by k_extra "sub"), fun _ h => h⟩
end
end Mine
end

section
open PySem PySem.W PyProof.Rows
set_option Elab.async false
set_option linter.all false
set_option maxRecDepth 100000
set_option maxHeartbeats 0
namespace Mine
theorem setGlue50 : True := by
  w_top off
  k_with_none
  trivial
noncomputable def srt : List (Str × List Str) → List (Str × List Str)
  | [a, b] => [b, a]
  | l => l
inductive FlIs : List (Str × List Value) → List (Str × List Str) → Prop
  | nil : FlIs [] []
  | cons {y : Str} {rs : List Value} {ls : List Str} {fl : List (Str × List Value)} {l : List (Str × List Str)} : RowsAre rs ls → FlIs fl l → FlIs ((y, rs) :: fl) ((y, ls) :: l)
theorem fl_same {fl fs : List (Str × List Value)} {l : List (Str × List Str)} (a : FlIs fl l) (b : FlIs fs l) : FilesSame fl fs := by
  induction a generalizing fs with
  | nil => cases b; exact .nil
  | cons x _ ih =>
    cases b with
    | cons y b => exact .cons (fun h => rows_same x y) (ih b)
theorem files_desk {fix led : List (Addr × Obj)} {kf : List (Str × Value)} {files : List (Str × List Str)} (e : Ents (RDesk fix) kf files) (s : Shaped files) (h : ∀ p ∈ fix, p ∈ led) :
    ∃ fl : List (Str × List Value), FS kf (fl.map (·.1)) ∧ (∀ p ∈ fl, FileAt kf led p) ∧ fl.length ≤ 100 ∧ FlIs fl (srt files) := by
  rcases s with rfl | ⟨a, rfl⟩ | ⟨a, b, rfl⟩
  · cases e
    exact ⟨[], .none, (fun _ h => nomatch h), Nat.zero_le _, .nil⟩
  · cases e with
    | cons x e =>
      cases e
      obtain ⟨t, c, u, n1, n2, rs, rfl, m1, m2, hr, hl⟩ := x
      refine ⟨[(Str.ofString "p", rs)], .one _, fun p hp => ?_, Nat.le_of_ble_eq_true rfl, .cons hr .nil⟩
      rcases List.mem_singleton.mp hp with rfl
      exact ⟨t, c, u, n1, n2, rfl, h _ m1, h _ m2, by rw [rows_len hr]; exact Nat.le_trans hl (by decide)⟩
  · cases e with
    | cons x e =>
      cases e with
      | cons y e =>
        cases e
        obtain ⟨t, c, u, n1, n2, rs, rfl, m1, m2, hr, hl⟩ := x
        obtain ⟨t', c', u', n1', n2', rs', rfl, m1', m2', hr', hl'⟩ := y
        refine ⟨[(Str.ofString "a/b", rs'), (Str.ofString "p", rs)], .two _ _, fun p hp => ?_, Nat.le_of_ble_eq_true rfl, .cons hr' (.cons hr .nil)⟩
        rcases List.mem_cons.mp hp with rfl | hp
        · exact ⟨t', c', u', n1', n2', rfl, h _ m1', h _ m2', by rw [rows_len hr']; exact Nat.le_trans hl' (by decide)⟩
        · rcases List.mem_singleton.mp hp with rfl
          exact ⟨t, c, u, n1, n2, rfl, h _ m1, h _ m2, by rw [rows_len hr]; exact Nat.le_trans hl (by decide)⟩
theorem files_stat {fix led : List (Addr × Obj)} {kf : List (Str × Value)} {files : List (Str × List Str)} (e : Ents (RStat fix) kf files) (s : Shaped files) (h : ∀ p ∈ fix, p ∈ led) :
    ∃ fl : List (Str × List Value), FS kf (fl.map (·.1)) ∧ (∀ p ∈ fl, StFileAt kf led p) ∧ fl.length ≤ 100 ∧ FlIs fl (srt files) := by
  rcases s with rfl | ⟨a, rfl⟩ | ⟨a, b, rfl⟩
  · cases e
    exact ⟨[], .none, (fun _ h => nomatch h), Nat.zero_le _, .nil⟩
  · cases e with
    | cons x e =>
      cases e
      obtain ⟨t, n, rs, rfl, m1, hr⟩ := x
      refine ⟨[(Str.ofString "p", rs)], .one _, fun p hp => ?_, Nat.le_of_ble_eq_true rfl, .cons hr .nil⟩
      rcases List.mem_singleton.mp hp with rfl
      exact ⟨t, n, rfl, h _ m1⟩
  · cases e with
    | cons x e =>
      cases e with
      | cons y e =>
        cases e
        obtain ⟨t, n, rs, rfl, m1, hr⟩ := x
        obtain ⟨t', n', rs', rfl, m1', hr'⟩ := y
        refine ⟨[(Str.ofString "a/b", rs'), (Str.ofString "p", rs)], .two _ _, fun p hp => ?_, Nat.le_of_ble_eq_true rfl, .cons hr' (.cons hr .nil)⟩
        rcases List.mem_cons.mp hp with rfl | hp
        · exact ⟨t', n', rfl, h _ m1'⟩
        · rcases List.mem_singleton.mp hp with rfl
          exact ⟨t, n, rfl, h _ m1⟩
section
variable {w : World} {mean : ExcName → Option Value} {mg mb : Str → Option Value} {base : Heap} {env1 : Env} {c : CA} {σ τ : DS} {d : Option (List Str)} {ali sli : Addr} {fix kp led : List (Addr × Obj)} {line : Str} {ws : List Str} {tt : Tok}
theorem alike_lay (hc : Core c) (hsh : Shaped τ.files) (L : Lay w c τ τ ali sli fix kp led) : AlikeSpec w mean mg mb base env1 c.dk c.st led := by
  obtain ⟨offA, offS, ne, fx, ap, oD, ol, of, oL, ost, osl, osf, oM, hD, hS, hsub⟩ := L
  obtain ⟨t1, t2, t3, t4, t5, t6, t7, tsrc, tg1, tg2, ash, ds, ar, ag, kl, kf, vs, rs, nr, ng, nl, nd, rfl, rfl, hol, hkl, hof, hkf, hvs, hrs, m_dk, m_ash, m_ds, m_ar, m_ag⟩ := hD
  obtain ⟨tsrc', tg3, tg4, sr, sg, kl', kf', vs', rs', nr', ng', nl', hst, rfl, hosl, hkl', hosf, hkf', hvs', hrs', m_sr, m_sg⟩ := hS
  simp only [List.forall_mem_cons] at hsub
  obtain ⟨z1, z2, z3, z4, z5, z6, z7, z8, hfx⟩ := hsub
  have hfx : ∀ p ∈ fix, p ∈ led := fun p hp => hfx p (List.mem_append_left _ hp)
  obtain ⟨fl, f1, f2, f3, f4⟩ := files_desk hkf hsh hfx
  obtain ⟨fs, g1, g2, g3, g4⟩ := files_stat hkf' hsh hfx
  exact alike_all w mean mg mb base env1 c.dk c.dd c.al ash ds c.af ar ag ali c.st c.sl sr c.sf sg sli ost osl osf ol of τ.src τ.g1 τ.g2 tsrc tsrc' tg1 tg2 tg3 tg4 t1 t2 t3 t4 t5 t6 t7 rs' vs' rs vs nr ng nl nr' ng' nl' 6 nd kl kl' kf kf' fl fs led hst hol hosl hof hosf hc.losf hc.loaf hc.lost hc.loal hc.losl (fun h => lib_same hkl hkl') (fun h => rows_same hrs hrs') (fun h => strs_same hvs hvs') f1 f2 g1 g2 f3 g3 (fl_same f4 g4) (hfx _ m_dk) z1 z2 (hfx _ m_ash) (hfx _ m_ds) z3 (hfx _ m_ar) (hfx _ m_ag) z4 z5 z6 (hfx _ m_sr) z7 (hfx _ m_sg) z8
theorem Lay.fixed (L : Lay w c σ τ ali sli fix kp led) : ∀ p ∈ fix ++ kp, p ∈ led := by
  obtain ⟨_, _, _, _, _, oD, ol, of, oL, ost, osl, osf, oM, _, _, hsub⟩ := L
  exact fun p hp => hsub p (.tail _ (.tail _ (.tail _ (.tail _ (.tail _ (.tail _ (.tail _ (.tail _ hp))))))))
/-- `_law_right` on a line that both sides know how to read: True, and both sides are laid alike again -/
theorem right_lay (hc : Core c) (hok : Ok σ) (hl : LineOk line ws) (hsh : Shaped (step σ ws line).1.files) (L : Lay w c σ σ ali sli fix kp led)
    {A₀ : Around} {L₀ : Addr} {m : Str → Option Value} {s : Shared} {Q E : Value → Shared → Prop}
    (B : Below A₀ base [] base) (F : Fr base L₀ s.heap m) (KX : (hd.heap_1 w.params).In base) (N : News base L₀ s.heap led) (T : Top hd.view_39 LO mean mg mb base) (hk : env1.scope.kind = .function) (hf : env1.frame = some L₀)
    (hret : ∀ ali' sli' fix' led2 h' tk', Lay w c (step σ ws line).1 (step σ ws line).1 ali' sli' fix' kp led2 → Fr base L₀ h' m → News base L₀ h' led2 → Q (.bool true) { s with heap := h', toks := tk' }) :
    wpAny (model PySem.Challenge.rw_pb0238_01.row.prog w) (callerA.deeper env1) (call (.ref 270) [.ref c.dk, .ref c.st, .str line tt]) Q E s := by
  refine right_any w mean mg mb env1 A₀ base L₀ m s Q E c.dk c.st line tt led _ (fun led2 => ∃ ali' sli' fix', Lay w c (step σ ws line).1 (step σ ws line).1 ali' sli' fix' kp led2) (due_lay hc hok hl L) ?_ B F KX N T hk hf fun led2 h' tk' p F' N' => ?_
  · intro v led1 p
    obtain ⟨sli', fix', L1, hv⟩ := p
    refine ⟨_, _, ans_lay (τ := (step σ ws line).1) (d := (step σ ws line).2) hc hok hl rfl L1, ?_, ?_⟩
    · rintro u led2 ⟨⟨ws', D', n', us, hd, rfl, mD', su⟩, ali', fix2, L2, hf2⟩
      rw [hd] at hv
      obtain ⟨D, n, vs, rfl, mD, sv⟩ := hv
      exact ⟨D, n, vs, D', n', us, ws', rfl, rfl, L2.fixed _ (List.mem_append_left _ (hf2 _ mD)), mD', sv, su, alike_lay hc hsh L2, ali', sli', fix2, L2⟩
    · rintro led2 ⟨hd, ali', fix2, L2, hf2⟩
      rw [hd] at hv
      exact ⟨hv, alike_lay hc hsh L2, ali', sli', fix2, L2⟩
  · obtain ⟨ali', sli', fix', L1⟩ := p
    exact hret ali' sli' fix' led2 h' tk' L1 F' N'
end
end Mine
end

section
open PySem PySem.W PyProof.Rows
set_option Elab.async false
set_option linter.all false
set_option maxRecDepth 100000
set_option maxHeartbeats 0
namespace Mine
theorem setGlue60 : True := by
  w_top off
  k_with_none
  trivial
noncomputable abbrev sP : Str := Str.ofString "p"
noncomputable abbrev sAB : Str := Str.ofString "a/b"
/-- a line that can be read, checked by computation -/
noncomputable def chk (x : Str) : Bool :=
  decide (x.length ≤ 100) && decide ((Txt.split x (Str.ofString " ")).length ≤ 1000) && match wordsOf x with
    | [] => true
    | w0 :: wr => decide (w0.length ≤ 100) && ((Builtin.Str.occurrences (Str.ofString " source library rows file ") (Str.ofString " " ++ w0 ++ Str.ofString " ") 0 (Str.ofString " source library rows file ").length 1).isEmpty == (openOf (w0 :: wr)).isNone) &&
        (w0 != Str.ofString "good" || wr.length == 1 || wr.length == 2) && match openOf (w0 :: wr) with
          | some (some y) => decide (y.length ≤ 100) && (w0 == Str.ofString "source" || w0 == Str.ofString "library" || w0 == Str.ofString "rows" || y == sP || y == sAB)
          | _ => true
noncomputable def first11 : List Str := [Str.ofString "done", Str.ofString "odd", Str.ofString "late", Str.ofString "good  a  b", Str.ofString "rows x", Str.ofString "library Copy-1", Str.ofString "source", Str.ofString " done it", Str.ofString " done", Str.ofString "file p", Str.ofString "done"]
noncomputable def menu16 : List Str := [Str.ofString "source", Str.ofString "library New", Str.ofString "rows", Str.ofString "file  a/b", Str.ofString "file", Str.ofString "library", Str.ofString "good 1", Str.ofString "odd", Str.ofString "", Str.ofString "  ", Str.ofString "xé", Str.ofString "plain row", Str.ofString "done", Str.ofString " done ", Str.ofString "done", Str.ofString "else"]
theorem chk_all : ∀ x ∈ first11 ++ menu16, chk x = true := by decide +kernel
theorem chk_ok {x : Str} (h : chk x = true) : LineOk x (wordsOf x) ∧ ∀ w0 r y, wordsOf x = w0 :: r → openOf (wordsOf x) = some (some y) → y.length ≤ 100 ∧ (w0 = Str.ofString "source" ∨ w0 = Str.ofString "library" ∨ w0 = Str.ofString "rows" ∨ y = sP ∨ y = sAB) := by
  unfold chk at h
  rw [Bool.and_eq_true, Bool.and_eq_true, decide_eq_true_eq, decide_eq_true_eq] at h
  obtain ⟨⟨h1, h2⟩, h3⟩ := h
  cases hw : wordsOf x with
  | nil => exact ⟨⟨hw, h1, h2, (fun wr e => nomatch e), fun w0 wr e => nomatch e⟩, fun w0 r y e => nomatch e⟩
  | cons w0 wr =>
    rw [hw] at h3
    dsimp only at h3
    rw [Bool.and_eq_true, Bool.and_eq_true, Bool.and_eq_true, decide_eq_true_eq, beq_iff_eq] at h3
    obtain ⟨⟨⟨h4, h5⟩, h6⟩, h7⟩ := h3
    refine ⟨⟨hw, h1, h2, fun wr' e => ?_, fun w0' wr' e => ?_⟩, fun w0' r y e ho => ?_⟩
    · obtain ⟨rfl, rfl⟩ := List.cons.inj e
      rw [Bool.or_eq_true, Bool.or_eq_true, bne_iff_ne, beq_iff_eq, beq_iff_eq] at h6
      rcases h6 with (h | h) | h
      · exact absurd rfl h
      · exact .inl h
      · exact .inr h
    · obtain ⟨rfl, rfl⟩ := List.cons.inj e
      refine ⟨h4, ?_⟩
      rw [h5]
      exact Option.isNone_iff_eq_none
    · obtain ⟨rfl, rfl⟩ := List.cons.inj e
      rw [ho] at h7
      dsimp only at h7
      rw [Bool.and_eq_true, decide_eq_true_eq, Bool.or_eq_true, Bool.or_eq_true, Bool.or_eq_true, Bool.or_eq_true, beq_iff_eq, beq_iff_eq, beq_iff_eq, beq_iff_eq, beq_iff_eq] at h7
      refine ⟨h7.1, ?_⟩
      rcases h7.2 with (((h | h) | h) | h) | h
      · exact .inl h
      · exact .inr (.inl h)
      · exact .inr (.inr (.inl h))
      · exact .inr (.inr (.inr (.inl h)))
      · exact .inr (.inr (.inr (.inr h)))
/-- what holds of a state behind i lines -/
structure Com (i : Nat) (σ : DS) : Prop where
  lines : σ.lines.length ≤ i
  lib : σ.lib.length ≤ i
  long : ∀ y ∈ σ.lines, y.length ≤ 100
  shaped : Shaped σ.files
  g2 : σ.g2.length ≤ 100
  idle : σ.g1 = e0 → σ.g2 = e0 ∧ σ.lines = []
  kind : σ.g1 ≠ e0 → σ.g1 ≠ Str.ofString "source" → σ.g1 ≠ Str.ofString "library" → σ.g1 ≠ Str.ofString "rows" → σ.g2 = sP ∨ (σ.g2 = sAB ∧ σ.files ≠ [])
theorem Com.ok {i : Nat} {σ : DS} (h : Com i σ) (hi : i ≤ 60) : Ok σ := ⟨Nat.le_trans h.lines hi, Nat.le_trans h.lib (by omega), h.long, h.shaped, h.g2, h.idle⟩
theorem put_len {α : Type} (l : List (Str × α)) (k : Str) (v : α) : (put l k v).length ≤ l.length + 1 := by
  unfold put
  split
  · rw [List.length_map]; exact Nat.le_succ _
  · rw [List.length_append]; exact Nat.le_refl _
theorem open_ne {w0 : Str} {r : List Str} {y : Str} (h : openOf (w0 :: r) = some (some y)) : w0 ≠ e0 := by
  intro e
  subst e
  rw [openOf_no (by decide +kernel)] at h
  cases h
theorem com_step {i : Nat} {σ : DS} {x : Str} (hC : Com i σ) (hx : chk x = true) (hab : openOf (wordsOf x) = some (some sAB) → σ.files ≠ []) : Com (i + 1) (step σ (wordsOf x) x).1 ∧ (σ.files ≠ [] → (step σ (wordsOf x) x).1.files ≠ []) := by
  obtain ⟨hL, hO⟩ := chk_ok hx
  have same : Com (i + 1) σ := ⟨Nat.le_succ_of_le hC.lines, Nat.le_succ_of_le hC.lib, hC.long, hC.shaped, hC.g2, hC.idle, hC.kind⟩
  have z0 : (0 : Nat) ≤ i + 1 := Nat.zero_le _
  by_cases h1 : σ.g1 = e0
  · cases hw : wordsOf x with
    | nil => rw [step_blank h1 rfl]; exact ⟨same, id⟩
    | cons w0 wr =>
      rw [hw] at hO hab
      cases ho : openOf (w0 :: wr) with
      | none =>
        by_cases a : w0 = Str.ofString "good"
        · subst a; rw [step_good h1 rfl]; exact ⟨same, id⟩
        by_cases b : w0 = Str.ofString "odd"
        · subst b; rw [step_odd h1 rfl]; exact ⟨same, id⟩
        by_cases c : w0 = Str.ofString "late"
        · subst c; rw [step_late h1 rfl]; exact ⟨same, id⟩
        rw [step_other h1 rfl ho a b c]; exact ⟨same, id⟩
      | some o =>
        cases o with
        | none => rw [step_openBad h1 ho]; exact ⟨same, id⟩
        | some y =>
          rw [step_open h1 rfl ho]
          obtain ⟨hy, hk⟩ := hO _ _ _ rfl ho
          refine ⟨⟨z0, Nat.le_succ_of_le hC.lib, (fun _ q => nomatch q), hC.shaped, hy, (fun e => absurd e (open_ne ho)), fun _ n1 n2 n3 => ?_⟩, id⟩
          rcases hk with e | e | e | e | e
          · exact absurd e n1
          · exact absurd e n2
          · exact absurd e n3
          · exact .inl e
          · exact .inr ⟨e, hab (e ▸ ho)⟩
  · by_cases h2 : wordsOf x = [Str.ofString "done"]
    · have i0 : e0 = e0 → e0 = e0 ∧ ([] : List Str) = [] := fun _ => ⟨rfl, rfl⟩
      by_cases h3 : σ.g1 = Str.ofString "source"
      · rw [step_source h1 h2 h3]
        exact ⟨⟨z0, Nat.le_succ_of_le hC.lib, (fun _ q => nomatch q), hC.shaped, Nat.zero_le _, i0, fun e => absurd rfl e⟩, id⟩
      by_cases h4 : σ.g1 = Str.ofString "library"
      · rw [step_library h1 h2 h4]
        exact ⟨⟨z0, Nat.le_trans (put_len _ _ _) (Nat.succ_le_succ hC.lib), (fun _ q => nomatch q), hC.shaped, Nat.zero_le _, i0, fun e => absurd rfl e⟩, id⟩
      by_cases h5 : ∀ y ∈ σ.lines, Clear y
      · by_cases h6 : σ.g1 = Str.ofString "rows"
        · rw [step_rows h1 h2 h6 h5]
          exact ⟨⟨z0, Nat.le_succ_of_le hC.lib, (fun _ q => nomatch q), hC.shaped, Nat.zero_le _, i0, fun e => absurd rfl e⟩, id⟩
        · rw [step_file h1 h2 h3 h4 h6 h5]
          have hs : Shaped (put σ.files σ.g2 σ.lines) ∧ put σ.files σ.g2 σ.lines ≠ [] := by
            rcases hC.kind h1 h3 h4 h6 with e | ⟨e, hn⟩
            · rw [e]; exact hC.shaped.put_p _
            · rw [e]; exact hC.shaped.put_ab hn _
          exact ⟨⟨z0, Nat.le_succ_of_le hC.lib, (fun _ q => nomatch q), hs.1, Nat.zero_le _, i0, fun e => absurd rfl e⟩, fun _ => hs.2⟩
      · rw [step_bad h1 h2 h3 h4 h5]
        exact ⟨⟨z0, Nat.le_succ_of_le hC.lib, (fun _ q => nomatch q), hC.shaped, Nat.zero_le _, i0, fun e => absurd rfl e⟩, id⟩
    · rw [step_app h1 h2]
      refine ⟨⟨by rw [List.length_append]; exact Nat.succ_le_succ hC.lines, Nat.le_succ_of_le hC.lib, fun y hy => ?_, hC.shaped, hC.g2, (fun e => absurd e h1), hC.kind⟩, id⟩
      rcases List.mem_append.mp hy with hy | hy
      · exact hC.long y hy
      · rw [List.mem_singleton.mp hy]; exact hL.len
/-- how the first eleven lines go -/
def Phase (i : Nat) (σ : DS) : Prop := (i ≤ 5 → σ.g1 = e0) ∧ (6 ≤ i → i ≤ 8 → σ.g1 = Str.ofString "library") ∧ (i = 9 → σ.g1 = e0) ∧ (i = 10 → σ.g1 = Str.ofString "file" ∧ σ.g2 = sP ∧ σ.lines = []) ∧ (11 ≤ i → σ.files ≠ [])
theorem phase_idle {j : Nat} {σ : DS} (hj : j ≤ 5) (h : σ.g1 = e0) : Phase j σ := ⟨fun _ => h, fun a => by omega, fun a => by omega, fun a => by omega, fun a => by omega⟩
theorem phase_lib {j : Nat} {σ : DS} (h1 : 6 ≤ j) (h2 : j ≤ 8) (h : σ.g1 = Str.ofString "library") : Phase j σ := ⟨fun a => by omega, fun _ _ => h, fun a => by omega, fun a => by omega, fun a => by omega⟩
theorem lib_ne : Str.ofString "library" ≠ e0 := by decide +kernel
theorem file_ne : Str.ofString "file" ≠ e0 := by decide +kernel
theorem phase_step {i : Nat} {σ : DS} {x : Str} (hP : Phase i σ) (hx : first11[i]? = some x) : Phase (i + 1) (step σ (wordsOf x) x).1 := by
  obtain ⟨p1, p2, p3, p4, p5⟩ := hP
  match i, hx with
  | 0, hx =>
    cases hx
    rw [show wordsOf (Str.ofString "done") = [Str.ofString "done"] by decide +kernel, step_other (p1 (by omega)) rfl (openOf_no (by decide +kernel)) (by decide +kernel) (by decide +kernel) (by decide +kernel)]
    exact phase_idle (by omega) (p1 (by omega))
  | 1, hx =>
    cases hx
    rw [show wordsOf (Str.ofString "odd") = [Str.ofString "odd"] by decide +kernel, step_odd (p1 (by omega)) rfl]
    exact phase_idle (by omega) (p1 (by omega))
  | 2, hx =>
    cases hx
    rw [show wordsOf (Str.ofString "late") = [Str.ofString "late"] by decide +kernel, step_late (p1 (by omega)) rfl]
    exact phase_idle (by omega) (p1 (by omega))
  | 3, hx =>
    cases hx
    rw [show wordsOf (Str.ofString "good  a  b") = [Str.ofString "good", Str.ofString "a", Str.ofString "b"] by decide +kernel, step_good (p1 (by omega)) rfl]
    exact phase_idle (by omega) (p1 (by omega))
  | 4, hx =>
    cases hx
    rw [step_openBad (p1 (by omega)) (by decide +kernel)]
    exact phase_idle (by omega) (p1 (by omega))
  | 5, hx =>
    cases hx
    rw [show wordsOf (Str.ofString "library Copy-1") = [Str.ofString "library", Str.ofString "Copy-1"] by decide +kernel, step_open (y := Str.ofString "Copy-1") (p1 (by omega)) rfl (by decide +kernel)]
    exact phase_lib (by omega) (by omega) rfl
  | 6, hx =>
    cases hx
    have g := p2 (by omega) (by omega)
    rw [step_app (g ▸ lib_ne) (by decide +kernel)]
    exact phase_lib (by omega) (by omega) g
  | 7, hx =>
    cases hx
    have g := p2 (by omega) (by omega)
    rw [step_app (g ▸ lib_ne) (by decide +kernel)]
    exact phase_lib (by omega) (by omega) g
  | 8, hx =>
    cases hx
    have g := p2 (by omega) (by omega)
    rw [step_library (g ▸ lib_ne) (by decide +kernel) g]
    exact ⟨fun a => by omega, fun a b => by omega, fun _ => rfl, fun a => by omega, fun a => by omega⟩
  | 9, hx =>
    cases hx
    rw [show wordsOf (Str.ofString "file p") = [Str.ofString "file", Str.ofString "p"] by decide +kernel, step_open (y := Str.ofString "p") (p3 rfl) rfl (by decide +kernel)]
    exact ⟨fun a => by omega, fun a b => by omega, fun a => by omega, fun _ => ⟨rfl, rfl, rfl⟩, fun a => by omega⟩
  | 10, hx =>
    cases hx
    obtain ⟨g, g2, gl⟩ := p4 rfl
    rw [step_file (g ▸ file_ne) (by decide +kernel) (by rw [g]; decide +kernel) (by rw [g]; decide +kernel) (by rw [g]; decide +kernel) (by rw [gl]; exact fun _ q => nomatch q)]
    refine ⟨fun a => by omega, fun a b => by omega, fun a => by omega, fun a => by omega, fun _ => ?_⟩
    show put _ _ _ ≠ []
    unfold put
    split
    · rename_i h
      intro e
      rw [List.map_eq_nil_iff] at e
      rw [e] at h
      cases h
    · simp
  | i + 11, hx => cases hx
def Inv (i : Nat) (σ : DS) : Prop := Com i σ ∧ Phase i σ
theorem no_ab : ∀ x ∈ first11, openOf (wordsOf x) ≠ some (some sAB) := by decide +kernel
theorem inv_step {ls ex : List Str} {i : Nat} {σ : DS} {x : Str} (hls : ls = first11 ++ ex) (hex : ∀ y ∈ ex, y ∈ menu16) (hI : Inv i σ) (hx : ls[i]? = some x) : chk x = true ∧ Inv (i + 1) (step σ (wordsOf x) x).1 := by
  obtain ⟨hC, hP⟩ := hI
  subst hls
  have hm : x ∈ first11 ++ menu16 := by
    rcases List.mem_append.mp (List.mem_of_getElem? hx) with h | h
    · exact List.mem_append_left _ h
    · exact List.mem_append_right _ (hex _ h)
  have hc := chk_all _ hm
  by_cases hi : i < 11
  · have h11 : first11[i]? = some x := by
      rw [List.getElem?_append_left (show i < first11.length from hi)] at hx
      exact hx
    exact ⟨hc, (com_step hC hc fun e => absurd e (no_ab _ (List.mem_of_getElem? h11))).1, phase_step hP h11⟩
  · have hn := hP.2.2.2.2 (by omega)
    obtain ⟨a, b⟩ := com_step hC hc fun _ => hn
    exact ⟨hc, a, fun h => by omega, fun h => by omega, fun h => by omega, fun h => by omega, fun _ => b hn⟩
theorem inv_zero : Inv 0 ⟨e0, [], [], [], e0, e0, []⟩ := ⟨⟨Nat.le_refl _, Nat.le_refl _, (fun _ q => nomatch q), .inl rfl, Nat.zero_le _, fun _ => ⟨rfl, rfl⟩, fun e => absurd rfl e⟩, phase_idle (by omega) rfl⟩
end Mine
end

section
open PySem PySem.W PyProof.Rows
set_option Elab.async false
set_option linter.all false
set_option maxRecDepth 100000
set_option maxHeartbeats 0
namespace Mine
theorem setGlue70 : True := by
  w_top off
  k_with_none
  k_with "rest1" => (refine' rest_ne1 ?zh ?zs; (case zh => with_reducible assumption); (case zs => k_extra "sub"))
  k_with "rest2" => (rename (∀ p ∈ (_ : List (Addr × Obj)), p.1 < _) => zzR; first | (refine' rest_ne2 zzR ?zs ?zl; (case zs => k_extra "sub"); (case zl => first | exact Nat.le_refl _ | exact Nat.le_succ _ | ((try dsimp only); omega))) | (clear zzR; k_extra "rest2"))
  k_with "rest" => (first | assumption | k_extra "rest1" | k_extra "rest2")
  k_with "sub" => (first | exact List.forall_mem_nil _ | (refine List.forall_mem_cons.mpr ⟨by k_mem, ?_⟩; k_extra "sub") | (intro p hp; (repeat (first | exact hp | refine List.Mem.tail _ ?_)); done))
  k_with "sub" => (intro p hp; (repeat (first | with_reducible exact hp | refine List.Mem.tail _ ?_)); done)
  k_with "nl" => (first | exact Nat.ne_of_lt zz1.1 | exact Nat.ne_of_gt zz1.1 | (replace zz1 := zz1.2; k_extra "nl"))
  k_with "ne" => (refine neN ?_; (try dsimp only); (repeat (rename (@Ne Nat _ _) => zz; clear zz)); omega)
  k_with "ne" => (refine neN ?_; (try dsimp only); (rename (@LT.lt Nat _ _ _ ∧ _) => zz1); first | k_extra "nl" | (clear zz1; (rename (@LT.lt Nat _ _ _ ∧ _) => zz1); first | k_extra "nl" | (clear zz1; (rename (@LT.lt Nat _ _ _ ∧ _) => zz1); k_extra "nl")))
  k_with "ne" => (refine neN ?_; (try dsimp only); first | assumption | (refine Ne.symm ?_; assumption))
  k_with "all" => (first | assumption | k_extra "rest")
  trivial
theorem pw_cons {a b : Nat} {l : List Nat} (h : b < a) (t : (b :: l).Pairwise (fun x y => y < x)) : (a :: b :: l).Pairwise (fun x y => y < x) :=
  List.pairwise_cons.mpr ⟨List.forall_mem_cons.mpr ⟨h, fun z hz => Nat.lt_trans ((List.pairwise_cons.mp t).1 z hz) h⟩, t⟩
theorem pw_ne {l : List Nat} (h : l.Pairwise (fun x y => y < x)) {i j a b : Nat} (hi : l[i]? = some a) (hj : l[j]? = some b) (hij : (i == j) = false) : @Ne Nat a b := by
  obtain ⟨h1, rfl⟩ := List.getElem?_eq_some_iff.mp hi
  obtain ⟨h2, rfl⟩ := List.getElem?_eq_some_iff.mp hj
  have := List.pairwise_iff_getElem.mp h
  have ne : i ≠ j := by simpa using hij
  rcases Nat.lt_or_gt_of_ne ne with z | z
  · exact Nat.ne_of_gt (this _ _ h1 h2 z)
  · exact Nat.ne_of_lt (this _ _ h2 h1 z)
/-- an empty desk -/
noncomputable abbrev s0 : DS := ⟨e0, [], [], [], e0, e0, []⟩
/-- what lies there ahead of the loops -/
theorem law_pack {w : World} {base h : Heap} {L kd ax sli sg sf sr sl st tu pn cA D3 ali ag ar af ash ds al dk dd : Addr} {oK oX osf osl ost oT oP oC o3 of ol : Obj} {t1 t2 t3 t4 t5 t6 t7 t8 t9 g1 g2 g3 g4 : Tok} {R1 R2 R3 R4 R5 R6 R7 R8 R9 R10 R11 R12 R13 R14 R15 : Prop}
    (N : News base L h [(kd, oK), (ax, oX), (sli, W.listOf #[] 0), (sg, tupOf #[.str e0 g3, .str e0 g4] 0), (sf, osf), (sr, W.listOf #[] 0), (sl, osl), (st, ost), (tu, oT), (pn, oP), (cA, oC), (D3, o3), (ali, W.listOf #[] 0), (ag, tupOf #[.str e0 g1, .str e0 g2] 0), (ar, W.listOf #[] 0), (af, of), (ash, instObj 161 ds), (ds, dictOf [ent w.params "files" t7 (.ref af)] 1), (al, ol), (dk, instObj 182 dd), (dd, dictOf [ent w.params "source" t1 (.str e0 t8), ent w.params "library" t2 (.ref al), ent w.params "shelf" t3 (.ref ash), ent w.params "rows" t4 (.ref ar), ent w.params "gathering" t5 (.ref ag), ent w.params "lines" t6 (.ref ali)] 6)])
    (h1 : ax < kd ∧ R1) (h2 : sli < ax ∧ R2) (h3 : sg < sli ∧ R3) (h4 : sf < sg ∧ R4) (h5 : sr < sf ∧ R5) (h6 : sl < sr ∧ R6) (h7 : st < sl ∧ R7) (h8 : tu < st ∧ pn < st ∧ R8) (h9 : cA < pn ∧ D3 < pn ∧ ali < pn ∧ R9) (h10 : ag < ali ∧ R10) (h11 : ar < ag ∧ R11) (h12 : af < ar ∧ R12) (h13 : ash < af ∧ R13) (h14 : ds < ash) (h15 : al < ds ∧ R14) (h16 : dk < al ∧ R15) (h17 : dd < dk)
    (loal : (al == sysModules) = false) (loaf : (af == sysModules) = false) (lost : (st == sysModules) = false) (losl : (sl == sysModules) = false) (losf : (sf == sysModules) = false)
    (hol : ol.IsDictOf (SK w) []) (hof : of.IsDictOf (SK w) []) (hosl : osl.IsDictOf (SK w) []) (hosf : osf.IsDictOf (SK w) [])
    (host : ost.IsDictOf (SK w) [(Str.ofString "source", .str e0 t9), (Str.ofString "library", .ref sl), (Str.ofString "rows", .ref sr), (Str.ofString "files", .ref sf), (Str.ofString "gathering", .ref sg), (Str.ofString "lines", .ref sli)]) :
    ∃ fix rest, Core ⟨dk, dd, al, af, st, sl, sf⟩ ∧ (∀ o, Lay w ⟨dk, dd, al, af, st, sl, sf⟩ s0 s0 ali sli fix [(ax, o)] ((ax, o) :: rest)) ∧ (∀ p ∈ (ax, oX) :: rest, p.1 ≠ pn) ∧ (∀ p ∈ rest, p.1 ≠ ax) ∧ (cA, oC) ∈ rest ∧ (kd, oK) ∈ rest ∧ News base L h ((pn, oP) :: (ax, oX) :: rest) := by
  have hp : [kd, ax, sli, sg, sf, sr, sl, st, pn, ali, ag, ar, af, ash, ds, al, dk, dd].Pairwise (fun x y => y < x) := pw_cons h1.1 (pw_cons h2.1 (pw_cons h3.1 (pw_cons h4.1 (pw_cons h5.1 (pw_cons h6.1 (pw_cons h7.1 (pw_cons h8.2.1 (pw_cons h9.2.2.1 (pw_cons h10.1 (pw_cons h11.1 (pw_cons h12.1 (pw_cons h13.1 (pw_cons h14 (pw_cons h15.1 (pw_cons h16.1 (pw_cons h17 (List.pairwise_singleton _ _)))))))))))))))))
  have off : ∀ (i : Nat) {x : Nat}, [kd, ax, sli, sg, sf, sr, sl, st, pn, ali, ag, ar, af, ash, ds, al, dk, dd][i]? = some x → ([17, 15, 12, 7, 6, 4].all fun j => !(i == j)) = true → Off ⟨dk, dd, al, af, st, sl, sf⟩ x := by
    intro i x hx ha
    simp only [List.all_cons, List.all_nil, Bool.and_true, Bool.and_eq_true, Bool.not_eq_true'] at ha
    exact ⟨pw_ne hp hx (j := 17) rfl ha.1, pw_ne hp hx (j := 15) rfl ha.2.1, pw_ne hp hx (j := 12) rfl ha.2.2.1, pw_ne hp hx (j := 7) rfl ha.2.2.2.1, pw_ne hp hx (j := 6) rfl ha.2.2.2.2.1, pw_ne hp hx (j := 4) rfl ha.2.2.2.2.2⟩
  have hpa : pn < ax := Nat.lt_trans (Nat.lt_trans (Nat.lt_trans (Nat.lt_trans (Nat.lt_trans (Nat.lt_trans h8.2.1 h7.1) h6.1) h5.1) h4.1) h3.1) h2.1
  refine ⟨[(dk, instObj 182 dd), (ash, instObj 161 ds), (ds, dictOf [ent w.params "files" t7 (.ref af)] 1), (ar, W.listOf #[] 0), (ag, tupOf #[.str e0 g1, .str e0 g2] 0), (sr, W.listOf #[] 0), (sg, tupOf #[.str e0 g3, .str e0 g4] 0)], [(kd, oK), (sli, W.listOf #[] 0), (sg, tupOf #[.str e0 g3, .str e0 g4] 0), (sf, osf), (sr, W.listOf #[] 0), (sl, osl), (st, ost), (cA, oC), (ali, W.listOf #[] 0), (ag, tupOf #[.str e0 g1, .str e0 g2] 0), (ar, W.listOf #[] 0), (af, of), (ash, instObj 161 ds), (ds, dictOf [ent w.params "files" t7 (.ref af)] 1), (al, ol), (dk, instObj 182 dd), (dd, dictOf [ent w.params "source" t1 (.str e0 t8), ent w.params "library" t2 (.ref al), ent w.params "shelf" t3 (.ref ash), ent w.params "rows" t4 (.ref ar), ent w.params "gathering" t5 (.ref ag), ent w.params "lines" t6 (.ref ali)] 6)], ⟨(pw_ne hp (i := 17) (j := 15) rfl rfl rfl), (pw_ne hp (i := 17) (j := 12) rfl rfl rfl), (pw_ne hp (i := 15) (j := 12) rfl rfl rfl), (pw_ne hp (i := 7) (j := 6) rfl rfl rfl), (pw_ne hp (i := 7) (j := 4) rfl rfl rfl), (pw_ne hp (i := 6) (j := 4) rfl rfl rfl), (pw_ne hp (i := 17) (j := 7) rfl rfl rfl), (pw_ne hp (i := 17) (j := 6) rfl rfl rfl), (pw_ne hp (i := 17) (j := 4) rfl rfl rfl), (pw_ne hp (i := 15) (j := 7) rfl rfl rfl), (pw_ne hp (i := 15) (j := 6) rfl rfl rfl), (pw_ne hp (i := 15) (j := 4) rfl rfl rfl), (pw_ne hp (i := 12) (j := 7) rfl rfl rfl), (pw_ne hp (i := 12) (j := 6) rfl rfl rfl), (pw_ne hp (i := 12) (j := 4) rfl rfl rfl), loal, loaf, lost, losl, losf⟩, fun o => ⟨off 9 rfl rfl, off 2 rfl rfl, (pw_ne hp (i := 9) (j := 2) rfl rfl rfl), ?_, ?_, _, ol, of, W.listOf #[] 0, ost, osl, osf, W.listOf #[] 0, ⟨t1, t2, t3, t4, t5, t6, t7, t8, g1, g2, ash, ds, ar, ag, [], [], [], [], 0, 0, 0, 1, rfl, rfl, hol, .nil, hof, .nil, .nil, .nil, .head _, .tail _ (.head _), .tail _ (.tail _ (.head _)), .tail _ (.tail _ (.tail _ (.head _))), .tail _ (.tail _ (.tail _ (.tail _ (.head _))))⟩, ⟨t9, g3, g4, sr, sg, [], [], [], [], 0, 0, 0, host, rfl, hosl, .nil, hosf, .nil, .nil, .nil, .tail _ (.tail _ (.tail _ (.tail _ (.tail _ (.head _))))), .tail _ (.tail _ (.tail _ (.tail _ (.tail _ (.tail _ (.head _))))))⟩, ?_⟩, ?_, ?_, ?_, ?_, ?_⟩
  · exact List.forall_mem_cons.mpr ⟨⟨off 16 rfl rfl, (pw_ne hp (i := 16) (j := 9) rfl rfl rfl), (pw_ne hp (i := 16) (j := 2) rfl rfl rfl)⟩, List.forall_mem_cons.mpr ⟨⟨off 13 rfl rfl, (pw_ne hp (i := 13) (j := 9) rfl rfl rfl), (pw_ne hp (i := 13) (j := 2) rfl rfl rfl)⟩, List.forall_mem_cons.mpr ⟨⟨off 14 rfl rfl, (pw_ne hp (i := 14) (j := 9) rfl rfl rfl), (pw_ne hp (i := 14) (j := 2) rfl rfl rfl)⟩, List.forall_mem_cons.mpr ⟨⟨off 11 rfl rfl, (pw_ne hp (i := 11) (j := 9) rfl rfl rfl), (pw_ne hp (i := 11) (j := 2) rfl rfl rfl)⟩, List.forall_mem_cons.mpr ⟨⟨off 10 rfl rfl, (pw_ne hp (i := 10) (j := 9) rfl rfl rfl), (pw_ne hp (i := 10) (j := 2) rfl rfl rfl)⟩, List.forall_mem_cons.mpr ⟨⟨off 5 rfl rfl, (pw_ne hp (i := 5) (j := 9) rfl rfl rfl), (pw_ne hp (i := 5) (j := 2) rfl rfl rfl)⟩, List.forall_mem_cons.mpr ⟨⟨off 3 rfl rfl, (pw_ne hp (i := 3) (j := 9) rfl rfl rfl), (pw_ne hp (i := 3) (j := 2) rfl rfl rfl)⟩, List.forall_mem_cons.mpr ⟨⟨off 1 rfl rfl, (pw_ne hp (i := 1) (j := 9) rfl rfl rfl), (pw_ne hp (i := 1) (j := 2) rfl rfl rfl)⟩, List.forall_mem_nil _⟩⟩⟩⟩⟩⟩⟩⟩
  · intro p hp' k hk
    rw [List.mem_singleton.mp hk]
    revert p
    exact List.forall_mem_cons.mpr ⟨(pw_ne hp (i := 16) (j := 1) rfl rfl rfl), List.forall_mem_cons.mpr ⟨(pw_ne hp (i := 13) (j := 1) rfl rfl rfl), List.forall_mem_cons.mpr ⟨(pw_ne hp (i := 14) (j := 1) rfl rfl rfl), List.forall_mem_cons.mpr ⟨(pw_ne hp (i := 11) (j := 1) rfl rfl rfl), List.forall_mem_cons.mpr ⟨(pw_ne hp (i := 10) (j := 1) rfl rfl rfl), List.forall_mem_cons.mpr ⟨(pw_ne hp (i := 5) (j := 1) rfl rfl rfl), List.forall_mem_cons.mpr ⟨(pw_ne hp (i := 3) (j := 1) rfl rfl rfl), List.forall_mem_nil _⟩⟩⟩⟩⟩⟩⟩
  · show ∀ p ∈ (_ : List (Addr × Obj)), p ∈ _
    k_extra "sub"
  · exact List.forall_mem_cons.mpr ⟨(pw_ne hp (i := 1) (j := 8) rfl rfl rfl), List.forall_mem_cons.mpr ⟨(pw_ne hp (i := 0) (j := 8) rfl rfl rfl), List.forall_mem_cons.mpr ⟨(pw_ne hp (i := 2) (j := 8) rfl rfl rfl), List.forall_mem_cons.mpr ⟨(pw_ne hp (i := 3) (j := 8) rfl rfl rfl), List.forall_mem_cons.mpr ⟨(pw_ne hp (i := 4) (j := 8) rfl rfl rfl), List.forall_mem_cons.mpr ⟨(pw_ne hp (i := 5) (j := 8) rfl rfl rfl), List.forall_mem_cons.mpr ⟨(pw_ne hp (i := 6) (j := 8) rfl rfl rfl), List.forall_mem_cons.mpr ⟨(pw_ne hp (i := 7) (j := 8) rfl rfl rfl), List.forall_mem_cons.mpr ⟨(Nat.ne_of_lt h9.1), List.forall_mem_cons.mpr ⟨(pw_ne hp (i := 9) (j := 8) rfl rfl rfl), List.forall_mem_cons.mpr ⟨(pw_ne hp (i := 10) (j := 8) rfl rfl rfl), List.forall_mem_cons.mpr ⟨(pw_ne hp (i := 11) (j := 8) rfl rfl rfl), List.forall_mem_cons.mpr ⟨(pw_ne hp (i := 12) (j := 8) rfl rfl rfl), List.forall_mem_cons.mpr ⟨(pw_ne hp (i := 13) (j := 8) rfl rfl rfl), List.forall_mem_cons.mpr ⟨(pw_ne hp (i := 14) (j := 8) rfl rfl rfl), List.forall_mem_cons.mpr ⟨(pw_ne hp (i := 15) (j := 8) rfl rfl rfl), List.forall_mem_cons.mpr ⟨(pw_ne hp (i := 16) (j := 8) rfl rfl rfl), List.forall_mem_cons.mpr ⟨(pw_ne hp (i := 17) (j := 8) rfl rfl rfl), List.forall_mem_nil _⟩⟩⟩⟩⟩⟩⟩⟩⟩⟩⟩⟩⟩⟩⟩⟩⟩⟩
  · exact List.forall_mem_cons.mpr ⟨(pw_ne hp (i := 0) (j := 1) rfl rfl rfl), List.forall_mem_cons.mpr ⟨(pw_ne hp (i := 2) (j := 1) rfl rfl rfl), List.forall_mem_cons.mpr ⟨(pw_ne hp (i := 3) (j := 1) rfl rfl rfl), List.forall_mem_cons.mpr ⟨(pw_ne hp (i := 4) (j := 1) rfl rfl rfl), List.forall_mem_cons.mpr ⟨(pw_ne hp (i := 5) (j := 1) rfl rfl rfl), List.forall_mem_cons.mpr ⟨(pw_ne hp (i := 6) (j := 1) rfl rfl rfl), List.forall_mem_cons.mpr ⟨(pw_ne hp (i := 7) (j := 1) rfl rfl rfl), List.forall_mem_cons.mpr ⟨(Nat.ne_of_lt (Nat.lt_trans h9.1 hpa)), List.forall_mem_cons.mpr ⟨(pw_ne hp (i := 9) (j := 1) rfl rfl rfl), List.forall_mem_cons.mpr ⟨(pw_ne hp (i := 10) (j := 1) rfl rfl rfl), List.forall_mem_cons.mpr ⟨(pw_ne hp (i := 11) (j := 1) rfl rfl rfl), List.forall_mem_cons.mpr ⟨(pw_ne hp (i := 12) (j := 1) rfl rfl rfl), List.forall_mem_cons.mpr ⟨(pw_ne hp (i := 13) (j := 1) rfl rfl rfl), List.forall_mem_cons.mpr ⟨(pw_ne hp (i := 14) (j := 1) rfl rfl rfl), List.forall_mem_cons.mpr ⟨(pw_ne hp (i := 15) (j := 1) rfl rfl rfl), List.forall_mem_cons.mpr ⟨(pw_ne hp (i := 16) (j := 1) rfl rfl rfl), List.forall_mem_cons.mpr ⟨(pw_ne hp (i := 17) (j := 1) rfl rfl rfl), List.forall_mem_nil _⟩⟩⟩⟩⟩⟩⟩⟩⟩⟩⟩⟩⟩⟩⟩⟩⟩
  · k_mem
  · k_mem
  · exact fun p hp => N p ((by k_extra "sub" : ∀ p ∈ _, p ∈ _) p hp)
end Mine
end

section
open PySem PySem.W PyProof.Rows
set_option Elab.async false
set_option linter.all false
set_option maxRecDepth 100000
set_option maxHeartbeats 0
namespace Mine
theorem setGlue80 : True := by
  w_top off
  k_with_none
  trivial
section
variable {w : World} {c : CA} {σ τ : DS} {ali sli : Addr} {fix kp led : List (Addr × Obj)} {I : Addr} {oI : Obj}
theorem Lay.keep (L : Lay w c σ τ ali sli fix kp led) (h : ∀ p ∈ led, p.1 ≠ I) : Lay w c σ τ ali sli fix ((I, oI) :: kp) ((I, oI) :: led) := by
  have hf := L.fixed
  obtain ⟨a, b, d, fx, ap, oD, ol, of, oL, ost, osl, osf, oM, hD, hS, hsub⟩ := L
  refine ⟨a, b, d, fun p hp => ?_, fun p hp k hk => ?_, oD, ol, of, oL, ost, osl, osf, oM, hD, hS, ?_⟩
  · rcases List.mem_append.mp hp with hp | hp
    · exact fx p (List.mem_append_left _ hp)
    · rcases List.mem_cons.mp hp with rfl | hp
      · exact offs h hsub
      · exact fx p (List.mem_append_right _ hp)
  · rcases List.mem_cons.mp hk with rfl | hk
    · exact h p (hf p (List.mem_append_left _ hp))
    · exact ap p hp k hk
  · simp only [List.forall_mem_cons] at hsub ⊢
    obtain ⟨h1, h2, h3, h4, h5, h6, h7, h8, h9⟩ := hsub
    refine ⟨.tail _ h1, .tail _ h2, .tail _ h3, .tail _ h4, .tail _ h5, .tail _ h6, .tail _ h7, .tail _ h8, fun p hp => ?_⟩
    rcases List.mem_append.mp hp with hp | hp
    · exact .tail _ (h9 p (List.mem_append_left _ hp))
    · rcases List.mem_cons.mp hp with rfl | hp
      · exact .head _
      · exact .tail _ (h9 p (List.mem_append_right _ hp))
theorem Lay.drop (L : Lay w c σ τ ali sli fix ((I, oI) :: kp) led) (hk : ∀ k ∈ kp, k.1 ≠ I) :
    ∃ led', Lay w c σ τ ali sli fix kp led' ∧ (∀ p ∈ led', p.1 ≠ I) ∧ ∀ p ∈ (I, oI) :: led', p ∈ led := by
  obtain ⟨a, b, d, fx, ap, oD, ol, of, oL, ost, osl, osf, oM, hD, hS, hsub⟩ := L
  have sub : ∀ p ∈ fix ++ kp, p ∈ fix ++ (I, oI) :: kp := fun p hp => (List.mem_append.mp hp).elim (List.mem_append_left _) fun h => List.mem_append_right _ (.tail _ h)
  obtain ⟨g1, g2, g3⟩ := fx (I, oI) (List.mem_append_right _ (.head _))
  refine ⟨(c.dd, oD) :: (c.al, ol) :: (c.af, of) :: (ali, oL) :: (c.st, ost) :: (c.sl, osl) :: (c.sf, osf) :: (sli, oM) :: (fix ++ kp), ⟨a, b, d, fun p hp => fx p (sub p hp), fun p hp k h => ap p hp k (.tail _ h), oD, ol, of, oL, ost, osl, osf, oM, hD, hS, fun _ h => h⟩, ?_, ?_⟩
  · simp only [List.forall_mem_cons]
    refine ⟨Ne.symm g1.dd, Ne.symm g1.al, Ne.symm g1.af, Ne.symm g2, Ne.symm g1.st, Ne.symm g1.sl, Ne.symm g1.sf, Ne.symm g3, fun p hp => ?_⟩
    rcases List.mem_append.mp hp with hp | hp
    · exact ap p hp _ (.head _)
    · exact hk p hp
  · simp only [List.forall_mem_cons] at hsub ⊢
    obtain ⟨h1, h2, h3, h4, h5, h6, h7, h8, h9⟩ := hsub
    exact ⟨h9 _ (List.mem_append_right _ (.head _)), h1, h2, h3, h4, h5, h6, h7, h8, fun p hp => h9 p (sub p hp)⟩
end
theorem right_turn {w : World} {mean : ExcName → Option Value} {mg mb : Str → Option Value} {base : Heap} {env1 : Env} {c : CA} {σ : DS} {ali sli ax I : Addr} {oX oI : Obj} {fix led : List (Addr × Obj)} {x : Str} {tt : Tok} {ls ex : List Str} {i : Nat}
    (hc : Core c) (hls : ls = first11 ++ ex) (hex : ∀ y ∈ ex, y ∈ menu16) (hi : i ≤ 60) (hI : Inv i σ) (hx : ls[i]? = some x) (L : Lay w c σ σ ali sli fix [(ax, oX)] led) (off : ∀ p ∈ led, p.1 ≠ I)
    {A₀ : Around} {L₀ : Addr} {m : Str → Option Value} {s : Shared} {Q E : Value → Shared → Prop}
    (B : Below A₀ base [] base) (F : Fr base L₀ s.heap m) (KX : (hd.heap_1 w.params).In base) (N : News base L₀ s.heap ((I, oI) :: led)) (T : Top hd.view_39 LO mean mg mb base) (hk : env1.scope.kind = .function) (hf : env1.frame = some L₀)
    (hret : ∀ σ' ali' sli' fix' led2 h' tk', Inv (i + 1) σ' → Lay w c σ' σ' ali' sli' fix' [(ax, oX)] led2 → (∀ p ∈ led2, p.1 ≠ I) → (ax, oX) ∈ led2 → Fr base L₀ h' m → News base L₀ h' ((I, oI) :: led2) → Q (.bool true) { s with heap := h', toks := tk' }) :
    wpAny (model PySem.Challenge.rw_pb0238_01.row.prog w) (callerA.deeper env1) (call (.ref 270) [.ref c.dk, .ref c.st, .str x tt]) Q E s := by
  obtain ⟨hx1, hI1⟩ := inv_step hls hex hI hx
  have hax : ∀ k ∈ [(ax, oX)], k.1 ≠ I := fun k hk => off k (L.fixed k (List.mem_append_right _ hk))
  refine right_lay (line := x) hc (hI.1.ok hi) (chk_ok hx1).1 hI1.1.shaped (L.keep (oI := oI) off) B F KX N T hk hf fun ali' sli' fix' led2 h' tk' L1 F1 N1 => ?_
  obtain ⟨led3, L2, off2, sub⟩ := L1.drop hax
  exact hret _ _ _ _ led3 h' tk' hI1 L2 off2 (L2.fixed _ (List.mem_append_right _ (.head _))) F1 fun p hp => N1 p (sub p hp)
theorem pen_ok {l : List Int} : ∀ n ∈ l.map (fun k' => (if k' < 0 then -k' else k').fmod (10 ^ Int.toNat 40) + 10 ^ Int.toNat 40 * if decide (k' < 0) = true then 1 else 0), 0 ≤ n ∧ n < 20000000000000000000000000000000000000000 := by
  intro n hn
  obtain ⟨k, _, rfl⟩ := List.mem_map.mp hn
  have e : (10 : Int) ^ Int.toNat 40 = 10000000000000000000000000000000000000000 := by decide +kernel
  rw [e]
  have h := fmod_small (if k < 0 then -k else k) (k := 10000000000000000000000000000000000000000) (by decide)
  generalize Int.fmod _ _ = r at h ⊢
  split <;> omega
theorem strs_add {vs : List Value} {ls : List Str} {y : Str} {t : Tok} (h : StrsAre vs ls) : StrsAre (vs ++ [.str y t]) (ls ++ [y]) := strs_snoc h
theorem range_n (d : Int) (h0 : 0 ≤ d) (h1 : d < 6) : ∃ n : Nat, n ≤ 15 ∧ Builtin.Range.rangeSize 0 (10 + d) 1 = ((n : Nat) : Int) ∧ Builtin.Range.small 0 (10 + d) 1 = true := by
  have : d = 0 ∨ d = 1 ∨ d = 2 ∨ d = 3 ∨ d = 4 ∨ d = 5 := by omega
  rcases this with rfl | rfl | rfl | rfl | rfl | rfl
  · exact ⟨10, by decide, by decide, by decide⟩
  · exact ⟨11, by decide, by decide, by decide⟩
  · exact ⟨12, by decide, by decide, by decide⟩
  · exact ⟨13, by decide, by decide, by decide⟩
  · exact ⟨14, by decide, by decide, by decide⟩
  · exact ⟨15, by decide, by decide, by decide⟩
end Mine
end

section
open PySem PySem.W PyProof.Rows
set_option Elab.async false
set_option linter.all false
set_option maxRecDepth 100000
set_option maxHeartbeats 0
namespace Mine
theorem setGlue90 : True := by
  w_top off
  k_with_none
  trivial
open PySem.Calls LCg
section
variable {prog : Program} {w : World} {A : Around} {E : Value → Shared → Prop} {s : Shared} {env : Env} {h₀ : Heap} {x : Str} {body : List Stmt} {Q : Flow → Shared → Prop}
theorem map_at {m₁ m₀ : Str → Option Value} {v : Option Value} (h : ∀ z, z ≠ x → m₁ z = m₀ z) : (fun z => if z = x then v else m₁ z) = fun z => if z = x then v else m₀ z := by
  funext z
  by_cases h1 : z = x
  · simp [h1]
  · simp only [if_neg h1]; exact h z h1
theorem map_is {m₁ m₀ : Str → Option Value} (h : ∀ z, z ≠ x → m₁ z = m₀ z) : m₁ = fun z => if z = x then m₁ x else m₀ z := by
  funext z
  by_cases h1 : z = x
  · simp [h1]
  · simp only [if_neg h1]; exact h z h1
theorem strs_of {vs : List Value} {ls : List Str} {i : Nat} {v : Value} (h : StrsAre vs ls) (hv : vs[i]? = some v) : ∃ y t, v = .str y t ∧ ls[i]? = some y := by
  obtain ⟨hi, _⟩ := List.getElem?_eq_some_iff.mp hv
  obtain ⟨y, t, e1, e2⟩ := strs_at h (i := i) (by rw [← strs_len h]; exact hi)
  exact ⟨y, t, Option.some.inj (hv.symm.trans e1), e2⟩
/-- what the drawing of lines keeps -/
def Drawn (pn cA ax : Addr) (rest : List (Addr × Obj)) (i : Nat) (nw : List (Addr × Obj)) : Prop :=
  ∃ (a b : Int) (ta tb : Tok) (np : Nat) (vs : List Value) (exs : List Str) (k : Nat), 0 ≤ a ∧ a ≤ 1 + (i : Int) ∧ 0 ≤ b ∧ b < 20000000000000000000000000000000000000000 ∧ StrsAre vs (first11 ++ exs) ∧ (∀ y ∈ exs, y ∈ menu16) ∧ exs.length = i ∧ nw = (pn, W.listOf #[.ref cA, .int a ta, .int b tb] np) :: (ax, W.listOf vs.toArray k) :: rest
def PickEnd (h₀ : Heap) (L : Addr) (m₀ : Str → Option Value) (x : Str) (pn cA ax : Addr) (rest : List (Addr × Obj)) (i : Nat) (I : Addr) (oI : Obj) (s₁ : Shared) (Q : Flow → Shared → Prop) (f : Flow) (s₂ : Shared) : Prop :=
  match f with
  | .ret v => Q (.ret v) s₂
  | .brk => Q .next s₂
  | _ => ∃ h' tk m' nw, s₂ = { s₁ with heap := h', toks := tk } ∧ Fr h₀ L h' m' ∧ (∀ z, z ≠ x → m' z = m₀ z) ∧ News h₀ L h' ((I, oI) :: nw) ∧ Drawn pn cA ax rest (i + 1) nw
theorem PickEnd.intro {L I pn cA ax : Addr} {oI : Obj} {m₀ m' : Str → Option Value} {rest : List (Addr × Obj)} {i : Nat} {s₁ : Shared} {h' : Heap} {tk np k : Nat} {a b : Int} {ta tb : Tok} {vs : List Value} {exs : List Str} {y : Str} {t : Tok} (F : Fr h₀ L h' m') (hm : ∀ z, z ≠ x → m' z = m₀ z)
    (N : News h₀ L h' ((I, oI) :: (pn, W.listOf #[.ref cA, .int a ta, .int b tb] np) :: (ax, W.listOf (vs ++ [Value.str y t]).toArray k) :: rest)) (a1 : 0 ≤ a) (a2 : a ≤ 1 + ((i + 1 : Nat) : Int)) (b1 : 0 ≤ b) (b2 : b < 20000000000000000000000000000000000000000) (sv : StrsAre vs (first11 ++ exs)) (hex : ∀ y ∈ exs, y ∈ menu16) (hl : exs.length = i) (hy : y ∈ menu16) :
    PickEnd h₀ L m₀ x pn cA ax rest i I oI s₁ Q .next { s₁ with heap := h', toks := tk } :=
  ⟨h', tk, m', _, rfl, F, hm, N, a, b, ta, tb, np, _, exs ++ [y], k, a1, a2, b1, b2, by rw [← List.append_assoc]; exact strs_snoc sv, (fun z hz => (List.mem_append.mp hz).elim (hex z) fun h => (List.mem_singleton.mp h) ▸ hy), by simp [hl], rfl⟩
/-- the loop that draws the lines -/
theorem pick_loop {r pn cA ax : Addr} {oC : Obj} {rest : List (Addr × Obj)} {d a0 b0 : Int} {t u v ta0 tb0 : Tok} {np0 k0 : Nat} {vs0 : List Value} {m₀ : Str → Option Value}
    (hh : A.handled = none) (hr : IsRange s.heap r 0 (10 + d) 1 t u v) (d0 : 0 ≤ d) (d1 : d < 6) (F : Fr h₀ env.locals s.heap m₀) (N : News h₀ env.locals s.heap ((pn, W.listOf #[.ref cA, .int a0 ta0, .int b0 tb0] np0) :: (ax, W.listOf vs0.toArray k0) :: rest))
    (a1 : 0 ≤ a0) (a2 : a0 ≤ 1) (b1 : 0 ≤ b0) (b2 : b0 < 20000000000000000000000000000000000000000) (sv : StrsAre vs0 first11) (hpn : ∀ p ∈ (ax, oC) :: rest, p.1 ≠ pn) (hax : ∀ p ∈ rest, p.1 ≠ ax)
    (turn : ∀ (i : Nat) tv (a b : Int) ta tb np vs exs k I oI h tk, i < 15 → 0 ≤ a → a ≤ 1 + (i : Int) → 0 ≤ b → b < 20000000000000000000000000000000000000000 → StrsAre vs (first11 ++ exs) → (∀ y ∈ exs, y ∈ menu16) → exs.length = i → (@Ne Nat pn I) → (@Ne Nat ax I) → (∀ p ∈ rest, p.1 ≠ I) →
      Fr h₀ env.locals h (fun z => if z = x then some (.int (0 + (i : Int)) tv) else m₀ z) → News h₀ env.locals h ((I, oI) :: (pn, W.listOf #[.ref cA, .int a ta, .int b tb] np) :: (ax, W.listOf vs.toArray k) :: rest) →
      wpAny (model prog w) A (execs body env) (PickEnd h₀ env.locals m₀ x pn cA ax rest i I oI { s with heap := h, toks := tk } Q) E { s with heap := h, toks := tk })
    (done : ∀ uv vs exs k h tk, StrsAre vs (first11 ++ exs) → (∀ y ∈ exs, y ∈ menu16) → exs.length ≤ 15 → Fr h₀ env.locals h (fun z => if z = x then uv else m₀ z) → News h₀ env.locals h ((ax, W.listOf vs.toArray k) :: rest) → Q .next { s with heap := h, toks := tk }) :
    wpAny (model prog w) A (pyIter (.ref r)) (fun it s₂ => LoopAtV prog w A h₀ env x body Q E it s₂) E s := by
  obtain ⟨n, hn15, hn, hsm⟩ := range_n d d0 d1
  refine for_range (fun i m₁ nw => (∀ z, z ≠ x → m₁ z = m₀ z) ∧ Drawn pn cA ax rest i nw) hh hr hsm hn F N ⟨fun _ _ => rfl, a0, b0, ta0, tb0, np0, vs0, [], k0, a1, a2, b1, b2, by rw [List.append_nil]; exact sv, (fun _ q => nomatch q), rfl, rfl⟩ ?_ ?_
  · rintro i tv m₁ nw I oI h tk hi ⟨hm₁, a, b, ta, tb, np, vs, exs, k, p1, p2, p3, p4, p5, p6, p7, rfl⟩ off F₁ N₁
    rw [map_at hm₁] at F₁
    simp only [List.forall_mem_cons] at off
    refine wpAny_mono (turn i tv a b ta tb np vs exs k I oI h tk (by omega) p1 p2 p3 p4 p5 p6 p7 off.1 off.2.1 off.2.2 F₁ N₁) (fun f s₂ p => ?_) fun _ _ e => e
    have fin : (∃ h' tk' m' nw, s₂ = { s with heap := h', toks := tk' } ∧ Fr h₀ env.locals h' m' ∧ (∀ z, z ≠ x → m' z = m₀ z) ∧ News h₀ env.locals h' ((I, oI) :: nw) ∧ Drawn pn cA ax rest (i + 1) nw) →
        ∃ h' tk' m' news', s₂ = { s with heap := h', toks := tk' } ∧ Fr h₀ env.locals h' m' ∧ News h₀ env.locals h' ((I, oI) :: news') ∧ (∀ p ∈ news', p.1 ≠ I) ∧ (∀ p ∈ ([] : List (Addr × Obj)), p ∈ news') ∧ ((∀ z, z ≠ x → m' z = m₀ z) ∧ Drawn pn cA ax rest (i + 1) news') := by
      rintro ⟨h', tk', m', nw, e1, F', hm', N', hd⟩
      refine ⟨h', tk', m', nw, e1, F', N', ?_, (fun _ q => nomatch q), hm', hd⟩
      obtain ⟨_, _, _, _, _, _, _, _, _, _, _, _, _, _, _, rfl⟩ := hd
      simp only [List.forall_mem_cons]
      exact off
    cases f with
    | ret v => exact p
    | brk => exact p
    | next => exact fin p
    | cont => exact fin p
  · rintro m₁ nw h tk ⟨hm₁, a, b, ta, tb, np, vs, exs, k, p1, p2, p3, p4, p5, p6, p7, rfl⟩ F₁ N₁
    rw [map_is hm₁] at F₁
    exact done _ vs exs k h tk p5 p6 (by omega) F₁ fun p hp => N₁ p (.tail _ hp)
def RightEnd (h₀ : Heap) (L : Addr) (m₀ : Str → Option Value) (x : Str) (w : World) (c : CA) (ax : Addr) (oX : Obj) (i : Nat) (I : Addr) (oI : Obj) (s₁ : Shared) (Q : Flow → Shared → Prop) (f : Flow) (s₂ : Shared) : Prop :=
  match f with
  | .ret v => Q (.ret v) s₂
  | .brk => Q .next s₂
  | _ => ∃ h' tk m' σ ali sli fix nw, s₂ = { s₁ with heap := h', toks := tk } ∧ Fr h₀ L h' m' ∧ (∀ z, z ≠ x → m' z = m₀ z) ∧ News h₀ L h' ((I, oI) :: nw) ∧ (∀ p ∈ nw, p.1 ≠ I) ∧ (ax, oX) ∈ nw ∧ Inv (i + 1) σ ∧ Lay w c σ σ ali sli fix [(ax, oX)] nw
theorem RightEnd.intro {L I ax ali sli : Addr} {oI oX : Obj} {m₀ m' : Str → Option Value} {c : CA} {σ : DS} {fix nw : List (Addr × Obj)} {i : Nat} {s₁ : Shared} {h' : Heap} {tk : Nat} (F : Fr h₀ L h' m') (hm : ∀ z, z ≠ x → m' z = m₀ z) (N : News h₀ L h' ((I, oI) :: nw)) (off : ∀ p ∈ nw, p.1 ≠ I) (ha : (ax, oX) ∈ nw) (hI : Inv (i + 1) σ) (hL : Lay w c σ σ ali sli fix [(ax, oX)] nw) :
    RightEnd h₀ L m₀ x w c ax oX i I oI s₁ Q .next { s₁ with heap := h', toks := tk } := ⟨h', tk, m', σ, ali, sli, fix, nw, rfl, F, hm, N, off, ha, hI, hL⟩
/-- the loop that tries the lines -/
theorem right_loop {ax ali sli : Addr} {c : CA} {fix led : List (Addr × Obj)} {vs : List Value} {ls : List Str} {k : Nat} {m₀ : Str → Option Value}
    (hh : A.handled = none) (F : Fr h₀ env.locals s.heap m₀) (N : News h₀ env.locals s.heap led) (sv : StrsAre vs ls) (hL : Lay w c s0 s0 ali sli fix [(ax, W.listOf vs.toArray k)] led)
    (turn : ∀ (i : Nat) y t σ ali sli fix led I oI h tk, ls[i]? = some y → Inv i σ → Lay w c σ σ ali sli fix [(ax, W.listOf vs.toArray k)] led → (∀ p ∈ led, p.1 ≠ I) → Fr h₀ env.locals h (fun z => if z = x then some (.str y t) else m₀ z) → News h₀ env.locals h ((I, oI) :: led) →
      wpAny (model prog w) A (execs body env) (RightEnd h₀ env.locals m₀ x w c ax (W.listOf vs.toArray k) i I oI { s with heap := h, toks := tk } Q) E { s with heap := h, toks := tk })
    (done : ∀ uv led h tk, Fr h₀ env.locals h (fun z => if z = x then uv else m₀ z) → News h₀ env.locals h led → Q .next { s with heap := h, toks := tk }) :
    wpAny (model prog w) A (pyIter (.ref ax)) (fun it s₂ => LoopAtV prog w A h₀ env x body Q E it s₂) E s := by
  refine for_led (fun i m₁ nw => (∀ z, z ≠ x → m₁ z = m₀ z) ∧ ∃ σ ali sli fix, Inv i σ ∧ Lay w c σ σ ali sli fix [(ax, W.listOf vs.toArray k)] nw) hh F N (hL.fixed _ (List.mem_append_right _ (.head _))) ⟨fun _ _ => rfl, _, ali, sli, fix, inv_zero, hL⟩ ?_ ?_
  · rintro i v m₁ nw I oI h tk hv ⟨hm₁, σ, ali, sli, fix, hI, hL⟩ _ off F₁ N₁
    obtain ⟨y, t, rfl, hy⟩ := strs_of sv hv
    rw [map_at hm₁] at F₁
    refine wpAny_mono (turn i y t σ ali sli fix nw I oI h tk hy hI hL off F₁ N₁) (fun f s₂ p => ?_) fun _ _ e => e
    have fin : (∃ h' tk' m' σ ali sli fix nw, s₂ = { s with heap := h', toks := tk' } ∧ Fr h₀ env.locals h' m' ∧ (∀ z, z ≠ x → m' z = m₀ z) ∧ News h₀ env.locals h' ((I, oI) :: nw) ∧ (∀ p ∈ nw, p.1 ≠ I) ∧ (ax, W.listOf vs.toArray k) ∈ nw ∧ Inv (i + 1) σ ∧ Lay w c σ σ ali sli fix [(ax, W.listOf vs.toArray k)] nw) →
        ∃ h' tk' m' news', s₂ = { s with heap := h', toks := tk' } ∧ Fr h₀ env.locals h' m' ∧ News h₀ env.locals h' ((I, oI) :: news') ∧ (∀ p ∈ news', p.1 ≠ I) ∧ (∀ p ∈ [(ax, W.listOf vs.toArray k)], p ∈ news') ∧ ((∀ z, z ≠ x → m' z = m₀ z) ∧ ∃ σ ali sli fix, Inv (i + 1) σ ∧ Lay w c σ σ ali sli fix [(ax, W.listOf vs.toArray k)] news') := by
      rintro ⟨h', tk', m', σ, ali, sli, fix, nw, e1, F', hm', N', off', ha, hI, hL⟩
      exact ⟨h', tk', m', nw, e1, F', N', off', fun p hp => (List.mem_singleton.mp hp) ▸ ha, hm', σ, ali, sli, fix, hI, hL⟩
    cases f with
    | ret v => exact p
    | brk => exact p
    | next => exact fin p
    | cont => exact fin p
  · rintro m₁ nw h tk ⟨hm₁, _⟩ F₁ N₁
    rw [map_is hm₁] at F₁
    exact done _ nw h tk F₁ N₁
end
end Mine
end

section
open PySem PySem.W PyProof.Rows
set_option Elab.async false
set_option linter.all false
set_option maxRecDepth 100000
set_option maxHeartbeats 2000000
set_option pp.maxSteps 8000
namespace Mine
local macro_rules | `(tactic| walk_at "pyIter ref") => `(tactic| (k_here; refine Stop.out ?_))
theorem setLaw30 : True := by
  w_top off
  k_with_none
  k_with "rest1" => (refine' rest_ne1 ?zh ?zs; (case zh => with_reducible assumption); (case zs => k_extra "sub"))
  k_with "rest2" => (rename (∀ p ∈ (_ : List (Addr × Obj)), p.1 < _) => zzR; first | (refine' rest_ne2 zzR ?zs ?zl; (case zs => k_extra "sub"); (case zl => first | exact Nat.le_refl _ | exact Nat.le_succ _ | ((try dsimp only); omega))) | (clear zzR; k_extra "rest2"))
  k_with "rest" => (first | assumption | k_extra "rest1" | k_extra "rest2")
  k_with "sub" => (first | exact List.forall_mem_nil _ | (refine List.forall_mem_cons.mpr ⟨by k_mem, ?_⟩; k_extra "sub") | (intro p hp; (repeat (first | exact hp | refine List.Mem.tail _ ?_)); done))
  k_with "sub" => (intro p hp; (repeat (first | with_reducible exact hp | refine List.Mem.tail _ ?_)); done)
  k_with "nl" => (first | exact Nat.ne_of_lt zz1.1 | exact Nat.ne_of_gt zz1.1 | (replace zz1 := zz1.2; k_extra "nl"))
  k_with "ne" => (refine neN ?_; (try dsimp only); (repeat (rename (@Ne Nat _ _) => zz; clear zz)); omega)
  k_with "ne" => (refine neN ?_; (try dsimp only); (rename (@LT.lt Nat _ _ _ ∧ _) => zz1); first | k_extra "nl" | (clear zz1; (rename (@LT.lt Nat _ _ _ ∧ _) => zz1); first | k_extra "nl" | (clear zz1; (rename (@LT.lt Nat _ _ _ ∧ _) => zz1); k_extra "nl")))
  k_with "ne" => (refine neN ?_; (try dsimp only); first | assumption | (refine Ne.symm ?_; assumption))
  k_with "all" => (first | assumption | k_extra "rest")
  k_with "eval Dict nil nil" => ((k_here; k_dflt (refine' newDict_K ?k1 ?k2 ?zb ?_; (case k1 => k_asm); (case k2 => k_asm); (case zb => exact Top.nolimit (by k_asm)); k_whole); intro d' h' o' F' N' l1 lo' hs' fs' hi' fi'; (try k_lt l1); (try k_sweep)))
  k_with "exec For" => ((k_here; refine Stop.out ?_))
  k_with "exec For Name Call cons nil" => ((k_here; refine Stop.out ?_))
  k_with "exec For Name Name cons nil" => ((k_here; refine Stop.out ?_))
  k_with "call ref" => ((k_here; k_dflt (first | (with_reducible show wpAny _ _ (call (Value.ref 234) _) _ _ _) | (with_reducible show wpAny _ _ (call (Value.ref 241) _) _ _ _) | (with_reducible show wpAny _ _ (call (Value.ref 270) _) _ _ _)); refine Stop.out ?_))
  trivial
theorem holdsX : PySem.Challenge.rw_pb0238_01.Holds := hd (by
  k_go0
  (all_goals try k_fold)
  k_steps
  refine Stop.mk ?_
  rename News _ _ _ _ => kN
  rename Fr _ _ _ _ => kF
  obtain ⟨fix, rest, hc, hL, hpn, hax, mC, mK, N0⟩ := law_pack kN (by assumption) (by assumption) (by assumption) (by assumption) (by assumption) (by assumption) (by assumption) (by assumption) (by assumption) (by assumption) (by assumption) (by assumption) (by assumption) (by assumption) (by assumption) (by assumption) (by assumption) (by assumption) (by assumption) (by assumption) (by assumption) (by assumption) (by assumption) (by assumption) (by assumption) (by assumption) (by assumption)
  clear kN
  with_unfolding_all refine' For_invVF kF ?k1 ?k2 ?_
  case k1 => exact rfl
  case k2 => exact rfl
  (repeat (rename (@LT.lt Nat _ _ _ ∧ _) => zz; clear zz))
  k_steps
  refine Stop.mk ?_
  rename IntsAre _ (List.map _ _) => kI
  refine' draw_all _ _ _ _ _ _ _ _ _ ?dep 6 ?m0 ?m1 _ _ _ _ _ _ _ _ _ _ _ _ _ _ _ _ _ _ _ _ kI ?hln pen_ok ?ha ?ha2 ?hb ?hb2 ?B ?F ?X N0 hpn (.tail _ mC) ?T ?hk ?hf ?_
  case dep => exact Nat.le_of_ble_eq_true rfl
  case m0 => decide
  case m1 => decide
  case hln => rw [List.length_map, List.length_take]; exact Nat.min_le_left _ _
  case ha => decide
  case ha2 => decide
  case hb => decide
  case hb2 => decide
  case B => k_asm
  case F => exact kF
  case X => k_asm
  case T => k_asm
  case hk => rfl
  case hf => rfl
  intro d td a' b' ta' tb' np' h2 tk2 d1 d2 a1 a2 b1 b2 F2 N2
  clear N0 kF
  k_steps
  refine Stop.mk ?_
  rename IsRange _ _ _ _ _ _ _ _ => rgX
  rename Fr _ _ _ _ => kF
  rename News _ _ _ _ => kN
  have hpa : @Ne Nat _ _ := hpn _ (.head _)
  refine' pick_loop rfl rgX d1 d2 kF kN a1 (by omega) b1 b2 ?sv hpn hax ?turn ?done
  case sv => exact .cons _ _ (.cons _ _ (.cons _ _ (.cons _ _ (.cons _ _ (.cons _ _ (.cons _ _ (.cons _ _ (.cons _ _ (.cons _ _ (.cons _ _ .nil))))))))))
  case turn =>
    clear kN kF rgX a1 a2 b1 b2
    intro i tv a b ta tb np vs exs k I oI h3 tk3 hi p1 p2 p3 p4 p5 p6 p7 n1 n2 nr F3 N3
    k_steps
    refine Stop.mk ?_
    rename Fr _ _ _ _ => kF
    refine' pick16 _ _ _ _ _ _ _ _ _ _ _ _ _ _ _ _ _ _ _ _ _ _ _ _ _ _ menu16 ((I, oI) :: (_, W.listOf vs.toArray k) :: rest) kI ?hln pen_ok p1 ?ha2 p3 p4 ?svM rfl ?B ?F ?X ?N ?o (.tail _ (.tail _ mC)) (.tail _ (.tail _ mK)) ?T ?hk ?hf ?_
    case hln => rw [List.length_map, List.length_take]; exact Nat.min_le_left _ _
    case ha2 => omega
    case B => k_asm
    case F => exact kF
    case X => k_asm
    case N => exact fun p hp => N3 p ((by k_extra "sub" : ∀ p ∈ _, p ∈ _) p hp)
    case svM => exact .cons _ _ (.cons _ _ (.cons _ _ (.cons _ _ (.cons _ _ (.cons _ _ (.cons _ _ (.cons _ _ (.cons _ _ (.cons _ _ (.cons _ _ (.cons _ _ (.cons _ _ (.cons _ _ (.cons _ _ (.cons _ _ .nil)))))))))))))))
    case o => exact List.forall_mem_cons.mpr ⟨Ne.symm n1, List.forall_mem_cons.mpr ⟨hpa, fun p hp => hpn p (.tail _ hp)⟩⟩
    case T => k_asm
    case hk => rfl
    case hf => rfl
    intro y t a' b' ta' tb' np' h4 tk4 hy c1 c2 c3 c4 F4 N4
    clear N3
    have hvl : vs.length ≤ 30 := by
      have e := strs_len p5
      rw [List.length_append] at e
      have : first11.length = 11 := rfl
      omega
    k_steps
    rename Fr _ _ _ _ => kF3
    rename News _ _ _ _ => kN3
    (try rw [List.push_toArray] at kN3)
    refine' PickEnd.intro kF3 (fun z hz => if_neg hz) ?gN c1 ?c2 c3 c4 p5 p6 p7 hy
    case gN => exact fun p hp => kN3 p ((by k_extra "sub" : ∀ p ∈ _, p ∈ _) p hp)
    case c2 => omega
  case done =>
    clear kN kF rgX a1 a2 b1 b2
    intro uv vs exs k h5 tk5 sv hex hl F5 N5
    k_steps
    refine Stop.mk ?_
    rename Fr _ _ _ _ => kF
    with_unfolding_all refine' For_invVF kF ?k1 ?k2 ?_
    case k1 => exact rfl
    case k2 => exact rfl
    k_steps
    refine Stop.mk ?_
    rename Fr _ _ _ _ => kF2
    rename News _ _ _ _ => kN2
    refine' right_loop rfl kF2 kN2 sv (hL _) ?turn2 ?done2
    case turn2 =>
      clear kN2 kF2
      intro i y t σ ali sli fix2 led I oI h6 tk6 hy hI hL2 off F6 N6
      k_steps
      refine Stop.mk ?_
      rename Fr _ _ _ _ => kF3
      refine' right_turn hc rfl hex ?hi hI hy hL2 off ?B ?F ?X N6 ?T ?hk ?hf ?_
      case hi =>
        obtain ⟨z, _⟩ := List.getElem?_eq_some_iff.mp hy
        rw [List.length_append] at z
        have : first11.length = 11 := rfl
        omega
      case B => k_asm
      case F => exact kF3
      case X => k_asm
      case T => k_asm
      case hk => rfl
      case hf => rfl
      intro σ' ali' sli' fix' led2 h7 tk7 q1 q2 q3 q4 F7 N7
      clear N6
      k_steps
      exact RightEnd.intro F7 (fun z hz => if_neg hz) N7 q3 q4 q1 q2
    case done2 =>
      intro uv2 led2 h8 tk8 F8 N8
      k_steps)
end Mine
end

end
end

theorem PySem.Challenge.cw_pb0238_01_holds : PySem.Challenge.rw_pb0238_01.Holds :=
  Mine.holdsX
